import PyProof.Rows.All
import Wide.All
import OpenK.AllK
import Wide.FinOn
import PySem.Str
import HandS.ForMost
import HandS.ForExc
import HandS.IsInst
import HandS.Sort
import HandS.Ends
import HandS.SortRule
import HandS.SortInts
import HandS.Zip
import HandS.Wide
import HandS.List
import KE.GoesEnum
import HandS.MakeKw
import HandS.MakeKwOnly
import HandS.Defaults
import HandS.IterVal
import HandS.Property
import HandS.CallSlots
import KE.GoesZip
import KE.GoesMore
import HandS.TupAny
import HandS.Deep
import HandS.Gcd
import HandS.ExcInit
import HandS.ExcField
import HandS.ExcIs
import HandS.NestedK
import HandS.ClsMeth
import KE.KExcSuper
import KE.RegKSuper
import KE.KExcLine
import PySem.Challenge.RW_gridstead_k06_weather_box
set_option linter.all false
set_option Elab.async false
/-! Den: a functional reading of the programs: data, a store of live lists, results; one function for each construct. -/
namespace Dn
open PySem
/-- a condition that is not reckoned, only shown -/
noncomputable def gd {α : Type} (p : Prop) (a b : α) : α := @ite α p (Classical.propDecidable p) a b
theorem gd_pos {α : Type} {p : Prop} (h : p) (a b : α) : gd p a b = a := @if_pos p (Classical.propDecidable p) h α a b
theorem gd_neg {α : Type} {p : Prop} (h : ¬p) (a b : α) : gd p a b = b := @if_neg p (Classical.propDecidable p) h α a b
@[simp] theorem gd_true {α : Type} (a b : α) : gd True a b = a := gd_pos trivial a b
@[simp] theorem gd_false {α : Type} (a b : α) : gd False a b = b := gd_neg id a b
theorem gd_congr {α : Type} {p q : Prop} {a b : α} (h : p = q) : gd p a b = gd q a b := by rw [h]
noncomputable def dec (p : Prop) : Bool := @decide p (Classical.propDecidable p)
theorem dec_eq (p : Prop) [h : Decidable p] : dec p = decide p := by unfold dec; congr
@[simp] theorem dec_true : dec True = true := by rw [dec_eq]; rfl
@[simp] theorem dec_false : dec False = false := by rw [dec_eq]; rfl
@[simp] theorem dec_iff (p : Prop) : (dec p = true) = p := by unfold dec; simp
theorem dec_pos {p : Prop} (h : p) : dec p = true := by rw [dec_iff]; exact h
theorem dec_neg {p : Prop} (h : ¬p) : dec p = false := by
  cases q : dec p with
  | false => rfl
  | true => rw [dec_iff] at q; exact absurd q h

inductive D where
  | non | bl (b : Bool) | int (i : Int) | str (x : Str)
  | tup (xs : List D) | lst (xs : List D)
  /-- a list that is only read: the script, a constant -/
  | ro (xs : List D)
  /-- an instance of the class c with its fields (codes of names) -/
  | obj (c : Nat) (ks : List Nat) (ds : List D)
  /-- a dict that is only read, its keys texts -/
  | dic (ks : List Str) (ds : List D)
  /-- a def by the code of its name -/
  | fn (x : Nat)
  /-- a caught exception -/
  | exc (a : Addr)
inductive A where
  | v (d : D) | ref (n : Nat)
inductive Cell where
  | lst (xs : List A) | frz (ds : List D)
  | obj (c : Nat) (ks : List Nat) (xs : List A) | fro (c : Nat) (ks : List Nat) (ds : List D)
abbrev Store := List Cell
abbrev Env := List (Option A)
structure Exc where
  c : Str
  ks : List Str
  ds : List D
inductive RE (α : Type) where
  | ok (a : α) (st : Store) | err (x : Exc) (st : Store) | bad
inductive RS where
  | nx (σ : Env) (st : Store) | rt (a : A) (st : Store) | bk (σ : Env) (st : Store) | ct (σ : Env) (st : Store)
  | err (x : Exc) (σ : Env) (st : Store) | bad
abbrev EF := Env → Store → RE A
abbrev LF := Env → Store → RE (List A)
abbrev TF := Env → Store → RE Bool
abbrev SF := Env → Store → RS
abbrev TgF := A → Env → Store → Option (Env × Store)

noncomputable def RE.bind {α β : Type} (r : RE α) (f : α → Store → RE β) : RE β := match r with
  | .ok a st => f a st
  | .err x st => .err x st
  | .bad => .bad
@[simp] theorem bind_ok {α β : Type} (a : α) (st : Store) (f : α → Store → RE β) : RE.bind (.ok a st) f = f a st := rfl
@[simp] theorem bind_err {α β : Type} (x : Exc) (st : Store) (f : α → Store → RE β) : RE.bind (.err x st) f = .err x st := rfl
@[simp] theorem bind_bad {α β : Type} (f : α → Store → RE β) : RE.bind .bad f = .bad := rfl
noncomputable def RE.of {α : Type} (o : Option α) (st : Store) : RE α := match o with
  | some a => .ok a st
  | none => .bad
@[simp] theorem of_some {α : Type} (a : α) (st : Store) : RE.of (some a) st = .ok a st := rfl
@[simp] theorem of_none {α : Type} (st : Store) : (RE.of none st : RE α) = .bad := rfl

noncomputable def vals : List A → Option (List D)
  | [] => some []
  | .v d :: r => (vals r).map (d :: ·)
  | .ref _ :: _ => none
@[simp] theorem vals_map (ds : List D) : vals (ds.map A.v) = some ds := by
  induction ds with
  | nil => rfl
  | cons d r ih => show (vals (r.map A.v)).map (d :: ·) = _; rw [ih]; rfl
/-- what is read of a value now -/
noncomputable def A.view (st : Store) : A → Option D
  | .v d => some d
  | .ref n => match st[n]? with
    | some (.lst xs) => (vals xs).map .lst
    | some (.frz ds) => some (.lst ds)
    | some (.obj c ks xs) => (vals xs).map (.obj c ks)
    | some (.fro c ks ds) => some (.obj c ks ds)
    | none => none
/-- the items of a sequence -/
noncomputable def A.elems (st : Store) : A → Option (List A)
  | .v (.lst ds) => some (ds.map .v)
  | .v (.tup ds) => some (ds.map .v)
  | .v (.ro ds) => some (ds.map .v)
  | .v _ => none
  | .ref n => match st[n]? with
    | some (.lst xs) => some xs
    | some (.frz ds) => some (ds.map .v)
    | _ => none
/-- made data: a live list is closed -/
noncomputable def A.frz (st : Store) : A → Option (D × Store)
  | .v d => some (d, st)
  | .ref n => match st[n]? with
    | some (.lst xs) => (vals xs).map fun ds => (.lst ds, st.set n (.frz ds))
    | some (.frz ds) => some (.lst ds, st)
    | some (.obj c ks xs) => (vals xs).map fun ds => (.obj c ks ds, st.set n (.fro c ks ds))
    | some (.fro c ks ds) => some (.obj c ks ds, st)
    | none => none
noncomputable def frzL : Store → List A → Option (List D × Store)
  | st, [] => some ([], st)
  | st, a :: r => (a.frz st).bind fun p => (frzL p.2 r).map fun q => (p.1 :: q.1, q.2)
@[simp] theorem frzL_vals (st : Store) (ds : List D) : frzL st (ds.map A.v) = some (ds, st) := by
  induction ds with
  | nil => rfl
  | cons d r ih => show ((frzL st (r.map A.v)).map fun q => (d :: q.1, q.2)) = _; rw [ih]; rfl
noncomputable def A.below (n : Nat) : A → Bool
  | .v _ => true
  | .ref m => decide (m < n)

/-! expressions -/
noncomputable def fVar (i : Nat) : EF := fun σ st => match σ[i]? with
  | some (some a) => .ok a st
  | _ => .bad
noncomputable def fC (d : D) : EF := fun _ st => .ok (.v d) st
noncomputable def fOp (o : D → D → Option D) (a b : EF) : EF := fun σ st => (a σ st).bind fun x st1 => (b σ st1).bind fun y st2 =>
  RE.of ((x.view st2).bind fun d => (y.view st2).bind fun e => (o d e).map .v) st2
noncomputable def fUn (o : D → Option D) (a : EF) : EF := fun σ st => (a σ st).bind fun x st1 => RE.of ((x.view st1).bind fun d => (o d).map .v) st1
noncomputable def fArgs : List EF → Env → Store → RE (List A)
  | [], _, st => .ok [] st
  | f :: fs, σ, st => (f σ st).bind fun a st1 => (fArgs fs σ st1).bind fun r st2 => .ok (a :: r) st2
noncomputable def viewL (st : Store) : List A → Option (List D)
  | [] => some []
  | a :: r => (a.view st).bind fun d => (viewL st r).map (d :: ·)
/-- a built-in of data -/
noncomputable def fB (o : List D → Option D) (as : List EF) : EF := fun σ st => (fArgs as σ st).bind fun xs st1 => RE.of ((viewL st1 xs).bind fun ds => (o ds).map .v) st1
noncomputable def fTup (as : List EF) : EF := fun σ st => (fArgs as σ st).bind fun xs st1 => match frzL st1 xs with
  | some (ds, st2) => .ok (.v (.tup ds)) st2
  | none => .bad
/-- a new list as data; kept live -/
noncomputable def fFrz (l : LF) : EF := fun σ st => (l σ st).bind fun xs st1 => match frzL st1 xs with
  | some (ds, st2) => .ok (.v (.lst ds)) st2
  | none => .bad
noncomputable def fLive (l : LF) : EF := fun σ st => (l σ st).bind fun xs st1 => if xs.all (A.below st1.length) = true then .ok (.ref st1.length) (st1 ++ [.lst xs]) else .bad
noncomputable def lDisp (as : List EF) : LF := fArgs as
noncomputable def lList (a : EF) : LF := fun σ st => (a σ st).bind fun x st1 => RE.of (x.elems st1) st1
def sizeMax : Nat := 16777216
noncomputable def ixOf (n : Nat) (i : Int) : Option Nat := gd (0 ≤ i) (gd (i < n) (some i.toNat) none) (gd (-(n : Int) ≤ i) (some (i + n).toNat) none)
noncomputable def A.int? : A → Option Int
  | .v (.int i) => some i
  | _ => none
noncomputable def fIx (a b : EF) : EF := fun σ st => (a σ st).bind fun x st1 => (b σ st1).bind fun y st2 =>
  RE.of ((x.elems st2).bind fun xs => y.int?.bind fun i => (ixOf xs.length i).bind fun j => xs[j]?) st2
noncomputable def fIf (t : TF) (a b : EF) : EF := fun σ st => (t σ st).bind fun c st1 => if c = true then a σ st1 else b σ st1
noncomputable def fCall (g : List A → Store → RE A) (as : List EF) : EF := fun σ st => (fArgs as σ st).bind fun xs st1 => g xs st1
noncomputable def lCall (g : List A → Store → RE (List A)) (as : List EF) : LF := fun σ st => (fArgs as σ st).bind fun xs st1 => g xs st1

/-! tests -/
noncomputable def truth (st : Store) : A → Option Bool
  | .v .non => some false
  | .v (.bl b) => some b
  | .v (.int i) => some (i != 0)
  | .v (.tup ds) => some (!ds.isEmpty)
  | .v (.lst ds) => some (!ds.isEmpty)
  | .v (.ro ds) => some (!ds.isEmpty)
  | .v _ => none
  | .ref n => match st[n]? with
    | some (.lst xs) => some (!xs.isEmpty)
    | some (.frz ds) => some (!ds.isEmpty)
    | _ => none
noncomputable def A.bl? : A → Option Bool
  | .v (.bl b) => some b
  | _ => none
/-- an expression as a test, by its truth -/
noncomputable def tOf (a : EF) : TF := fun σ st => (a σ st).bind fun x st1 => RE.of (truth st1 x) st1
/-- a comparison as a test -/
noncomputable def tCmp (a : EF) : TF := fun σ st => (a σ st).bind fun x st1 => RE.of x.bl? st1
noncomputable def tAnd (a b : TF) : TF := fun σ st => (a σ st).bind fun c st1 => if c = true then b σ st1 else .ok false st1
noncomputable def tOr (a b : TF) : TF := fun σ st => (a σ st).bind fun c st1 => if c = true then .ok true st1 else b σ st1
noncomputable def tNot (a : TF) : TF := fun σ st => (a σ st).bind fun c st1 => .ok (!c) st1
noncomputable def tYes : TF := fun _ st => .ok true st
/-- and, or as values, of truth values all but the last -/
noncomputable def fAnd (a b : EF) : EF := fun σ st => (a σ st).bind fun x st1 => match x.bl? with
  | some c => if c = true then b σ st1 else .ok (.v (.bl false)) st1
  | none => .bad
noncomputable def fOr (a b : EF) : EF := fun σ st => (a σ st).bind fun x st1 => match x.bl? with
  | some c => if c = true then .ok (.v (.bl true)) st1 else b σ st1
  | none => .bad
noncomputable def fNot (a : EF) : EF := fun σ st => (a σ st).bind fun x st1 => RE.of (x.bl?.map fun c => .v (.bl (!c))) st1
/-- two comparisons in a row -/
noncomputable def fChain (o o' : D → D → Option D) (a b c : EF) : EF := fun σ st => (a σ st).bind fun x st1 => (b σ st1).bind fun y st2 =>
  (RE.of ((x.view st2).bind fun d => (y.view st2).bind fun e => (o d e).bind fun z => (A.v z).bl?) st2 : RE Bool).bind fun k st3 =>
    if k = true then (c σ st3).bind fun w st4 => RE.of ((y.view st4).bind fun d => (w.view st4).bind fun e => (o' d e).map .v) st4 else .ok (.v (.bl false)) st3

/-! targets -/
noncomputable def tgName (i : Nat) : TgF := fun a σ st => some (σ.set i (some a), st)
noncomputable def tgSeq : List TgF → List D → Env → Store → Option (Env × Store)
  | [], [], σ, st => some (σ, st)
  | t :: ts, d :: ds, σ, st => (t (.v d) σ st).bind fun p => tgSeq ts ds p.1 p.2
  | _, _, _, _ => none
noncomputable def tgTup (ts : List TgF) : TgF := fun a σ st => match a with
  | .v (.tup ds) => tgSeq ts ds σ st
  | _ => none
/-- what is laid into the live list n -/
noncomputable def putA (n : Nat) (st : Store) (a : A) : Option (A × Store) := if a.below n = true then some (a, st) else (a.frz st).map fun p => (.v p.1, p.2)
noncomputable def setL (n : Nat) (i : Int) (a : A) (st : Store) : Option Store := (putA n st a).bind fun p => match p.2[n]? with
  | some (.lst xs) => (ixOf xs.length i).map fun j => p.2.set n (.lst (xs.set j p.1))
  | _ => none
noncomputable def tgSub (o i : EF) : TgF := fun a σ st => match o σ st with
  | .ok (.ref n) st1 => (match i σ st1 with
    | .ok (.v (.int k)) st2 => (setL n k a st2).map fun st3 => (σ, st3)
    | _ => none)
  | _ => none

/-! sequences to walk -/
structure Src where
  xs : List A
  g : Store → Prop
abbrev IF := Env → Store → RE Src
noncomputable def iSeq (a : EF) : IF := fun σ st => (a σ st).bind fun x st1 => match x with
  | .v (.lst ds) => .ok ⟨ds.map .v, fun _ => True⟩ st1
  | .v (.tup ds) => .ok ⟨ds.map .v, fun _ => True⟩ st1
  | .v (.ro ds) => .ok ⟨ds.map .v, fun _ => True⟩ st1
  | .v _ => .bad
  | .ref n => match st1[n]? with
    | some (.lst xs) => .ok ⟨xs, fun st => st[n]? = some (.lst xs)⟩ st1
    | some (.frz ds) => .ok ⟨ds.map .v, fun _ => True⟩ st1
    | _ => .bad
noncomputable def rangeA (lo : Int) : Nat → List A
  | 0 => []
  | n + 1 => .v (.int lo) :: rangeA (lo + 1) n
def okR (i : Int) : Prop := -(2 ^ 62) ≤ i ∧ i < 2 ^ 62
noncomputable def iRange1 (a : EF) : IF := fun σ st => (a σ st).bind fun x st1 => match x with
  | .v (.int n) => gd (okR n) (.ok ⟨rangeA 0 n.toNat, fun _ => True⟩ st1) .bad
  | _ => .bad
noncomputable def iRange2 (a b : EF) : IF := fun σ st => (a σ st).bind fun x st1 => (b σ st1).bind fun y st2 => match x, y with
  | .v (.int i), .v (.int j) => gd (okR i ∧ okR j) (.ok ⟨rangeA i (j - i).toNat, fun _ => True⟩ st2) .bad
  | _, _ => .bad

/-- the data of a list or a tuple, and when it stands -/
noncomputable def A.seqd (st : Store) : A → Option (List D × (Store → Prop))
  | .v (.lst ds) => some (ds, fun _ => True)
  | .v (.tup ds) => some (ds, fun _ => True)
  | .v (.ro ds) => some (ds, fun _ => True)
  | .v _ => none
  | .ref n => match st[n]? with
    | some (.lst xs) => (vals xs).map fun ds => (ds, fun st => st[n]? = some (.lst xs))
    | some (.frz ds) => some (ds, fun _ => True)
    | _ => none
noncomputable def enumA : Nat → List D → List A
  | _, [] => []
  | i, d :: r => .v (.tup [.int (i : Nat), d]) :: enumA (i + 1) r
noncomputable def iEnum (a : EF) : IF := fun σ st => (a σ st).bind fun x st1 => match x.seqd st1 with
  | some (ds, g) => .ok ⟨enumA 0 ds, g⟩ st1
  | none => .bad
noncomputable def zipA : List D → List D → List A
  | d :: r, e :: s => .v (.tup [d, e]) :: zipA r s
  | _, _ => []
noncomputable def iZip (a b : EF) : IF := fun σ st => (a σ st).bind fun x st1 => (b σ st1).bind fun y st2 => match x.seqd st2, y.seqd st2 with
  | some (ds, g), some (es, g') => .ok ⟨zipA ds es, fun st => g st ∧ g' st⟩ st2
  | _, _ => .bad
noncomputable def rangeC (lo c : Int) : Nat → List A
  | 0 => []
  | n + 1 => .v (.int lo) :: rangeC (lo + c) c n
/-- range(i, j, -1) -/
noncomputable def iRangeDn (a b : EF) : IF := fun σ st => (a σ st).bind fun x st1 => (b σ st1).bind fun y st2 => match x, y with
  | .v (.int i), .v (.int j) => gd (okR i ∧ okR j) (.ok ⟨rangeC i (-1) (i - j).toNat, fun _ => True⟩ st2) .bad
  | _, _ => .bad

/-! statements -/
noncomputable def sSeq (a b : SF) : SF := fun σ st => match a σ st with
  | .nx σ1 st1 => b σ1 st1
  | r => r
noncomputable def sNil : SF := fun σ st => .nx σ st
noncomputable def sPass : SF := fun σ st => .nx σ st
noncomputable def sBreak : SF := fun σ st => .bk σ st
noncomputable def sCont : SF := fun σ st => .ct σ st
noncomputable def RE.st {α : Type} (σ : Env) (r : RE α) (f : α → Store → RS) : RS := match r with
  | .ok a st => f a st
  | .err x st => .err x σ st
  | .bad => .bad
@[simp] theorem st_ok {α : Type} (σ : Env) (a : α) (st : Store) (f : α → Store → RS) : RE.st σ (.ok a st) f = f a st := rfl
@[simp] theorem st_err {α : Type} (σ : Env) (x : Exc) (st : Store) (f : α → Store → RS) : RE.st σ (.err x st) f = .err x σ st := rfl
@[simp] theorem st_bad {α : Type} (σ : Env) (f : α → Store → RS) : RE.st σ .bad f = .bad := rfl
noncomputable def sExpr (e : EF) : SF := fun σ st => (e σ st).st σ fun _ st1 => .nx σ st1
noncomputable def sRet (e : EF) : SF := fun σ st => (e σ st).st σ fun a st1 => .rt a st1
noncomputable def sRetN : SF := fun _ st => .rt (.v .non) st
noncomputable def sIf (t : TF) (a b : SF) : SF := fun σ st => (t σ st).st σ fun c st1 => if c = true then a σ st1 else b σ st1
noncomputable def sSet (i : Nat) (e : EF) : SF := fun σ st => (e σ st).st σ fun a st1 => .nx (σ.set i (some a)) st1
noncomputable def sAsg (e : EF) (t : TgF) : SF := fun σ st => (e σ st).st σ fun a st1 => match t a σ st1 with
  | some (σ2, st2) => .nx σ2 st2
  | none => .bad
noncomputable def sPar (i j : Nat) (a b : EF) : SF := fun σ st => (a σ st).st σ fun x st1 => (b σ st1).st σ fun y st2 => .nx ((σ.set i (some x)).set j (some y)) st2
noncomputable def sAug (i : Nat) (o : D → D → Option D) (e : EF) : SF := fun σ st => match σ[i]? with
  | some (some x) => (e σ st).st σ fun y st1 => match (x.view st1).bind fun d => (y.view st1).bind fun k => o d k with
    | some z => .nx (σ.set i (some (.v z))) st1
    | none => .bad
  | _ => .bad
/-- o[i] op= e, o a live list -/
noncomputable def sAugSub (p q : EF) (o : D → D → Option D) (e : EF) : SF := fun σ st => (p σ st).st σ fun x st1 => (q σ st1).st σ fun y st2 => match x, y with
  | .ref n, .v (.int k) => (match st2[n]? with
    | some (.lst xs) => (match (ixOf xs.length k).bind fun j => xs[j]? with
      | some old => (e σ st2).st σ fun w st3 => match (old.view st3).bind fun d => (w.view st3).bind fun u => o d u with
        | some z => (match setL n k (.v z) st3 with
          | some st4 => .nx σ st4
          | none => .bad)
        | none => .bad
      | none => .bad)
    | _ => .bad)
  | _, _ => .bad
open Classical in
noncomputable def forL (t : TgF) (b : SF) (g : Store → Prop) : List A → SF
  | [], σ, st => if g st then .nx σ st else .bad
  | x :: xs, σ, st => if g st then (match t x σ st with
    | some (σ1, st1) => (match b σ1 st1 with
      | .nx σ2 st2 => forL t b g xs σ2 st2
      | .ct σ2 st2 => forL t b g xs σ2 st2
      | .bk σ2 st2 => .nx σ2 st2
      | r => r)
    | none => .bad) else .bad
noncomputable def sFor (i : IF) (t : TgF) (b : SF) : SF := fun σ st => (i σ st).st σ fun s st1 => forL t b s.g s.xs σ st1
noncomputable def whileN (c : TF) (b : SF) : Nat → SF
  | 0, _, _ => .bad
  | n + 1, σ, st => (c σ st).st σ fun k st1 => if k = true then (match b σ st1 with
      | .nx σ2 st2 => whileN c b n σ2 st2
      | .ct σ2 st2 => whileN c b n σ2 st2
      | .bk σ2 st2 => .nx σ2 st2
      | r => r) else .nx σ st1
open Classical in
noncomputable def sWhile (c : TF) (b : SF) : SF := fun σ st => if h : ∃ n, whileN c b n σ st ≠ .bad then whileN c b (Classical.choose h) σ st else .bad
/-- the slots of a comprehension's own names forgotten -/
noncomputable def wipeE (σ : Env) : List Nat → Env
  | [] => σ
  | v :: vs => (wipeE σ vs).set v none
open Classical in
noncomputable def compL (t : TgF) (c : TF) (e : EF) (vs : List Nat) (g : Store → Prop) (σ : Env) : List A → List A → Store → RE (List A)
  | [], acc, st => if g st then .ok acc st else .bad
  | x :: xs, acc, st => if g st then (match t x (wipeE σ vs) st with
    | some (σ1, st1) => (match c σ1 st1 with
      | .ok true st2 => (match e σ1 st2 with
        | .ok a st3 => gd (acc.length < sizeMax) (compL t c e vs g σ xs (acc ++ [a]) st3) .bad
        | _ => .bad)
      | .ok false st2 => compL t c e vs g σ xs acc st2
      | _ => .bad)
    | none => .bad) else .bad
noncomputable def lComp (i : IF) (t : TgF) (c : TF) (e : EF) (vs : List Nat) : LF := fun σ st => (i σ st).bind fun s st1 => compL t c e vs s.g σ s.xs [] st1

/-! methods of live lists -/
noncomputable def isL : Option Cell → Bool
  | some (.lst _) => true
  | some (.frz _) => true
  | _ => false
noncomputable def fAppend (o e : EF) : EF := fun σ st => (o σ st).bind fun x st1 => match x with
  | .ref n => if isL st1[n]? = true then ((e σ st1).bind fun a st2 => match putA n st2 a with
    | some (b, st3) => (match st3[n]? with
      | some (.lst xs) => gd (xs.length < sizeMax) (.ok (.v .non) (st3.set n (.lst (xs ++ [b])))) .bad
      | _ => .bad)
    | none => .bad) else .bad
  | _ => .bad

/-! defs -/
noncomputable def retA (n : Nat) (a : A) (st : Store) : RE A := if a.below n = true then .ok a (st.take n) else match a.frz st with
  | some (d, st2) => .ok (.v d) (st2.take n)
  | none => .bad
noncomputable def fnV (N : Nat) (b : SF) (as : List A) (st : Store) : RE A := match b (as.map some ++ List.replicate (N - as.length) none) st with
  | .nx _ st' => .ok (.v .non) (st'.take st.length)
  | .rt a st' => retA st.length a st'
  | .err x _ st' => .err x (st'.take st.length)
  | _ => .bad
noncomputable def fnL (N : Nat) (b : SF) (as : List A) (st : Store) : RE (List A) := match b (as.map some ++ List.replicate (N - as.length) none) st with
  | .rt (.ref n) st' => gd (st.length ≤ n) (match st'[n]? with
    | some (.lst xs) => if xs.all (A.below st.length) = true then .ok xs (st'.take st.length) else .bad
    | _ => .bad) .bad
  | .err x _ st' => .err x (st'.take st.length)
  | _ => .bad

/-! operations of data -/
noncomputable def oAdd : D → D → Option D
  | .int i, .int j => some (.int (i + j))
  | _, _ => none
noncomputable def oSub : D → D → Option D
  | .int i, .int j => some (.int (i - j))
  | _, _ => none
set_option exponentiation.threshold 3000 in
def big : Nat := 2 ^ 2000
def divOk (j : Int) : Prop := j ≠ 0 ∧ j.natAbs < big
set_option exponentiation.threshold 3000 in
theorem lt_big {n : Nat} (h : n < 2 ^ 64) : n < big := Nat.lt_of_lt_of_le h (Nat.pow_le_pow_right (by decide) (by decide))
theorem divOk_of {j : Int} (h : j ≠ 0) (h2 : j.natAbs < 2 ^ 64) : divOk j := ⟨h, lt_big h2⟩
def mulOk (i j : Int) : Prop := ((-(2 ^ 64) < i ∧ i < 2 ^ 64) ∨ (-(2 ^ 64) < j ∧ j < 2 ^ 64)) ∨ (i.natAbs < big ∧ j.natAbs < big)
noncomputable def oMul : D → D → Option D
  | .int i, .int j => gd (mulOk i j) (some (.int (i * j))) none
  | _, _ => none
noncomputable def oDiv : D → D → Option D
  | .int i, .int j => gd (divOk j) (some (.int (i.fdiv j))) none
  | _, _ => none
noncomputable def oMod : D → D → Option D
  | .int i, .int j => gd (j ≠ 0) (some (.int (i.fmod j))) none
  | _, _ => none
noncomputable def oPow : D → D → Option D
  | .int i, .int j => gd (0 ≤ j ∧ j ≤ 1000000 ∧ i.natAbs < 2 ^ 64) (some (.int (i ^ j.toNat))) none
  | _, _ => none
noncomputable def oNeg : D → Option D
  | .int i => some (.int (-i))
  | _ => none
noncomputable def oLt : D → D → Option D
  | .int i, .int j => some (.bl (dec (i < j)))
  | _, _ => none
noncomputable def oLe : D → D → Option D
  | .int i, .int j => some (.bl (dec (i ≤ j)))
  | _, _ => none
noncomputable def oGt : D → D → Option D
  | .int i, .int j => some (.bl (dec (j < i)))
  | _, _ => none
noncomputable def oGe : D → D → Option D
  | .int i, .int j => some (.bl (dec (j ≤ i)))
  | _, _ => none
/-- equality of scalars; of anything with the empty list or an empty tuple -/
noncomputable def eqS : D → D → Option Bool
  | .int i, .int j => some (dec (i = j))
  | .bl i, .bl j => some (decide (i = j))
  | .str i, .str j => some (dec (i = j))
  | .non, .non => some true
  | .non, .int _ => some false
  | .int _, .non => some false
  | .non, .bl _ => some false
  | .bl _, .non => some false
  | .non, .str _ => some false
  | .str _, .non => some false
  | .int _, .str _ => some false
  | .str _, .int _ => some false
  | .bl _, .str _ => some false
  | .str _, .bl _ => some false
  | _, _ => none
noncomputable def oEqS (d e : D) : Option D := (eqS d e).map .bl
noncomputable def oNeS (d e : D) : Option D := (eqS d e).map fun b => .bl (!b)
noncomputable def oIsN : D → D → Option D
  | d, .non => some (.bl (match d with
    | .non => true
    | _ => false))
  | _, _ => none
noncomputable def oNotN : D → D → Option D
  | d, .non => some (.bl (match d with
    | .non => false
    | _ => true))
  | _, _ => none
noncomputable def flatD : D → Bool
  | .non => true
  | .bl _ => true
  | .int _ => true
  | .str _ => true
  | _ => false
/-- == of flat things: True is 1 -/
noncomputable def eqF : D → D → Bool
  | .non, .non => true
  | .bl a, .bl b => a == b
  | .bl a, .int j => (if a then 1 else 0) == j
  | .int i, .bl b => i == (if b then 1 else 0)
  | .int i, .int j => i == j
  | .str x, .str y => x == y
  | _, _ => false
noncomputable def inF (x : D) (xs : List D) : Bool := xs.any fun y => eqF y x
noncomputable def oIn : D → D → Option D
  | x, .lst xs => if flatD x = true ∧ xs.all flatD = true then some (.bl (inF x xs)) else none
  | x, .tup xs => if flatD x = true ∧ xs.all flatD = true then some (.bl (inF x xs)) else none
  | _, _ => none
noncomputable def oNotIn : D → D → Option D
  | x, .lst xs => if flatD x = true ∧ xs.all flatD = true then some (.bl (!inF x xs)) else none
  | x, .tup xs => if flatD x = true ∧ xs.all flatD = true then some (.bl (!inF x xs)) else none
  | _, _ => none
noncomputable def bAbs : List D → Option D
  | [.int i] => some (.int (if i < 0 then -i else i))
  | _ => none
noncomputable def bMax2 : List D → Option D
  | [.int i, .int j] => some (.int (if j > i then j else i))
  | _ => none
noncomputable def bMin2 : List D → Option D
  | [.int i, .int j] => some (.int (if j < i then j else i))
  | _ => none
noncomputable def bInt : List D → Option D
  | [.int i] => some (.int i)
  | [.bl b] => some (.int (if b then 1 else 0))
  | _ => none
noncomputable def bLen : List D → Option D
  | [.lst xs] => some (.int xs.length)
  | [.tup xs] => some (.int xs.length)
  | _ => none
noncomputable def intsD : List D → Option (List Int)
  | [] => some []
  | .int i :: r => (intsD r).map (i :: ·)
  | _ :: _ => none
@[simp] theorem intsD_map (ns : List Int) : intsD (ns.map D.int) = some ns := by
  induction ns with
  | nil => rfl
  | cons d r ih => show (intsD (r.map D.int)).map (d :: ·) = _; rw [ih]; rfl
noncomputable def bSum : List D → Option D
  | [.lst xs] => (intsD xs).map fun ns => .int ns.sum
  | _ => none
/-- + of ints, tuples, lists -/
noncomputable def oAddU : D → D → Option D
  | .int i, .int j => some (.int (i + j))
  | .tup xs, .tup ys => gd (xs.length + ys.length ≤ sizeMax) (some (.tup (xs ++ ys))) none
  | .lst xs, .lst ys => gd (xs.length + ys.length ≤ sizeMax) (some (.lst (xs ++ ys))) none
  | _, _ => none
noncomputable def repD (n : Nat) (xs : List D) : List D := (List.replicate n xs).flatten
/-- * of ints, of a list and an int -/
noncomputable def oMulU : D → D → Option D
  | .int i, .int j => gd (mulOk i j) (some (.int (i * j))) none
  | .lst xs, .int k => gd (-(2 ^ 63) ≤ k ∧ k < 2 ^ 63 ∧ xs.length * k.toNat ≤ sizeMax) (some (.lst (repD k.toNat xs))) none
  | _, _ => none
/-- == of scalars, of a list with an empty one -/
noncomputable def eqU : D → D → Option Bool
  | .lst xs, .lst [] => some xs.isEmpty
  | .lst [], .lst (_ :: _) => some false
  | d, e => eqS d e
noncomputable def oEqU (d e : D) : Option D := (eqU d e).map .bl
noncomputable def oNeU (d e : D) : Option D := (eqU d e).map fun b => .bl (!b)
/-- is of anything with a truth value -/
noncomputable def oIsB : D → D → Option D
  | .bl a, .bl b => some (.bl (decide (a = b)))
  | _, .bl _ => some (.bl false)
  | _, _ => none
/-- len(x), x a list or a tuple, live ones too -/
noncomputable def fLen (a : EF) : EF := fun σ st => (a σ st).bind fun x st1 => RE.of ((x.elems st1).map fun xs => .v (.int xs.length)) st1
/-- tuple(x) -/
noncomputable def fTuple (a : EF) : EF := fun σ st => (a σ st).bind fun x st1 => match x.elems st1 with
  | some xs => (match frzL st1 xs with
    | some (ds, st2) => .ok (.v (.tup ds)) st2
    | none => .bad)
  | none => .bad
inductive Ty where
  | int | bool | str | tuple | list
noncomputable def isTy : D → Ty → Bool
  | .int _, .int => true
  | .bl _, .int => true
  | .bl _, .bool => true
  | .str _, .str => true
  | .tup _, .tuple => true
  | .lst _, .list => true
  | .ro _, .list => true
  | _, _ => false
noncomputable def tyOk : D → Bool
  | .obj _ _ _ => false
  | .dic _ _ => false
  | .fn _ => false
  | .exc _ => false
  | _ => true
noncomputable def fIsi (a : EF) (t : Ty) : EF := fun σ st => (a σ st).bind fun x st1 => RE.of ((x.view st1).bind fun d => if tyOk d = true then some (.v (.bl (isTy d t))) else none) st1
noncomputable def insI (x : Int) : List Int → List Int
  | [] => [x]
  | y :: r => if x ≤ y then x :: y :: r else y :: insI x r
noncomputable def sortI : List Int → List Int
  | [] => []
  | x :: r => insI x (sortI r)
noncomputable def lSorted (a : EF) : LF := fun σ st => (a σ st).bind fun x st1 => RE.of ((x.view st1).bind fun d => match d with
  | .lst xs => (intsD xs).bind fun ns => gd (ns.length < 64) (some ((sortI ns).map fun i => .v (.int i))) none
  | _ => none) st1
noncomputable def lRange1 (a : EF) : LF := fun σ st => (a σ st).bind fun x st1 => match x with
  | .v (.int n) => gd (okR n ∧ n ≤ 16777216) (.ok (rangeA 0 n.toNat) st1) .bad
  | _ => .bad
noncomputable def maxI : List Int → Option Int
  | [] => none
  | x :: r => some (r.foldl (fun m y => if y > m then y else m) x)
noncomputable def minI : List Int → Option Int
  | [] => none
  | x :: r => some (r.foldl (fun m y => if y < m then y else m) x)
noncomputable def bMax : List D → Option D
  | [.lst xs] => (intsD xs).bind fun ns => (maxI ns).map .int
  | _ => none
noncomputable def bMin : List D → Option D
  | [.lst xs] => (intsD xs).bind fun ns => (minI ns).map .int
  | _ => none
noncomputable def boolsD : List D → Option (List Bool)
  | [] => some []
  | .bl i :: r => (boolsD r).map (i :: ·)
  | _ :: _ => none
@[simp] theorem boolsD_map (ns : List Bool) : boolsD (ns.map D.bl) = some ns := by
  induction ns with
  | nil => rfl
  | cons d r ih => show (boolsD (r.map D.bl)).map (d :: ·) = _; rw [ih]; rfl
noncomputable def bAll : List D → Option D
  | [.lst xs] => (boolsD xs).map fun bs => .bl (bs.all id)
  | _ => none
noncomputable def bAny : List D → Option D
  | [.lst xs] => (boolsD xs).map fun bs => .bl (bs.any id)
  | _ => none
noncomputable def pairD (p : Int × Int) : D := .tup [.int p.1, .int p.2]
noncomputable def pairsD : List D → Option (List (Int × Int))
  | [] => some []
  | .tup [.int i, .int j] :: r => (pairsD r).map ((i, j) :: ·)
  | _ :: _ => none
theorem pairsD_map (ps : List (Int × Int)) : pairsD (ps.map pairD) = some ps := by
  induction ps with
  | nil => rfl
  | cons p r ih => show (pairsD (r.map pairD)).map ((p.1, p.2) :: ·) = _; rw [ih]; rfl
def lePP (p q : Int × Int) : Prop := p.1 < q.1 ∨ (p.1 = q.1 ∧ p.2 ≤ q.2)
noncomputable def insP (x : Int × Int) : List (Int × Int) → List (Int × Int)
  | [] => [x]
  | y :: r => if dec (lePP x y) = true then x :: y :: r else y :: insP x r
noncomputable def sortP : List (Int × Int) → List (Int × Int)
  | [] => []
  | x :: r => insP x (sortP r)
/-- sorted(x), ints or pairs of ints, any number of them -/
noncomputable def lSortedU (a : EF) : LF := fun σ st => (a σ st).bind fun x st1 => RE.of ((x.view st1).bind fun d => match d with
  | .lst xs => match intsD xs with
    | some ns => some ((sortI ns).map fun i => .v (.int i))
    | none => (pairsD xs).map fun ps => (sortP ps).map fun p => .v (pairD p)
  | _ => none) st1
noncomputable def lexLtI : List Int → List Int → Bool
  | [], [] => false
  | [], _ :: _ => true
  | _ :: _, [] => false
  | x :: xs, y :: ys => if dec (x = y) = true then lexLtI xs ys else dec (x < y)
/-- < of ints, of tuples of ints -/
noncomputable def oLtU : D → D → Option D
  | .int i, .int j => some (.bl (dec (i < j)))
  | .tup xs, .tup ys => (intsD xs).bind fun ns => (intsD ys).map fun ms => .bl (lexLtI ns ms)
  | _, _ => none
/-- the items of a list or a tuple of data -/
noncomputable def seqD : D → Option (List D)
  | .lst xs => some xs
  | .tup xs => some xs
  | _ => none
noncomputable def bSumU : List D → Option D
  | [d] => (seqD d).bind fun xs => (intsD xs).map fun ns => .int ns.sum
  | _ => none
noncomputable def bMaxU : List D → Option D
  | [d] => (seqD d).bind fun xs => (intsD xs).bind fun ns => (maxI ns).map .int
  | _ => none
noncomputable def bMinU : List D → Option D
  | [d] => (seqD d).bind fun xs => (intsD xs).bind fun ns => (minI ns).map .int
  | _ => none
/-- an operation that makes a new list -/
noncomputable def lOp (o : D → D → Option (List D)) (a b : EF) : LF := fun σ st => (a σ st).bind fun x st1 => (b σ st1).bind fun y st2 =>
  RE.of ((x.view st2).bind fun d => (y.view st2).bind fun e => (o d e).map fun ds => ds.map .v) st2
noncomputable def oRepL : D → D → Option (List D)
  | .lst xs, .int k => gd (-(2 ^ 63) ≤ k ∧ k < 2 ^ 63 ∧ xs.length * k.toNat ≤ sizeMax) (some (repD k.toNat xs)) none
  | _, _ => none
noncomputable def oCatL : D → D → Option (List D)
  | .lst xs, .lst ys => gd (xs.length + ys.length ≤ sizeMax) (some (xs ++ ys)) none
  | _, _ => none
mutual
noncomputable def toPy : D → PyData
  | .non => .none
  | .bl b => .bool b
  | .int i => .int i
  | .str x => .str x
  | .tup xs => .tuple (toPyL xs)
  | .lst xs => .list (toPyL xs)
  | .ro xs => .list (toPyL xs)
  | _ => .dict []
noncomputable def toPyL : List D → List PyData
  | [] => []
  | d :: r => toPy d :: toPyL r
end
def shp (d : D) : Prop := SeqAt.shaped (toPy d) = true
noncomputable def eqDD (d e : D) : Bool := PyData.eqv (toPy d) (toPy e)
/-- == of anything -/
noncomputable def oEqG (d e : D) : Option D := match eqU d e with
  | some b => some (.bl b)
  | none => gd (shp d ∧ shp e) (some (.bl (eqDD d e))) none
noncomputable def oNeG (d e : D) : Option D := match eqS d e with
  | some b => some (.bl (!b))
  | none => gd (shp d ∧ shp e) (some (.bl (!eqDD d e))) none
/-- raise C(e), C an own class whose __init__ lays e into the field fld -/
noncomputable def sRaise1 (c fld : Str) (e : EF) : SF := fun σ st => (e σ st).st σ fun a st1 => match a.frz st1 with
  | some (d, st2) => .err ⟨c, [fld], [d]⟩ σ st2
  | none => .bad
/-! objects -/
noncomputable def fldL {α : Type} (f : Nat) : List Nat → List α → Option α
  | k :: ks, d :: ds => if k = f then some d else fldL f ks ds
  | _, _ => none
/-- a field written: its place, or a new one at the end -/
noncomputable def fsK (f : Nat) : List Nat → List Nat
  | [] => [f]
  | k :: ks => if k = f then k :: ks else k :: fsK f ks
noncomputable def fsX {α : Type} (f : Nat) (a : α) : List Nat → List α → List α
  | k :: ks, x :: xs => if k = f then a :: xs else x :: fsX f a ks xs
  | _, _ => [a]
noncomputable def A.fld (st : Store) (f : Nat) : A → Option A
  | .v (.obj _ ks ds) => (fldL f ks ds).map .v
  | .v _ => none
  | .ref n => match st[n]? with
    | some (.obj _ ks xs) => fldL f ks xs
    | some (.fro _ ks ds) => (fldL f ks ds).map .v
    | _ => none
/-- e.f -/
noncomputable def fFld (f : Nat) (e : EF) : EF := fun σ st => (e σ st).bind fun x st1 => RE.of (x.fld st1 f) st1
/-- o.f = e, o a live instance of c -/
noncomputable def sFldSet (c f : Nat) (o e : EF) : SF := fun σ st => (e σ st).st σ fun a st1 => (o σ st1).st σ fun x st2 => match x with
  | .ref n => (match putA n st2 a with
    | some (b, st3) => (match st3[n]? with
      | some (.obj c' ks xs) => gd (c' = c ∧ ks.length < 1000) (.nx σ (st3.set n (.obj c (fsK f ks) (fsX f b ks xs)))) .bad
      | _ => .bad)
    | none => .bad)
  | _ => .bad
/-- a parameter's value: a positional argument, a default, a keyword's value, by its place -/
inductive Arg3 where
  | u (i : Nat) | m (i : Nat) | w (i : Nat)
def g3 {α : Type} (o : List Arg3) (us ms ws : List α) : List α := o.filterMap fun
  | .u i => us[i]?
  | .m i => ms[i]?
  | .w i => ws[i]?
noncomputable def newObj (c : Nat) (g : List A → Store → RE A) (args : A → List A) (st1 : Store) : RE A := match g (args (.ref st1.length)) (st1 ++ [.obj c [] []]) with
  | .ok (.v .non) st2 => (match (A.ref st1.length).frz st2 with
    | some (d, st3) => .ok (.v d) (st3.take st1.length)
    | none => .bad)
  | .err x st2 => .err x (st2.take st1.length)
  | _ => .bad
/-- a new instance, closed at once: n positional arguments, then keywords -/
noncomputable def fNew (c n : Nat) (o : List Arg3) (ms : List D) (g : List A → Store → RE A) (as : List EF) : EF := fun σ st => (fArgs as σ st).bind fun xs st1 => newObj c g (fun s => g3 o (s :: xs.take n) (ms.map .v) (xs.drop n)) st1
/-- the same, positional arguments and then defaults -/
noncomputable def fNewP (c : Nat) (ms : List D) (g : List A → Store → RE A) (as : List EF) : EF := fun σ st => (fArgs as σ st).bind fun xs st1 => newObj c g (fun s => s :: (xs ++ ms.map .v)) st1
/-- a call with keywords and defaults -/
noncomputable def fCallK (n : Nat) (o : List Arg3) (ms : List D) (g : List A → Store → RE A) (as : List EF) : EF := fun σ st => (fArgs as σ st).bind fun xs st1 => g (g3 o (xs.take n) (ms.map .v) (xs.drop n)) st1
noncomputable def fCallP (ms : List D) (g : List A → Store → RE A) (as : List EF) : EF := fun σ st => (fArgs as σ st).bind fun xs st1 => g (xs ++ ms.map .v) st1
noncomputable def A.clsOf (st : Store) : A → Option Nat
  | .v (.obj c _ _) => some c
  | .v _ => none
  | .ref n => match st[n]? with
    | some (.obj c _ _) => some c
    | some (.fro c _ _) => some c
    | _ => none
/-- o.m(..), m a method of the class c -/
noncomputable def fMeth (c : Nat) (g : List A → Store → RE A) (o : EF) (as : List EF) : EF := fun σ st => (o σ st).bind fun x st1 => (fArgs as σ st1).bind fun xs st2 => match x.clsOf st1 with
  | some c' => if c' = c then g (x :: xs) st2 else .bad
  | none => .bad
/-- f(..), f a local name that holds a def -/
noncomputable def fCallV (i : Nat) (tb : List (Nat × (List A → Store → RE A))) (as : List EF) : EF := fun σ st => match σ[i]? with
  | some (some (.v (.fn y))) => (match (tb.find? fun p => p.1 = y) with
    | some p => (fArgs as σ st).bind fun xs st1 => p.2 xs st1
    | none => .bad)
  | _ => .bad
/-- {'a': x, ..} -/
noncomputable def fDic (ks : List Str) (as : List EF) : EF := fun σ st => (fArgs as σ st).bind fun xs st1 => match frzL st1 xs with
  | some (ds, st2) => .ok (.v (.dic ks ds)) st2
  | none => .bad
noncomputable def zipA3 : List D → List D → List D → List A
  | d :: r, e :: s, f :: t => .v (.tup [d, e, f]) :: zipA3 r s t
  | _, _, _ => []
noncomputable def iZip3 (a b c : EF) : IF := fun σ st => (a σ st).bind fun x st1 => (b σ st1).bind fun y st2 => (c σ st2).bind fun z st3 => match x.seqd st3, y.seqd st3, z.seqd st3 with
  | some (ds, g), some (es, g'), some (fs, g'') => .ok ⟨zipA3 ds es fs, fun st => g st ∧ g' st ∧ g'' st⟩ st3
  | _, _, _ => .bad
/-- a slice's bound, brought into 0 .. n -/
noncomputable def sI (n dflt : Nat) : Option Int → Nat
  | none => dflt
  | some i => gd (i < 0) (i + n).toNat (min i.toNat n)
noncomputable def cutD {α : Type} (xs : List α) (lo hi : Option Int) : List α := (xs.drop (sI xs.length 0 lo)).take (sI xs.length xs.length hi - sI xs.length 0 lo)
noncomputable def optI : Option EF → Env → Store → RE (Option Int)
  | none, _, st => .ok none st
  | some e, σ, st => (e σ st).bind fun x st1 => match x with
    | .v (.int i) => .ok (some i) st1
    | _ => .bad
/-- x[lo:hi] of a list (a new one) or a tuple -/
noncomputable def fSlice (a : EF) (lo hi : Option EF) : EF := fun σ st => (a σ st).bind fun x st1 => (optI lo σ st1).bind fun l st2 => (optI hi σ st2).bind fun u st3 => match x.view st3 with
  | some (.tup ds) => .ok (.v (.tup (cutD ds l u))) st3
  | some (.lst ds) => .ok (.v (.lst (cutD ds l u))) st3
  | _ => .bad
noncomputable def lSlice (a : EF) (lo hi : Option EF) : LF := fun σ st => (a σ st).bind fun x st1 => (optI lo σ st1).bind fun l st2 => (optI hi σ st2).bind fun u st3 => match x.view st3 with
  | some (.lst ds) => .ok ((cutD ds l u).map .v) st3
  | _ => .bad
noncomputable def dicGet (x : Str) : List Str → List D → Option D
  | k :: ks, d :: ds => if dec (k = x) = true then some d else dicGet x ks ds
  | _, _ => none
/-- d[k], k a text -/
noncomputable def fDget (o i : EF) : EF := fun σ st => (o σ st).bind fun x st1 => (i σ st1).bind fun y st2 => match x, y with
  | .v (.dic ks ds), .v (.str z) => RE.of ((dicGet z ks ds).map .v) st2
  | _, _ => .bad
noncomputable def hasK (x : Str) (ks : List Str) : Bool := ks.any fun k => dec (k = x)
/-- in, not in: of flat things, of a text in a dict, of anything in a list -/
noncomputable def oInU : D → D → Option D
  | .str x, .dic ks _ => some (.bl (hasK x ks))
  | d, e => oIn d e
noncomputable def oNotInU : D → D → Option D
  | .str x, .dic ks _ => some (.bl (!hasK x ks))
  | d, e => oNotIn d e
/-- what is never reached -/
noncomputable def sBad : SF := fun _ _ => .bad
noncomputable def fBad : EF := fun _ _ => .bad
end Dn

set_option linter.all false
/-! The names of classes, fields and defs by their codes. -/
namespace Dn
open PySem
def nmL : List Str := [Str.ofString "Line", Str.ofString "Plant", Str.ofString "Store", Str.ofString "Load", Str.ofString "World", Str.ofString "Ratio", Str.ofString "Plan", Str.ofString "BadCommand", Str.ofString "BadMarket", Str.ofString "BadPlan", Str.ofString "BadTask", Str.ofString "BadText", Str.ofString "BadUpgrade", Str.ofString "BadWorld", Str.ofString "Balance", Str.ofString "Challenge", Str.ofString "Desk", Str.ofString "Draft", Str.ofString "Ended", Str.ofString "GridError", Str.ofString "IsBridge", Str.ofString "Market", Str.ofString "NoEvent", Str.ofString "NoFit", Str.ofString "NoOrder", Str.ofString "NoRatio", Str.ofString "NoState", Str.ofString "NotJoined", Str.ofString "NotListed", Str.ofString "NotOneShape", Str.ofString "NotQuiet", Str.ofString "OnHandover", Str.ofString "OutOfReach", Str.ofString "Reader", Str.ofString "Report", Str.ofString "Room", Str.ofString "Rule", Str.ofString "Service", Str.ofString "Settled", Str.ofString "Singular", Str.ofString "Task", Str.ofString "TooMany", Str.ofString "TooWide", Str.ofString "Unbalanced", Str.ofString "Unsafe", Str.ofString "Upgrade", Str.ofString "Work", Str.ofString "WorkGame", Str.ofString "a", Str.ofString "b", Str.ofString "weight", Str.ofString "rating", Str.ofString "peak", Str.ofString "hold", Str.ofString "burn", Str.ofString "backup", Str.ofString "reclose", Str.ofString "repair", Str.ofString "node", Str.ofString "least", Str.ofString "most", Str.ofString "ramp", Str.ofString "share", Str.ofString "warm", Str.ofString "black", Str.ofString "unit", Str.ofString "idle", Str.ofString "launch", Str.ofString "fuel", Str.ofString "capacity", Str.ofString "power", Str.ofString "loss", Str.ofString "charge", Str.ofString "rank", Str.ofString "patience", Str.ofString "nodes", Str.ofString "lines", Str.ofString "plants", Str.ofString "stores", Str.ofString "loads", Str.ofString "hours", Str.ofString "beats", Str.ofString "weathers", Str.ofString "frail", Str.ofString "meters", Str.ofString "orders", Str.ofString "handovers", Str.ofString "lag", Str.ofString "rest", Str.ofString "tolerance", Str.ofString "num", Str.ofString "den", Str.ofString "targets", Str.ofString "powers", Str.ofString "word", Str.ofString "place", Str.ofString "hour", Str.ofString "line", Str.ofString "number", Str.ofString "islands", Str.ofString "live", Str.ofString "surplus", Str.ofString "shed", Str.ofString "pulses", Str.ofString "served", Str.ofString "outputs", Str.ofString "_world", Str.ofString "_plan", Str.ofString "_k", Str.ofString "_replies", Str.ofString "_belief", Str.ofString "_heard", Str.ofString "_limit", Str.ofString "_done", Str.ofString "_undone", Str.ofString "_moment", Str.ofString "world", Str.ofString "plan", Str.ofString "book", Str.ofString "allowance", Str.ofString "_state", Str.ofString "_log", Str.ofString "kind", Str.ofString "found", Str.ofString "zones", Str.ofString "links", Str.ofString "bids", Str.ofString "offers", Str.ofString "event", Str.ofString "index", Str.ofString "order", Str.ofString "clock", Str.ofString "total", Str.ofString "_lines", Str.ofString "_read", Str.ofString "demands", Str.ofString "flows", Str.ofString "rounds", Str.ofString "burnt", Str.ofString "starved", Str.ofString "observation", Str.ofString "quant", Str.ofString "tests", Str.ofString "pulse", Str.ofString "balance", Str.ofString "reserves", Str.ofString "first", Str.ofString "limit", Str.ofString "count", Str.ofString "name", Str.ofString "cost", Str.ofString "change", Str.ofString "steps", Str.ofString "whole", Str.ofString "bare", Str.ofString "k", Str.ofString "work", Str.ofString "greatest_reading", Str.ofString "grid_is_home", Str.ofString "handover_of", Str.ofString "injections", Str.ofString "island_of", Str.ofString "item_of", Str.ofString "line_checks", Str.ofString "line_is_broken", Str.ofString "line_is_hot", Str.ofString "line_is_open", Str.ofString "line_of", Str.ofString "link_fits", Str.ofString "load_checks", Str.ofString "load_is_short", Str.ofString "load_of", Str.ofString "moves_of", Str.ofString "plant_checks", Str.ofString "plant_is_down", Str.ofString "plant_of", Str.ofString "ranks", Str.ofString "reading", Str.ofString "replaced", Str.ofString "step", Str.ofString "store_checks", Str.ofString "store_of", Str.ofString "store_row", Str.ofString "trade_fits", Str.ofString "weather_of"]
def nm (i : Nat) : Str := nmL[i]?.getD (Str.ofString "")
def flL : List (List Nat) := [[48, 49, 50, 51, 52, 53, 54, 55, 56, 57], [58, 59, 60, 61, 62, 63, 57, 64, 65, 66, 67, 68], [58, 69, 70, 71, 72], [58, 73, 74], [75, 76, 77, 78, 79, 80, 81, 82, 83, 84, 85, 86, 87, 88, 89], [90, 91], [92, 93], [94], [95], [96], [95], [97], [98], [95], [99, 100, 101, 102, 103, 104, 93, 105], [106, 107, 108, 109, 110, 111], [112, 113, 114, 115, 116, 117, 118, 119, 120, 110, 121], [122, 123, 75, 80, 81, 87, 88, 89], [], [], [97], [124, 125, 126, 127], [128], [129], [130], [], [], [], [129], [], [], [131], [132], [133, 134], [135, 104, 93, 105, 136, 137, 138, 139, 140], [106, 107, 108, 112, 110, 121], [141, 142, 130], [101, 104, 93, 105, 143], [76, 77, 144, 136, 137], [], [116, 135, 145, 146], [147], [148], [58], [], [149, 150, 151], [97, 152], [153, 154, 117, 155, 156]]
def fl (c : Nat) : List Nat := flL[c]?.getD []
theorem nmL_nodup : nmL.Nodup := by decide +kernel
theorem fl_lt : ∀ c f, f ∈ fl c → f < nmL.length := by
  have h : ∀ l ∈ flL, ∀ f ∈ l, f < nmL.length := by decide +kernel
  intro c f hf
  unfold fl at hf
  cases q : flL[c]? with
  | none => rw [q] at hf; cases hf
  | some l =>
    rw [q] at hf
    exact h l (List.mem_of_getElem? q) f hf
theorem nm_inj {i j : Nat} (hi : i < nmL.length) (hj : j < nmL.length) (h : nm i = nm j) : i = j := by
  unfold nm at h
  rw [List.getElem?_eq_getElem hi, List.getElem?_eq_getElem hj] at h
  have h : nmL[i] = nmL[j] := h
  have pw := List.pairwise_iff_getElem.mp nmL_nodup
  rcases Nat.lt_trichotomy i j with q | q | q
  · exact absurd h (pw i j hi hj q)
  · exact q
  · exact absurd h.symm (pw j i hj hi q)
end Dn

set_option linter.all false
set_option Elab.async false
set_option maxRecDepth 100000
/-! Sim: what the functions of Den say of the machine. -/
namespace Dn
open PySem PySem.Spec PyProof.Rows L2

/-- the written part, the module's names, the own classes (codes) -/
structure KM where
  K : PySem.W.Frag
  mg : Str → Option Value
  cs : List Nat
instance : Coe KM PySem.W.Frag := ⟨fun k => k.K⟩
/-- C is the class c, the fields are its own -/
def OwnC (K : KM) (c : Nat) (C : Addr) (ks : List Nat) : Prop := c ∈ K.cs ∧ K.mg (nm c) = some (.ref C) ∧ ∀ f ∈ ks, f ∈ fl c

theorem Same.tup {K : PySem.W.Frag} {H H' : Hp} {a : Addr} {xs : List V} (e : Same H H') (h : SqT K H a xs) : SqT K H' a xs := by
  rcases h with (h | ⟨o, h⟩) | h
  · exact .inl (.inl (e _ _ h))
  · exact .inl (.inr ⟨o, e _ _ h⟩)
  · exact .inr h

mutual
/-- the data d is read at v -/
inductive Rep (K : KM) (H : Hp) : D → V → Prop
  | non : Rep K H .non .non
  | bl {b : Bool} : Rep K H (.bl b) (.bl b)
  | int {i : Int} : Rep K H (.int i) (.int i)
  | str {x : Str} : Rep K H (.str x) (.str x)
  | tup {a : Addr} {ds : List D} {vs : List V} : H a = some (.tup vs) → Reps K H ds vs → Rep K H (.tup ds) (.ref a)
  | lst {a : Addr} {ds : List D} {vs : List V} : H a = some (.lst vs) → Reps K H ds vs → Rep K H (.lst ds) (.ref a)
  | ro {a : Addr} {ds : List D} {vs : List V} : SqL K H a vs → Reps K H ds vs → Rep K H (.ro ds) (.ref a)
  | tup0 {a : Addr} : SqT K H a [] → Rep K H (.tup []) (.ref a)
  | obj {a C dx : Addr} {c : Nat} {ks : List Nat} {ds : List D} {fs : List (Str × V)} : H a = some (.ins C dx fs) → OwnC K c C ks → fs.map (·.1) = ks.map nm → Reps K H ds (fs.map (·.2)) → Rep K H (.obj c ks ds) (.ref a)
  | dic {a : Addr} {ks : List Str} {ds : List D} {kvs : List (Key × V)} : H a = some (.dK kvs) → kvs.map (·.1) = ks.map Sum.inr → ks.Nodup → Reps K H ds (kvs.map (·.2)) → Rep K H (.dic ks ds) (.ref a)
  | fn {x : Nat} {a : Addr} : K.mg (nm x) = some (.ref a) → Rep K H (.fn x) (.ref a)
  | exc {a : Addr} : Rep K H (.exc a) (.ref a)
inductive Reps (K : KM) (H : Hp) : List D → List V → Prop
  | nil : Reps K H [] []
  | cons {d : D} {v : V} {ds : List D} {vs : List V} : Rep K H d v → Reps K H ds vs → Reps K H (d :: ds) (v :: vs)
end
mutual
theorem Rep.mono {K : KM} {H H' : Hp} (s : Same H H') : ∀ {d : D} {v : V}, Rep K H d v → Rep K H' d v
  | _, _, .non => .non
  | _, _, .bl => .bl
  | _, _, .int => .int
  | _, _, .str => .str
  | _, _, .tup h r => .tup (s _ _ h) (Reps.mono s r)
  | _, _, .lst h r => .lst (s _ _ h) (Reps.mono s r)
  | _, _, .ro h r => .ro (s.seq h) (Reps.mono s r)
  | _, _, .tup0 h => .tup0 (Same.tup s h)
  | _, _, .obj h o e r => .obj (s _ _ h) o e (Reps.mono s r)
  | _, _, .dic h e n r => .dic (s _ _ h) e n (Reps.mono s r)
  | _, _, .fn h => .fn h
  | _, _, .exc => .exc
theorem Reps.mono {K : KM} {H H' : Hp} (s : Same H H') : ∀ {ds : List D} {vs : List V}, Reps K H ds vs → Reps K H' ds vs
  | _, _, .nil => .nil
  | _, _, .cons h r => .cons (Rep.mono s h) (Reps.mono s r)
end
section
variable {K : KM} {H : Hp}
theorem Reps.length : ∀ {ds : List D} {vs : List V}, Reps K H ds vs → ds.length = vs.length
  | _, _, .nil => rfl
  | _, _, .cons _ r => by rw [List.length_cons, List.length_cons, r.length]
theorem Reps.get : ∀ {ds : List D} {vs : List V} {i : Nat} {d : D}, Reps K H ds vs → ds[i]? = some d → ∃ v, vs[i]? = some v ∧ Rep K H d v
  | _, _, _, _, .nil, e => by simp at e
  | _, _, 0, _, .cons h _, e => by simp at e; subst e; exact ⟨_, rfl, h⟩
  | _, _, i + 1, _, .cons _ r, e => by
    obtain ⟨v, h1, h2⟩ := Reps.get (i := i) r (by simpa using e)
    exact ⟨v, by simpa using h1, h2⟩
end

/-- a value, live lists by their numbers -/
def ARep (K : KM) (μ : List Addr) (F : Hp) : A → V → Prop
  | .v d, v => Rep K F d v
  | .ref n, v => ∃ a, μ[n]? = some a ∧ v = .ref a
def Ext (μ : List Addr) (F : Hp) (μ' : List Addr) (F' : Hp) : Prop := (∃ t, μ' = μ ++ t) ∧ Same F F'
theorem Ext.refl (μ : List Addr) (F : Hp) : Ext μ F μ F := ⟨⟨[], by simp⟩, Same.refl F⟩
theorem Ext.trans {μ μ1 μ2 : List Addr} {F F1 F2 : Hp} (a : Ext μ F μ1 F1) (b : Ext μ1 F1 μ2 F2) : Ext μ F μ2 F2 := by
  obtain ⟨⟨t, rfl⟩, s⟩ := a
  obtain ⟨⟨u, rfl⟩, s2⟩ := b
  exact ⟨⟨t ++ u, by simp⟩, s.trans s2⟩
theorem Ext.at {μ μ1 : List Addr} {F F1 : Hp} (e : Ext μ F μ1 F1) {n : Nat} {a : Addr} (h : μ[n]? = some a) : μ1[n]? = some a := by
  obtain ⟨⟨t, rfl⟩, _⟩ := e
  rw [List.getElem?_append_left (List.getElem?_eq_some_iff.mp h).1]
  exact h
theorem ARep.ext {K : KM} {μ μ1 : List Addr} {F F1 : Hp} {a : A} {v : V} (e : Ext μ F μ1 F1) (h : ARep K μ F a v) : ARep K μ1 F1 a v := by
  cases a with
  | v d => exact Rep.mono e.2 h
  | ref n =>
    obtain ⟨x, h1, h2⟩ := h
    exact ⟨x, e.at h1, h2⟩
abbrev AReps (K : KM) (μ : List Addr) (F : Hp) : List A → List V → Prop := Paired (ARep K μ F)
theorem AReps.ext {K : KM} {μ μ1 : List Addr} {F F1 : Hp} (e : Ext μ F μ1 F1) : ∀ {xs : List A} {vs : List V}, AReps K μ F xs vs → AReps K μ1 F1 xs vs
  | _, _, .nil => .nil
  | _, _, .cons h r => .cons (h.ext e) (AReps.ext e r)
theorem AReps.get {K : KM} {μ : List Addr} {F : Hp} : ∀ {xs : List A} {vs : List V} {i : Nat} {x : A}, AReps K μ F xs vs → xs[i]? = some x → ∃ v, vs[i]? = some v ∧ ARep K μ F x v
  | _, _, _, _, .nil, e => by simp at e
  | _, _, 0, _, .cons h _, e => by simp at e; subst e; exact ⟨_, rfl, h⟩
  | _, _, i + 1, _, .cons _ r, e => by
    obtain ⟨v, h1, h2⟩ := AReps.get (i := i) r (by simpa using e)
    exact ⟨v, by simpa using h1, h2⟩
theorem AReps.of {K : KM} {μ : List Addr} {F : Hp} : ∀ {ds : List D} {vs : List V}, Reps K F ds vs → AReps K μ F (ds.map .v) vs
  | _, _, .nil => .nil
  | _, _, .cons h r => .cons h (AReps.of r)
theorem AReps.vals {K : KM} {μ : List Addr} {F : Hp} : ∀ {xs : List A} {vs : List V} {ds : List D}, AReps K μ F xs vs → vals xs = some ds → Reps K F ds vs
  | _, _, _, .nil, e => by cases e; exact .nil
  | .v d :: r, _, ds, .cons h t, e => by
    cases q : Dn.vals r with
    | none =>
      have e' : (Dn.vals r).map (d :: ·) = some ds := e
      rw [q] at e'; cases e'
    | some es =>
      have e' : (Dn.vals r).map (d :: ·) = some ds := e
      rw [q] at e'; cases e'
      exact .cons h (AReps.vals t q)
  | .ref n :: r, _, _, .cons h t, e => by cases e
theorem AReps.len {K : KM} {μ : List Addr} {F : Hp} {xs : List A} {vs : List V} (h : AReps K μ F xs vs) : xs.length = vs.length := Paired.length h
theorem AReps.set {K : KM} {μ : List Addr} {F : Hp} {a : A} {v : V} (h : ARep K μ F a v) : ∀ {xs : List A} {vs : List V} (j : Nat), AReps K μ F xs vs → AReps K μ F (xs.set j a) (vs.set j v)
  | _, _, _, .nil => .nil
  | _, _, 0, .cons _ r => .cons h r
  | _, _, j + 1, .cons q r => .cons q (AReps.set h j r)
theorem AReps.snoc {K : KM} {μ : List Addr} {F : Hp} {a : A} {v : V} {xs : List A} {vs : List V} (r : AReps K μ F xs vs) (h : ARep K μ F a v) : AReps K μ F (xs ++ [a]) (vs ++ [v]) := Paired.snoc r h

def CellOk (K : KM) (μ : List Addr) (F H : Hp) (n : Nat) (a : Addr) : Cell → Prop
  | .lst xs => F a = none ∧ (∃ vs, H a = some (.lst vs) ∧ AReps K μ F xs vs) ∧ xs.all (A.below n) = true
  | .frz ds => ∃ vs, F a = some (.lst vs) ∧ Reps K F ds vs
  | .obj c ks xs => F a = none ∧ (∃ C dx fs, H a = some (.ins C dx fs) ∧ OwnC K c C ks ∧ fs.map (·.1) = ks.map nm ∧ AReps K μ F xs (fs.map (·.2))) ∧ xs.all (A.below n) = true
  | .fro c ks ds => ∃ C dx fs, F a = some (.ins C dx fs) ∧ OwnC K c C ks ∧ fs.map (·.1) = ks.map nm ∧ Reps K F ds (fs.map (·.2))

/-- the state: G what others keep, μ the live lists, F what never changes, st the store, H the heap -/
structure Sim (K : KM) (G : Hp) (μ : List Addr) (F : Hp) (st : Store) (H : Hp) : Prop where
  sub : Same F H
  gsub : Same G H
  len : μ.length = st.length
  nd : μ.Nodup
  cell : ∀ n a c, μ[n]? = some a → st[n]? = some c → CellOk K μ F H n a c
  gF : ∀ a o, G a = some o → F a = none
  gμ : ∀ a ∈ μ, G a = none

theorem CellOk.ext {K : KM} {μ μ' : List Addr} {F F' H H' : Hp} {n : Nat} {a : Addr} {c : Cell} (e : Ext μ F μ' F') (hF : F a = none → F' a = none) (hH : H' a = H a) (h : CellOk K μ F H n a c) : CellOk K μ' F' H' n a c := by
  cases c with
  | lst xs =>
    obtain ⟨h1, ⟨vs, h2, h3⟩, h4⟩ := h
    exact ⟨hF h1, ⟨vs, by rw [hH]; exact h2, h3.ext e⟩, h4⟩
  | frz ds =>
    obtain ⟨vs, h1, h2⟩ := h
    exact ⟨vs, e.2 _ _ h1, h2.mono e.2⟩
  | obj c ks xs =>
    obtain ⟨h1, ⟨C, dx, fs, h2, ho, he, h3⟩, h4⟩ := h
    exact ⟨hF h1, ⟨C, dx, fs, by rw [hH]; exact h2, ho, he, h3.ext e⟩, h4⟩
  | fro c ks ds =>
    obtain ⟨C, dx, fs, h1, ho, he, h2⟩ := h
    exact ⟨C, dx, fs, e.2 _ _ h1, ho, he, h2.mono e.2⟩

section
variable {K : KM} {G F H : Hp} {μ : List Addr} {st : Store}
theorem Sim.there (S : Sim K G μ F st H) {n : Nat} {a : Addr} (h : μ[n]? = some a) : ∃ o, H a = some o := by
  have hn : n < st.length := by rw [← S.len]; exact (List.getElem?_eq_some_iff.mp h).1
  have := S.cell n a st[n] h (List.getElem?_eq_getElem hn)
  cases q : st[n] with
  | lst xs =>
    rw [q] at this
    obtain ⟨_, ⟨vs, h2, _⟩, _⟩ := this
    exact ⟨_, h2⟩
  | frz ds =>
    rw [q] at this
    obtain ⟨vs, h1, _⟩ := this
    exact ⟨_, S.sub _ _ h1⟩
  | obj c ks xs =>
    rw [q] at this
    obtain ⟨_, ⟨C, dx, fs, h2, _⟩, _⟩ := this
    exact ⟨_, h2⟩
  | fro c ks ds =>
    rw [q] at this
    obtain ⟨C, dx, fs, h1, _⟩ := this
    exact ⟨_, S.sub _ _ h1⟩
theorem Sim.notin (S : Sim K G μ F st H) {p : Addr} (h : H p = none) : p ∉ μ := fun hm => by
  obtain ⟨n, hn⟩ := List.getElem?_of_mem hm
  obtain ⟨o, e⟩ := S.there hn
  rw [h] at e; cases e
theorem Sim.freeF (S : Sim K G μ F st H) {p : Addr} (h : H p = none) : F p = none := S.sub.free h
theorem Sim.freeG (S : Sim K G μ F st H) {p : Addr} (h : H p = none) : G p = none := S.gsub.free h
theorem same_upd {H : Hp} {p : Addr} {o : HO} (h : H p = none) : Same H (upd H p o) := fun b x e => by
  rw [upd_ne (ne_of_none e h)]
  exact e
/-- a new object, of nobody -/
theorem Sim.heap (S : Sim K G μ F st H) {p : Addr} {o : HO} (h : H p = none) : Sim K G μ F st (upd H p o) :=
  ⟨S.sub.trans (same_upd h), S.gsub.trans (same_upd h), S.len, S.nd, fun n a c h1 h2 => (S.cell n a c h1 h2).ext (Ext.refl _ _) id (by
    rw [upd_ne]
    intro e
    subst e
    exact S.notin h (List.mem_of_getElem? h1)), S.gF, S.gμ⟩
/-- an object that nobody keeps never changes from now on -/
theorem Sim.keep (S : Sim K G μ F st H) {p : Addr} {o : HO} (h : H p = some o) (hF : F p = none) (hG : G p = none) (hμ : p ∉ μ) : Sim K G μ (upd F p o) st H ∧ Ext μ F μ (upd F p o) := by
  have hs : Same F (upd F p o) := same_upd hF
  refine ⟨⟨fun b x e => ?_, S.gsub, S.len, S.nd, fun n a c h1 h2 => (S.cell n a c h1 h2).ext ⟨⟨[], by simp⟩, hs⟩ (fun q => ?_) rfl, fun a x e => ?_, S.gμ⟩, ⟨⟨[], by simp⟩, hs⟩⟩
  · by_cases hb : b = p
    · subst hb; rw [upd_same] at e; cases e; exact h
    · rw [upd_ne hb] at e; exact S.sub _ _ e
  · rw [upd_ne (fun z => by subst z; exact hμ (List.mem_of_getElem? h1))]; exact q
  · rw [upd_ne (fun z => by subst z; rw [hG] at e; cases e)]; exact S.gF _ _ e
theorem Sim.new (S : Sim K G μ F st H) {p : Addr} {o : HO} (h : H p = none) : Sim K G μ (upd F p o) st (upd H p o) ∧ Ext μ F μ (upd F p o) :=
  (S.heap h).keep upd_same (S.freeF h) (S.freeG h) (S.notin h)
/-- an object that nobody keeps becomes live -/
theorem Sim.pushC (S : Sim K G μ F st H) {p : Addr} {o : HO} {c : Cell} (h : H p = some o) (hF : F p = none) (hG : G p = none) (hμ : p ∉ μ) (hc : CellOk K (μ ++ [p]) F H st.length p c) :
    Sim K G (μ ++ [p]) F (st ++ [c]) H ∧ Ext μ F (μ ++ [p]) F := by
  have e : Ext μ F (μ ++ [p]) F := ⟨⟨[p], rfl⟩, Same.refl F⟩
  refine ⟨⟨S.sub, S.gsub, by simp [S.len], ?_, fun n a c h1 h2 => ?_, S.gF, fun a ha => ?_⟩, e⟩
  · rw [List.nodup_append]
    refine ⟨S.nd, by simp, fun a ha b hb => ?_⟩
    simp at hb
    subst hb
    intro z; subst z; exact hμ ha
  · by_cases hn : n < st.length
    · rw [List.getElem?_append_left (by rw [S.len]; exact hn)] at h1
      rw [List.getElem?_append_left hn] at h2
      exact (S.cell n a c h1 h2).ext e id rfl
    · have hn' : n = st.length := by
        have := (List.getElem?_eq_some_iff.mp h2).1
        simp at this
        omega
      subst hn'
      rw [List.getElem?_append_right (Nat.le_refl _)] at h2
      simp at h2
      subst h2
      rw [← S.len, List.getElem?_append_right (Nat.le_refl _)] at h1
      simp at h1
      subst h1
      exact hc
  · rcases List.mem_append.mp ha with ha | ha
    · exact S.gμ a ha
    · simp at ha; subst ha; exact hG
/-- a list that nobody keeps becomes live -/
theorem Sim.push (S : Sim K G μ F st H) {p : Addr} {vs : List V} {xs : List A} (h : H p = some (.lst vs)) (hF : F p = none) (hG : G p = none) (hμ : p ∉ μ) (r : AReps K μ F xs vs) (b : xs.all (A.below st.length) = true) :
    Sim K G (μ ++ [p]) F (st ++ [.lst xs]) H ∧ Ext μ F (μ ++ [p]) F :=
  S.pushC h hF hG hμ ⟨hF, ⟨vs, h, r.ext ⟨⟨[p], rfl⟩, Same.refl F⟩⟩, b⟩
/-- an instance that nobody keeps becomes live -/
theorem Sim.pushO (S : Sim K G μ F st H) {p C dx : Addr} {c : Nat} (h : H p = some (.ins C dx [])) (hF : F p = none) (hG : G p = none) (hμ : p ∉ μ) (ho : OwnC K c C []) :
    Sim K G (μ ++ [p]) F (st ++ [.obj c [] []]) H ∧ Ext μ F (μ ++ [p]) F :=
  S.pushC h hF hG hμ ⟨hF, ⟨C, dx, [], h, ho, rfl, .nil⟩, rfl⟩
theorem nodup_at {α : Type} {l : List α} {i j : Nat} {a : α} (nd : l.Nodup) (h1 : l[i]? = some a) (h2 : l[j]? = some a) : i = j := by
  obtain ⟨hi, e1⟩ := List.getElem?_eq_some_iff.mp h1
  obtain ⟨hj, e2⟩ := List.getElem?_eq_some_iff.mp h2
  have pw := List.pairwise_iff_getElem.mp nd
  rcases Nat.lt_trichotomy i j with h | h | h
  · exact absurd (e1.trans e2.symm) (pw i j hi hj h)
  · exact h
  · exact absurd (e2.trans e1.symm) (pw j i hj hi h)
/-- a live object is written -/
theorem Sim.writeC (S : Sim K G μ F st H) {n : Nat} {a : Addr} {o : HO} {c : Cell} (ha : μ[n]? = some a) (hF : F a = none) (hc : CellOk K μ F (upd H a o) n a c) :
    Sim K G μ F (st.set n c) (upd H a o) := by
  have hG : G a = none := S.gμ a (List.mem_of_getElem? ha)
  refine ⟨fun c o e => ?_, fun c o e => ?_, by simp [S.len], S.nd, fun m c x h1 h2 => ?_, S.gF, S.gμ⟩
  · rw [upd_ne (fun z => by subst z; rw [hF] at e; cases e)]; exact S.sub _ _ e
  · rw [upd_ne (fun z => by subst z; rw [hG] at e; cases e)]; exact S.gsub _ _ e
  · by_cases hm : n = m
    · subst hm
      rw [ha] at h1; cases h1
      rw [List.getElem?_set_self (by rw [← S.len]; exact (List.getElem?_eq_some_iff.mp ha).1)] at h2
      cases h2
      exact hc
    · rw [List.getElem?_set_ne hm] at h2
      exact (S.cell m c x h1 h2).ext (Ext.refl _ _) id (by
        rw [upd_ne]
        intro z; subst z
        exact hm (nodup_at S.nd ha h1))
/-- a live list is written -/
theorem Sim.write (S : Sim K G μ F st H) {n : Nat} {a : Addr} {ys xs : List A} {vs : List V} (ha : μ[n]? = some a) (hc : st[n]? = some (.lst ys)) (r : AReps K μ F xs vs) (b : xs.all (A.below n) = true) :
    Sim K G μ F (st.set n (.lst xs)) (upd H a (.lst vs)) :=
  have hF : F a = none := (S.cell n a _ ha hc).1
  S.writeC ha hF ⟨hF, ⟨vs, upd_same, r⟩, b⟩
/-- a live object is closed -/
theorem Sim.closeC (S : Sim K G μ F st H) {n : Nat} {a : Addr} {o : HO} {c : Cell} (ha : μ[n]? = some a) (hF : F a = none) (hH : H a = some o) (hc : CellOk K μ (upd F a o) H n a c) :
    Sim K G μ (upd F a o) (st.set n c) H ∧ Ext μ F μ (upd F a o) ∧ ∀ p, p ≠ a → F p = none → upd F a o p = none := by
  have hG : G a = none := S.gμ a (List.mem_of_getElem? ha)
  have hs : Same F (upd F a o) := same_upd hF
  have e : Ext μ F μ (upd F a o) := ⟨⟨[], by simp⟩, hs⟩
  refine ⟨⟨fun c o q => ?_, S.gsub, by simp [S.len], S.nd, fun m c x h1 h2 => ?_, fun c o q => ?_, S.gμ⟩, e, fun p hp hq => by rw [upd_ne hp]; exact hq⟩
  · by_cases hc : c = a
    · subst hc; rw [upd_same] at q; cases q; exact hH
    · rw [upd_ne hc] at q; exact S.sub _ _ q
  · by_cases hm : n = m
    · subst hm
      rw [ha] at h1; cases h1
      rw [List.getElem?_set_self (by rw [← S.len]; exact (List.getElem?_eq_some_iff.mp ha).1)] at h2
      cases h2
      exact hc
    · rw [List.getElem?_set_ne hm] at h2
      refine (S.cell m c x h1 h2).ext e (fun q => ?_) rfl
      rw [upd_ne (fun z => by subst z; exact hm (nodup_at S.nd ha h1))]; exact q
  · rw [upd_ne (fun z => by subst z; rw [hG] at q; cases q)]; exact S.gF _ _ q
/-- a live list is closed -/
theorem Sim.close (S : Sim K G μ F st H) {n : Nat} {a : Addr} {xs : List A} {ds : List D} (ha : μ[n]? = some a) (hc : st[n]? = some (.lst xs)) (hv : vals xs = some ds) :
    ∃ F', Sim K G μ F' (st.set n (.frz ds)) H ∧ Ext μ F μ F' ∧ Rep K F' (.lst ds) (.ref a) ∧ ∀ p, p ≠ a → F p = none → F' p = none := by
  obtain ⟨hF, ⟨vs, hH, r⟩, _⟩ := S.cell n a _ ha hc
  have hs : Same F (upd F a (.lst vs)) := same_upd hF
  have rd : Reps K (upd F a (.lst vs)) ds vs := (r.vals hv).mono hs
  obtain ⟨h1, h2, h3⟩ := S.closeC (c := .frz ds) ha hF hH ⟨vs, upd_same, rd⟩
  exact ⟨_, h1, h2, .lst upd_same rd, h3⟩
/-- a live instance is closed -/
theorem Sim.closeO (S : Sim K G μ F st H) {n : Nat} {a : Addr} {c : Nat} {ks : List Nat} {xs : List A} {ds : List D} (ha : μ[n]? = some a) (hc : st[n]? = some (.obj c ks xs)) (hv : vals xs = some ds) :
    ∃ F', Sim K G μ F' (st.set n (.fro c ks ds)) H ∧ Ext μ F μ F' ∧ Rep K F' (.obj c ks ds) (.ref a) ∧ ∀ p, p ≠ a → F p = none → F' p = none := by
  obtain ⟨hF, ⟨C, dx, fs, hH, ho, he, r⟩, _⟩ := S.cell n a _ ha hc
  have hs : Same F (upd F a (.ins C dx fs)) := same_upd hF
  have rd : Reps K (upd F a (.ins C dx fs)) ds (fs.map (·.2)) := (r.vals hv).mono hs
  obtain ⟨h1, h2, h3⟩ := S.closeC (c := .fro c ks ds) ha hF hH ⟨C, dx, fs, upd_same, ho, he, rd⟩
  exact ⟨_, h1, h2, .obj upd_same ho he rd, h3⟩
theorem ARep.low {K : KM} {μ : List Addr} {F : Hp} {a : A} {v : V} {n : Nat} (h : ARep K μ F a v) (b : a.below n = true) : ARep K (μ.take n) F a v := by
  cases a with
  | v d => exact h
  | ref m =>
    obtain ⟨x, h1, h2⟩ := h
    exact ⟨x, by rw [List.getElem?_take_of_lt (of_decide_eq_true b)]; exact h1, h2⟩
theorem AReps.low {K : KM} {μ : List Addr} {F : Hp} {n : Nat} : ∀ {xs : List A} {vs : List V}, AReps K μ F xs vs → xs.all (A.below n) = true → AReps K (μ.take n) F xs vs
  | _, _, .nil, _ => .nil
  | _, _, .cons h r, b => by
    simp only [List.all_cons, Bool.and_eq_true] at b
    exact .cons (h.low b.1) (AReps.low r b.2)
theorem below_mono {n m : Nat} (h : n ≤ m) {xs : List A} (b : xs.all (A.below n) = true) : xs.all (A.below m) = true := by
  rw [List.all_eq_true] at b ⊢
  intro x hx
  have := b x hx
  cases x with
  | v d => rfl
  | ref k => exact decide_eq_true (Nat.lt_of_lt_of_le (of_decide_eq_true this) h)
/-- the younger lists are forgotten -/
theorem Sim.take (S : Sim K G μ F st H) (n : Nat) : Sim K G (μ.take n) F (st.take n) H := by
  refine ⟨S.sub, S.gsub, by simp [S.len], S.nd.sublist (List.take_sublist _ _), fun m a c h1 h2 => ?_, S.gF, fun a ha => S.gμ a (List.mem_of_mem_take ha)⟩
  have hm : m < n := by
    have := (List.getElem?_eq_some_iff.mp h1).1
    simp at this
    omega
  rw [List.getElem?_take_of_lt hm] at h1 h2
  have q := S.cell m a c h1 h2
  cases c with
  | lst xs =>
    obtain ⟨q1, ⟨vs, q2, q3⟩, q4⟩ := q
    exact ⟨q1, ⟨vs, q2, q3.low (below_mono (Nat.le_of_lt hm) q4)⟩, q4⟩
  | frz ds => exact q
  | obj c ks xs =>
    obtain ⟨q1, ⟨C, dx, fs, q2, qo, qe, q3⟩, q4⟩ := q
    exact ⟨q1, ⟨C, dx, fs, q2, qo, qe, q3.low (below_mono (Nat.le_of_lt hm) q4)⟩, q4⟩
  | fro c ks ds => exact q
theorem take_ext {μ μ' : List Addr} {F F' : Hp} (e : Ext μ F μ' F') : μ'.take μ.length = μ := by
  obtain ⟨⟨t, rfl⟩, _⟩ := e
  simp
/-- what others keep: a new object is put aside, comes back, is changed -/
theorem Sim.aside (S : Sim K G μ F st H) {p : Addr} {o : HO} (h : H p = some o) (hF : F p = none) (hG : G p = none) (hμ : p ∉ μ) : Sim K (upd G p o) μ F st H := by
  refine ⟨S.sub, fun b x e => ?_, S.len, S.nd, S.cell, fun a x e => ?_, fun a ha => ?_⟩
  · by_cases hb : b = p
    · subst hb; rw [upd_same] at e; cases e; exact h
    · rw [upd_ne hb] at e; exact S.gsub _ _ e
  · by_cases hb : a = p
    · subst hb; exact hF
    · rw [upd_ne hb] at e; exact S.gF _ _ e
  · rw [upd_ne (fun z => by subst z; exact hμ ha)]; exact S.gμ a ha
theorem Sim.back {p : Addr} {o : HO} (hG : G p = none) (S : Sim K (upd G p o) μ F st H) : Sim K G μ F st H ∧ H p = some o ∧ F p = none ∧ p ∉ μ :=
  ⟨⟨S.sub, (same_upd hG).trans S.gsub, S.len, S.nd, S.cell, fun a x e => S.gF a x (same_upd hG _ _ e), fun a ha => by
    have := S.gμ a ha
    by_cases hb : a = p
    · subst hb; rw [upd_same] at this; cases this
    · rw [upd_ne hb] at this; exact this⟩, S.gsub _ _ upd_same, S.gF _ _ upd_same, fun hm => by
    have := S.gμ p hm
    rw [upd_same] at this; cases this⟩
theorem Sim.other (S : Sim K G μ F st H) {p : Addr} {o : HO} (hF : F p = none) (hG : G p = none) (hμ : p ∉ μ) : Sim K G μ F st (upd H p o) :=
  ⟨fun b x e => by rw [upd_ne (fun z => by subst z; rw [hF] at e; cases e)]; exact S.sub _ _ e, fun b x e => by rw [upd_ne (fun z => by subst z; rw [hG] at e; cases e)]; exact S.gsub _ _ e, S.len, S.nd,
    fun n a c h1 h2 => (S.cell n a c h1 h2).ext (Ext.refl _ _) id (by rw [upd_ne (fun z => by subst z; exact hμ (List.mem_of_getElem? h1))]), S.gF, S.gμ⟩
end
end Dn

set_option linter.all false
set_option Elab.async false
set_option maxRecDepth 100000
/-! Jud: the readings of the functions, and the rules. -/
namespace Dn
open PySem PySem.Spec PyProof.Rows L2

abbrev St := List (Option V)
/-- the written part, the globals, and what stands all the while -/
structure Kx where
  K : KM
  j : Hp → Prop
  jm : ∀ F F' : Hp, Same F F' → j F → j F'
abbrev kx (K : PySem.W.Frag) (mg : Str → Option Value) (cs : List Nat) : Kx := ⟨⟨K, mg, cs⟩, fun _ => True, fun _ _ _ _ => trivial⟩
abbrev Kx.mg (k : Kx) : Str → Option Value := k.K.mg

structure ERep (k : Kx) (μ : List Addr) (F : Hp) (σd : Env) (σ : St) : Prop where
  len : σd.length = σ.length
  at_ : ∀ (i : Nat) (a : A), σd[i]? = some (some a) → ∃ v, σ[i]? = some (some v) ∧ ARep k.K μ F a v
  j : k.j F
theorem ERep.ext {k : Kx} {μ μ1 : List Addr} {F F1 : Hp} {σd : Env} {σ : St} (h : ERep k μ F σd σ) (e : Ext μ F μ1 F1) : ERep k μ1 F1 σd σ :=
  ⟨h.len, fun i a q => by
    obtain ⟨v, h1, h2⟩ := h.at_ i a q
    exact ⟨v, h1, h2.ext e⟩, k.jm _ _ e.2 h.j⟩
theorem ERep.set {k : Kx} {μ : List Addr} {F : Hp} {σd : Env} {σ : St} {a : A} {v : V} (h : ERep k μ F σd σ) (i : Nat) (r : ARep k.K μ F a v) : ERep k μ F (σd.set i (some a)) (σ.set i (some v)) := by
  refine ⟨by simp [h.len], fun j b q => ?_, h.j⟩
  by_cases hj : i = j
  · subst hj
    by_cases hl : i < σd.length
    · rw [List.getElem?_set_self hl] at q
      cases q
      exact ⟨v, by rw [List.getElem?_set_self (by rw [← h.len]; exact hl)], r⟩
    · rw [List.getElem?_eq_none (by simp; omega)] at q; cases q
  · rw [List.getElem?_set_ne hj] at q
    obtain ⟨w, h1, h2⟩ := h.at_ j b q
    exact ⟨w, by rw [List.getElem?_set_ne hj]; exact h1, h2⟩
theorem ERep.start {k : Kx} {μ : List Addr} {F : Hp} {as : List A} {vs : List V} {n : Nat} (r : AReps k.K μ F as vs) (hj : k.j F) :
    ERep k μ F (as.map some ++ List.replicate (n - as.length) none) (vs.map some ++ List.replicate (n - vs.length) none) := by
  refine ⟨by simp [r.len], fun i a q => ?_, hj⟩
  by_cases hi : i < as.length
  · rw [List.getElem?_append_left (by simpa using hi), List.getElem?_map] at q
    cases e : as[i]? with
    | none => rw [e] at q; cases q
    | some b =>
      rw [e] at q; cases q
      obtain ⟨v, h1, h2⟩ := r.get e
      refine ⟨v, ?_, h2⟩
      rw [List.getElem?_append_left (by simpa [← r.len] using hi), List.getElem?_map, h1]
      rfl
  · rw [List.getElem?_append_right (by simpa using hi), List.getElem?_replicate] at q
    split at q <;> cases q

/-- an exception -/
def XRep (k : Kx) (F : Hp) (x : Exc) (cls : Value) (d : Option Addr) : Prop :=
  (∃ C, k.mg x.c = some (.ref C) ∧ cls = .ref C) ∧ ((x.ds = [] ∧ d = none) ∨ ∃ dd fs, d = some dd ∧ F dd = some (.xd fs) ∧ fs.map (·.1) = x.ks ∧ Reps k.K F x.ds (fs.map (·.2)))

def Post {α : Type} (k : Kx) (G : Hp) (μ : List Addr) (F : Hp) (E : XK) (P : α → Store → List Addr → Hp → Hp → Prop) : RE α → Prop
  | .ok a st => ∀ μ' F' H', Ext μ F μ' F' → Sim k.K G μ' F' st H' → P a st μ' F' H'
  | .err x st => ∀ μ' F' H' cls d, Ext μ F μ' F' → Sim k.K G μ' F' st H' → XRep k F' x cls d → E cls d H'
  | .bad => False
section
variable {α β : Type} {k : Kx} {G F F1 : Hp} {μ μ1 : List Addr} {E : XK}
theorem Post.ext {P : α → Store → List Addr → Hp → Hp → Prop} {r : RE α} (e : Ext μ F μ1 F1) (h : Post k G μ F E P r) : Post k G μ1 F1 E P r := by
  cases r with
  | ok a st => exact fun μ' F' H' e' => h μ' F' H' (e.trans e')
  | err x st => exact fun μ' F' H' cls d e' => h μ' F' H' cls d (e.trans e')
  | bad => exact h
theorem Post.mono {P P' : α → Store → List Addr → Hp → Hp → Prop} {r : RE α} (h : Post k G μ F E P r) (hp : ∀ a st μ' F' H', Ext μ F μ' F' → Sim k.K G μ' F' st H' → P a st μ' F' H' → P' a st μ' F' H') : Post k G μ F E P' r := by
  cases r with
  | ok a st => exact fun μ' F' H' e S => hp a st μ' F' H' e S (h μ' F' H' e S)
  | err x st => exact h
  | bad => exact h
theorem Post.bind {P : β → Store → List Addr → Hp → Hp → Prop} {r : RE α} {g : α → Store → RE β} (h : Post k G μ F E P (r.bind g)) : Post k G μ F E (fun a st μ' F' _ => Post k G μ' F' E P (g a st)) r := by
  cases r with
  | ok a st => exact fun μ' F' H' e _ => Post.ext e h
  | err x st => exact h
  | bad => exact h
theorem Post.bindE {P : β → Store → List Addr → Hp → Hp → Prop} {r : RE α} {g : α → Store → RE β} (h : Post k G μ F E P (r.bind g)) : Post k G μ F E (fun a st μ' F' _ => r = .ok a st ∧ Post k G μ' F' E P (g a st)) r := by
  cases r with
  | ok a st => exact fun μ' F' H' e _ => ⟨rfl, Post.ext e h⟩
  | err x st => exact h
  | bad => exact h
theorem Post.here {P : α → Store → List Addr → Hp → Hp → Prop} {r : RE α} (h : Post k G μ F E P r) : Post k G μ F E (fun a st μ' F' _ => r = .ok a st ∧ Post k G μ' F' E P (.ok a st)) r := by
  cases r with
  | ok a st => exact fun μ' F' H' e _ => ⟨rfl, Post.ext e h⟩
  | err x st => exact h
  | bad => exact h
theorem Post.eq {P : α → Store → List Addr → Hp → Hp → Prop} {r : RE α} (h : Post k G μ F E P r) : Post k G μ F E (fun a st μ' F' H' => r = .ok a st ∧ P a st μ' F' H') r := by
  cases r with
  | ok a st => exact fun μ' F' H' e S => ⟨rfl, h μ' F' H' e S⟩
  | err x st => exact h
  | bad => exact h
theorem Post.of {P : α → Store → List Addr → Hp → Hp → Prop} {o : Option α} {st : Store} (h : Post k G μ F E P (RE.of o st)) : ∃ a, o = some a ∧ ∀ μ' F' H', Ext μ F μ' F' → Sim k.K G μ' F' st H' → P a st μ' F' H' := by
  cases o with
  | none => exact False.elim h
  | some a => exact ⟨a, rfl, h⟩
end
def PostT (k : Kx) (G : Hp) (μ : List Addr) (F : Hp) (P : Env → Store → List Addr → Hp → Hp → Prop) : Option (Env × Store) → Prop
  | some p => ∀ μ' F' H', Ext μ F μ' F' → Sim k.K G μ' F' p.2 H' → P p.1 p.2 μ' F' H'
  | none => False
theorem PostT.ext {k : Kx} {G F F1 : Hp} {μ μ1 : List Addr} {P : Env → Store → List Addr → Hp → Hp → Prop} {r : Option (Env × Store)} (e : Ext μ F μ1 F1) (h : PostT k G μ F P r) : PostT k G μ1 F1 P r := by
  cases r with
  | some p => exact fun μ' F' H' e' => h μ' F' H' (e.trans e')
  | none => exact h

def PostS (k : Kx) (G : Hp) (μ : List Addr) (F : Hp) (W : WX) (D : Ends) : RS → Prop
  | .nx σd st => ∀ μ' F' H' σ, Ext μ F μ' F' → Sim k.K G μ' F' st H' → ERep k μ' F' σd σ → D.nx σ H'
  | .bk σd st => ∀ μ' F' H' σ, Ext μ F μ' F' → Sim k.K G μ' F' st H' → ERep k μ' F' σd σ → D.bk σ H'
  | .ct σd st => ∀ μ' F' H' σ, Ext μ F μ' F' → Sim k.K G μ' F' st H' → ERep k μ' F' σd σ → D.ct σ H'
  | .rt a st => ∀ μ' F' H' v, Ext μ F μ' F' → Sim k.K G μ' F' st H' → ARep k.K μ' F' a v → D.rt v H'
  | .err x σd st => ∀ μ' F' H' σ cls d, Ext μ F μ' F' → Sim k.K G μ' F' st H' → ERep k μ' F' σd σ → XRep k F' x cls d → W cls d σ H'
  | .bad => False
theorem PostS.ext {k : Kx} {G F F1 : Hp} {μ μ1 : List Addr} {W : WX} {D : Ends} {r : RS} (e : Ext μ F μ1 F1) (h : PostS k G μ F W D r) : PostS k G μ1 F1 W D r := by
  cases r with
  | nx σd st => exact fun μ' F' H' σ e' => h μ' F' H' σ (e.trans e')
  | bk σd st => exact fun μ' F' H' σ e' => h μ' F' H' σ (e.trans e')
  | ct σd st => exact fun μ' F' H' σ e' => h μ' F' H' σ (e.trans e')
  | rt a st => exact fun μ' F' H' v e' => h μ' F' H' v (e.trans e')
  | err x σd st => exact fun μ' F' H' σ cls d e' => h μ' F' H' σ cls d (e.trans e')
  | bad => exact h
/-- an expression's end within a statement -/
theorem PostS.st {α : Type} {k : Kx} {G F : Hp} {μ : List Addr} {W : WX} {D : Ends} {σd : Env} {σ : St} {r : RE α} {f : α → Store → RS} (R : ERep k μ F σd σ) (h : PostS k G μ F W D (r.st σd f)) :
    Post k G μ F (fun c d H => W c d σ H) (fun a st μ' F' _ => PostS k G μ' F' W D (f a st)) r := by
  cases r with
  | ok a st => exact fun μ' F' H' e _ => PostS.ext e h
  | err x st => exact fun μ' F' H' cls d e S X => h μ' F' H' σ cls d e S (R.ext e) X
  | bad => exact h

/-! the readings -/
def dE (k : Kx) (W : WX) (f : EF) : TE := fun σ H Q => ∃ G μ F st σd, Sim k.K G μ F st H ∧ ERep k μ F σd σ ∧
  Post k G μ F (fun c d H' => W c d σ H') (fun a _ μ' F' H' => ∀ v, ARep k.K μ' F' a v → Q v H') (f σd st)
def dT (k : Kx) (W : WX) (f : TF) : TT := fun σ H Q => ∃ G μ F st σd, Sim k.K G μ F st H ∧ ERep k μ F σd σ ∧
  Post k G μ F (fun c d H' => W c d σ H') (fun b _ _ _ H' => Q b H') (f σd st)
def dA (k : Kx) (W : WX) (f : Env → Store → RE (List A)) : TA := fun σ H Q => ∃ G μ F st σd, Sim k.K G μ F st H ∧ ERep k μ F σd σ ∧
  Post k G μ F (fun c d H' => W c d σ H') (fun as _ μ' F' H' => ∀ vs, AReps k.K μ' F' as vs → Q vs H') (f σd st)
/-- a new list, of nobody -/
def dL (k : Kx) (W : WX) (f : LF) : TE := fun σ H Q => ∃ G μ F st σd, Sim k.K G μ F st H ∧ ERep k μ F σd σ ∧
  Post k G μ F (fun c d H' => W c d σ H') (fun xs _ μ' F' H' => ∀ p vs, H' p = some (.lst vs) → F' p = none → p ∉ μ' → G p = none → AReps k.K μ' F' xs vs → Q (.ref p) H') (f σd st)
/-- the same but at the slots vs -/
def Agree (vs : List Nat) (σ σ' : St) : Prop := σ'.length = σ.length ∧ ∀ j, j ∉ vs → σ'[j]? = σ[j]?
def dG (k : Kx) (is : List Nat) (t : TgF) : TG := fun v σ H Q => ∃ G μ F st σd a, Sim k.K G μ F st H ∧ ERep k μ F σd σ ∧ ARep k.K μ F a v ∧
  PostT k G μ F (fun σd' _ μ' F' H' => ∀ σ', ERep k μ' F' σd' σ' → Agree is σ σ' → Q σ' H') (t a σd st)
def dGs (k : Kx) (is : List Nat) (ts : List TgF) : TGs := fun vs σ H Q => ∃ G μ F st σd ds, Sim k.K G μ F st H ∧ ERep k μ F σd σ ∧ Reps k.K F ds vs ∧
  PostT k G μ F (fun σd' _ μ' F' H' => ∀ σ', ERep k μ' F' σd' σ' → Agree is σ σ' → Q σ' H') (tgSeq ts ds σd st)
/-- the walked thing gives these items -/
def Yields (k : Kx) (μ : List Addr) (F : Hp) (s : Src) (J : It) : Prop := ∀ (G : Hp) (i : Nat) μ' F' st H, Ext μ F μ' F' → Sim k.K G μ' F' st H → s.g st →
  (∀ x, s.xs[i]? = some x → J.go i H ∧ ∀ v H', J.yld i H v H' → ∃ F'', Ext μ' F' μ' F'' ∧ Sim k.K G μ' F'' st H' ∧ ARep k.K μ' F'' x v) ∧ (i = s.xs.length → J.stop i H)
def dI (k : Kx) (W : WX) (f : IF) : TI := fun σ H R => ∃ G μ F st σd, Sim k.K G μ F st H ∧ ERep k μ F σd σ ∧
  Post k G μ F (fun c d H' => W c d σ H') (fun s _ μ' F' H' => ∀ J, Yields k μ' F' s J → R J H') (f σd st)
def dS (k : Kx) (W : WX) (f : SF) : TS := fun D σ H => ∃ G μ F st σd, Sim k.K G μ F st H ∧ ERep k μ F σd σ ∧ PostS k G μ F W D (f σd st)

theorem pe_weak {X : Cx} {e : Expr} {t t' : TE} (h : PE X e t) (w : ∀ σ H Q, t' σ H Q → t σ H Q) : PE X e t' := ⟨fun pins s σ H Q I q => h.run pins s σ H Q I (w _ _ _ q)⟩
theorem pt_weak {X : Cx} {e : Expr} {t t' : TT} (h : PT X e t) (w : ∀ σ H Q, t' σ H Q → t σ H Q) : PT X e t' := ⟨fun pins s σ H Q I q => h.run pins s σ H Q I (w _ _ _ q)⟩
theorem pw_weak {X : Cx} {e : Expr} {t t' : TT} (h : PW X e t) (w : ∀ σ H Q, t' σ H Q → t σ H Q) : PW X e t' := ⟨fun wh pins s σ H Q I q => h.run wh pins s σ H Q I (w _ _ _ q)⟩
theorem pa_weak {X : Cx} {e : List Expr} {t t' : TA} (h : PA X e t) (w : ∀ σ H Q, t' σ H Q → t σ H Q) : PA X e t' := ⟨fun pos pins s σ H Q I q => h.run pos pins s σ H Q I (w _ _ _ q)⟩
theorem ps_weak {X : Cx} {e : Stmt} {t t' : TS} (h : PS X e t) (w : ∀ D σ H, t' D σ H → t D σ H) : PS X e t' := ⟨fun pins s σ H D I q => h.run pins s σ H D I (w _ _ _ q)⟩
theorem pss_weak {X : Cx} {e : List Stmt} {t t' : TS} (h : PSs X e t) (w : ∀ D σ H, t' D σ H → t D σ H) : PSs X e t' := ⟨fun pins s σ H D I q => h.run pins s σ H D I (w _ _ _ q)⟩
theorem pi_weak {X : Cx} {tg e : Expr} {t t' : TI} (h : PI X tg e t) (w : ∀ σ H R, t' σ H R → t σ H R) : PI X tg e t' := ⟨fun pins s σ H R I q => h.run pins s σ H R I (w _ _ _ q)⟩
end Dn

set_option linter.all false
set_option Elab.async false
set_option maxRecDepth 100000
/-! Rul: the rules, expressions. -/
namespace Dn
open PySem PySem.Spec PyProof.Rows L2

section
variable {K : KM} {G F H : Hp} {μ : List Addr} {st : Store}
theorem cell_of (S : Sim K G μ F st H) {n : Nat} {a : Addr} {c : Cell} (h : μ[n]? = some a) (e : st[n]? = some c) : CellOk K μ F H n a c := S.cell n a c h e
theorem view_rep (S : Sim K G μ F st H) {a : A} {v : V} {d : D} (r : ARep K μ F a v) (h : a.view st = some d) : Rep K H d v := by
  cases a with
  | v e => cases h; exact Rep.mono S.sub r
  | ref n =>
    obtain ⟨x, h1, rfl⟩ := r
    unfold A.view at h
    dsimp only at h
    split at h
    · rename_i xs q
      obtain ⟨_, ⟨vs, h2, h3⟩, _⟩ := cell_of S h1 q
      cases e : vals xs with
      | none => rw [e] at h; cases h
      | some ds => rw [e] at h; cases h; exact .lst h2 ((h3.vals e).mono S.sub)
    · rename_i ds q
      cases h
      obtain ⟨vs, h2, h3⟩ := cell_of S h1 q
      exact .lst (S.sub _ _ h2) (h3.mono S.sub)
    · rename_i c ks xs q
      obtain ⟨_, ⟨C, dx, fs, h2, ho, he, h3⟩, _⟩ := cell_of S h1 q
      cases e : vals xs with
      | none => rw [e] at h; cases h
      | some ds => rw [e] at h; cases h; exact .obj h2 ho he ((h3.vals e).mono S.sub)
    · rename_i c ks ds q
      cases h
      obtain ⟨C, dx, fs, h2, ho, he, h3⟩ := cell_of S h1 q
      exact .obj (S.sub _ _ h2) ho he (h3.mono S.sub)
    · cases h
theorem tup_sq {K : KM} {H : Hp} {ds : List D} {v : V} (r : Rep K H (.tup ds) v) : ∃ p vs, v = .ref p ∧ SqT K H p vs ∧ Reps K H ds vs := by
  cases r with
  | tup h1 h2 => exact ⟨_, _, rfl, SqT.of h1, h2⟩
  | tup0 h1 => exact ⟨_, _, rfl, h1, .nil⟩
theorem viewL_rep (S : Sim K G μ F st H) : ∀ {as : List A} {vs : List V} {ds : List D}, AReps K μ F as vs → viewL st as = some ds → Reps K H ds vs
  | _, _, _, .nil, e => by cases e; exact .nil
  | a :: r, _, ds, .cons h t, e => by
    have e' : ((a.view st).bind fun d => (viewL st r).map (d :: ·)) = some ds := e
    cases q : a.view st with
    | none => rw [q] at e'; cases e'
    | some d =>
      rw [q] at e'
      cases q2 : viewL st r with
      | none => rw [q2] at e'; cases e'
      | some es => rw [q2] at e'; cases e'; exact .cons (view_rep S h q) (viewL_rep S t q2)
theorem elems_rep (S : Sim K G μ F st H) {a : A} {v : V} {xs : List A} (r : ARep K μ F a v) (h : a.elems st = some xs) :
    ∃ p ys, v = .ref p ∧ (SqL K H p ys ∨ (SqT K H p ys ∧ ∃ ds, a = .v (.tup ds))) ∧ AReps K μ F xs ys := by
  cases a with
  | v e =>
    cases e with
    | lst ds => cases h; cases r with
      | lst h1 h2 => exact ⟨_, _, rfl, .inl (SqL.of (S.sub _ _ h1)), AReps.of h2⟩
    | ro ds => cases h; cases r with
      | ro h1 h2 => exact ⟨_, _, rfl, .inl (S.sub.seq h1), AReps.of h2⟩
    | tup ds => cases h; cases r with
      | tup h1 h2 => exact ⟨_, _, rfl, .inr ⟨SqT.of (S.sub _ _ h1), _, rfl⟩, AReps.of h2⟩
      | tup0 h1 => exact ⟨_, _, rfl, .inr ⟨Same.tup S.sub h1, _, rfl⟩, .nil⟩
    | _ => cases h
  | ref n =>
    obtain ⟨x, h1, rfl⟩ := r
    unfold A.elems at h
    dsimp only at h
    split at h
    · rename_i ys q
      cases h
      obtain ⟨_, ⟨vs, h2, h3⟩, _⟩ := cell_of S h1 q
      exact ⟨_, _, rfl, .inl (SqL.of h2), h3⟩
    · rename_i ds q
      cases h
      obtain ⟨vs, h2, h3⟩ := cell_of S h1 q
      exact ⟨_, _, rfl, .inl (SqL.of (S.sub _ _ h2)), AReps.of h3⟩
    · cases h
theorem frz_ok (S : Sim K G μ F st H) {a : A} {v : V} {d : D} {st' : Store} (r : ARep K μ F a v) (h : a.frz st = some (d, st')) :
    ∃ F', Sim K G μ F' st' H ∧ Ext μ F μ F' ∧ Rep K F' d v ∧ ∀ p, p ∉ μ → F p = none → F' p = none := by
  cases a with
  | v e => cases h; exact ⟨F, S, Ext.refl _ _, r, fun p _ q => q⟩
  | ref n =>
    obtain ⟨x, h1, rfl⟩ := r
    unfold A.frz at h
    dsimp only at h
    split at h
    · rename_i xs q
      cases e : vals xs with
      | none => rw [e] at h; cases h
      | some ds =>
        rw [e] at h; cases h
        obtain ⟨hF, ⟨vs, hH, r⟩, _⟩ := cell_of S h1 q
        have hG : G x = none := S.gμ x (List.mem_of_getElem? h1)
        obtain ⟨F', h2, h3, h4, h5⟩ := S.close h1 q e
        exact ⟨F', h2, h3, h4, fun p hp hq => h5 p (fun z => hp (by rw [z]; exact List.mem_of_getElem? h1)) hq⟩
    · rename_i ds q
      cases h
      obtain ⟨vs, h2, h3⟩ := cell_of S h1 q
      exact ⟨F, S, Ext.refl _ _, .lst h2 h3, fun p _ q => q⟩
    · rename_i c ks xs q
      cases e : vals xs with
      | none => rw [e] at h; cases h
      | some ds =>
        rw [e] at h; cases h
        obtain ⟨F', h2, h3, h4, h5⟩ := S.closeO h1 q e
        exact ⟨F', h2, h3, h4, fun p hp hq => h5 p (fun z => hp (by rw [z]; exact List.mem_of_getElem? h1)) hq⟩
    · rename_i c ks ds q
      cases h
      obtain ⟨C, dx, fs, h2, ho, he, h3⟩ := cell_of S h1 q
      exact ⟨F, S, Ext.refl _ _, .obj h2 ho he h3, fun p _ q => q⟩
    · cases h
theorem frzL_ok : ∀ {F : Hp} {st : Store} {as : List A} {vs : List V} {ds : List D} {st' : Store}, Sim K G μ F st H → AReps K μ F as vs → frzL st as = some (ds, st') →
    ∃ F', Sim K G μ F' st' H ∧ Ext μ F μ F' ∧ Reps K F' ds vs ∧ ∀ p, p ∉ μ → F p = none → F' p = none
  | F, _, _, _, _, _, S, .nil, e => by cases e; exact ⟨F, S, Ext.refl _ _, .nil, fun p _ q => q⟩
  | F, st, a :: r, _, ds, st', S, .cons h t, e => by
    have e' : ((a.frz st).bind fun p => (frzL p.2 r).map fun q => (p.1 :: q.1, q.2)) = some (ds, st') := e
    cases q : a.frz st with
    | none => rw [q] at e'; cases e'
    | some p =>
      obtain ⟨d, st1⟩ := p
      rw [q] at e'
      have e2 : ((frzL st1 r).map fun q => (d :: q.1, q.2)) = some (ds, st') := e'
      cases q2 : frzL st1 r with
      | none => rw [q2] at e2; cases e2
      | some p2 =>
        obtain ⟨es, st2⟩ := p2
        rw [q2] at e2; cases e2
        obtain ⟨F1, S1, x1, r1, n1⟩ := frz_ok S h q
        obtain ⟨F2, S2, x2, r2, n2⟩ := frzL_ok S1 (AReps.ext x1 t) q2
        exact ⟨F2, S2, x1.trans x2, .cons (r1.mono x2.2) r2, fun p hp hq => n2 p hp (n1 p hp hq)⟩
end

section
variable {X : Cx} {W : WX} {k : Kx} {a b c e : Expr} {fa fb fc : EF} {pos : Pos}

theorem e_var {i : Nat} {x : Str} (hN : X.N[i]? = some x) (hv : Vis X.env.scope x) (hd : (x == ("__debug__" : Str)) = false := by decide) (hcd : (x == ("__classdict__" : Str)) = false := by decide) : PE X (.Name x pos) (dE k W (fVar i)) :=
  pe_weak (pe_var hN hv hd hcd) fun σ H Q ⟨G, μ, F, st, σd, S, R, h⟩ => by
    unfold fVar at h
    split at h
    · rename_i a q
      obtain ⟨v, h1, h2⟩ := R.at_ _ _ q
      exact ⟨v, h1, h μ F H (Ext.refl _ _) S v h2⟩
    · exact h.elim
theorem e_tC {d : D} {v : V} (hp : PE X e (tC v)) (hr : ∀ F, Rep k.K F d v) : PE X e (dE k W (fC d)) :=
  pe_weak hp fun σ H Q ⟨G, μ, F, st, σd, S, R, h⟩ => h μ F H (Ext.refl _ _) S v (hr F)
theorem e_int {i : Int} {j : Nat} : PE X (.Constant (.int i) j pos) (dE k W (fC (.int i))) := e_tC pe_int fun _ => .int
theorem e_bl {b : Bool} {j : Nat} : PE X (.Constant (.bool b) j pos) (dE k W (fC (.bl b))) := e_tC pe_bl fun _ => .bl
theorem e_non {j : Nat} : PE X (.Constant .none j pos) (dE k W (fC .non)) := e_tC pe_non fun _ => .non
theorem e_str {x : Str} {j : Nat} : PE X (.Constant (.str x) j pos) (dE k W (fC (.str x))) := e_tC pe_str fun _ => .str

def OpOk (K : KM) (r : R2) (o : D → D → Option D) : Prop := ∀ x y d e z H Q, Rep K H d x → Rep K H e y → o d e = some z → ∃ v, (∀ F, Rep K F z v) ∧ (Q v H → r x y H Q)
theorem bin_run {r : R2} {g : A → A → Store → RE A} (hr : ∀ G μ F st H (x y : A) (v w : V) (Q : VK) (E : XK), Sim k.K G μ F st H → ARep k.K μ F x v → ARep k.K μ F y w →
      Post k G μ F E (fun a _ μ' F' H' => ∀ v, ARep k.K μ' F' a v → Q v H') (g x y st) → r v w H Q) (σ : St) (H : Hp) (Q : VK)
    (h : dE k W (fun σ st => (fa σ st).bind fun x st1 => (fb σ st1).bind fun y st2 => g x y st2) σ H Q) : tOp r (dE k W fa) (dE k W fb) σ H Q := by
  obtain ⟨G, μ, F, st, σd, S, R, h⟩ := h
  refine ⟨G, μ, F, st, σd, S, R, h.bind.mono fun x st1 μ1 F1 H1 e1 S1 h1 v rv => ?_⟩
  refine ⟨G, μ1, F1, st1, σd, S1, R.ext e1, h1.bind.mono fun y st2 μ2 F2 H2 e2 S2 h2 w rw' => ?_⟩
  exact hr G μ2 F2 st2 H2 x y v w Q _ S2 (rv.ext e2) rw' h2
theorem un_run {r : V → Hp → VK → Prop} {g : A → Store → RE A} (hr : ∀ G μ F st H (x : A) (v : V) (Q : VK) (E : XK), Sim k.K G μ F st H → ARep k.K μ F x v →
      Post k G μ F E (fun a _ μ' F' H' => ∀ v, ARep k.K μ' F' a v → Q v H') (g x st) → r v H Q) (σ : St) (H : Hp) (Q : VK)
    (h : dE k W (fun σ st => (fa σ st).bind fun x st1 => g x st1) σ H Q) : dE k W fa σ H fun x H1 => r x H1 Q := by
  obtain ⟨G, μ, F, st, σd, S, R, h⟩ := h
  refine ⟨G, μ, F, st, σd, S, R, h.bind.mono fun x st1 μ1 F1 H1 e1 S1 h1 v rv => ?_⟩
  exact hr G μ1 F1 st1 H1 x v Q _ S1 rv h1
theorem op_run {r : R2} {o : D → D → Option D} (ok : OpOk k.K r o) (G : Hp) (μ : List Addr) (F : Hp) (st : Store) (H : Hp) (x y : A) (v w : V) (Q : VK) (E : XK) (S : Sim k.K G μ F st H) (rx : ARep k.K μ F x v) (ry : ARep k.K μ F y w)
    (h : Post k G μ F E (fun a _ μ' F' H' => ∀ v, ARep k.K μ' F' a v → Q v H') (RE.of ((x.view st).bind fun d => (y.view st).bind fun e => (o d e).map .v) st)) : r v w H Q := by
  obtain ⟨a, ha, h⟩ := h.of
  cases q1 : x.view st with
  | none => rw [q1] at ha; cases ha
  | some d =>
    rw [q1] at ha
    cases q2 : y.view st with
    | none => rw [q2] at ha; cases ha
    | some e =>
      rw [q2] at ha
      have ha' : (o d e).map A.v = some a := ha
      cases q3 : o d e with
      | none => rw [q3] at ha'; cases ha'
      | some z =>
        rw [q3] at ha'; cases ha'
        obtain ⟨u, hu, hq⟩ := ok v w d e z H Q (view_rep S rx q1) (view_rep S ry q2) q3
        exact hq (h μ F H (Ext.refl _ _) S u (hu F))
theorem e_op {op : Operator} {r : R2} {o : D → D → Option D} (ho : OpR X (binaryOp op) r) (ok : OpOk k.K r o) (ha : PE X a (dE k W fa)) (hb : PE X b (dE k W fb)) : PE X (.BinOp a op b pos) (dE k W (fOp o fa fb)) :=
  pe_weak (pe_op ho ha hb) (bin_run (op_run ok))
theorem e_cmp {op : CmpOp} {r : R2} {o : D → D → Option D} (ho : OpR X (compareOp op) r) (ok : OpOk k.K r o) (ha : PE X a (dE k W fa)) (hb : PE X b (dE k W fb)) (hm : behindInMarks op b = false) : PE X (.Compare a [op] [b] pos) (dE k W (fOp o fa fb)) :=
  pe_weak (pe_cmpR ho ha hb hm) (bin_run (op_run ok))
theorem t_cmp {op : CmpOp} {r : R2} {o : D → D → Option D} (ho : OpR X (compareOp op) r) (ok : OpOk k.K r o) (ha : PE X a (dE k W fa)) (hb : PE X b (dE k W fb)) (hm : behindInMarks op b = false) : PT X (.Compare a [op] [b] pos) (dT k W (tCmp (fOp o fa fb))) :=
  pt_weak (pt_cmpR ho ha hb hm) fun σ H Q h => by
    refine bin_run (op_run ok) σ H (fun x H' => ∃ k, x = .bl k ∧ Q k H') ?_
    obtain ⟨G, μ, F, st, σd, S, R, h⟩ := h
    refine ⟨G, μ, F, st, σd, S, R, (Post.bind h).mono fun x st1 μ1 F1 H1 e1 S1 h1 v rv => ?_⟩
    obtain ⟨bb, hb, h2⟩ := h1.of
    cases x with
    | ref n => cases hb
    | v d => cases d <;> first
      | (cases hb; cases rv; exact ⟨_, rfl, h2 μ1 F1 H1 (Ext.refl _ _) S1⟩)
      | cases hb
theorem e_un {op : UnaryOp} {r : V → Hp → VK → Prop} {o : D → Option D} (ho : UnR X (unaryOp op) r) (ok : ∀ x d z H Q, Rep k.K H d x → o d = some z → ∃ v, (∀ F, Rep k.K F z v) ∧ (Q v H → r x H Q)) (ha : PE X a (dE k W fa)) : PE X (.UnaryOp op a pos) (dE k W (fUn o fa)) :=
  pe_weak (pe_un ho ha) (un_run fun G μ F st H x v Q E S rx h => by
    obtain ⟨y, hy, h⟩ := h.of
    cases q1 : x.view st with
    | none => rw [q1] at hy; cases hy
    | some d =>
      rw [q1] at hy
      have hy' : (o d).map A.v = some y := hy
      cases q3 : o d with
      | none => rw [q3] at hy'; cases hy'
      | some z =>
        rw [q3] at hy'; cases hy'
        obtain ⟨u, hu, hq⟩ := ok v d z H Q (view_rep S rx q1) q3
        exact hq (h μ F H (Ext.refl _ _) S u (hu F)))

/-! operations -/
theorem k_int2 {K : KM} {C : Int → Int → Prop} {g : Int → Int → V} {o : D → D → Option D} (h : ∀ d e z, o d e = some z → ∃ i j, d = .int i ∧ e = .int j ∧ C i j ∧ ∀ F, Rep K F z (g i j)) : OpOk K (rI C g) o := by
  intro x y d e z H Q rx ry q
  obtain ⟨i, j, rfl, rfl, hc, hz⟩ := h d e z q
  cases rx; cases ry
  exact ⟨g i j, hz, fun hq => ⟨i, j, rfl, rfl, hc, hq⟩⟩
theorem k_int0 {K : KM} {g : Int → Int → V} {o : D → D → Option D} (h : ∀ d e z, o d e = some z → ∃ i j, d = .int i ∧ e = .int j ∧ ∀ F, Rep K F z (g i j)) : OpOk K (rI0 g) o := by
  intro x y d e z H Q rx ry q
  obtain ⟨i, j, rfl, rfl, hz⟩ := h d e z q
  cases rx; cases ry
  exact ⟨g i j, hz, fun hq => ⟨i, j, rfl, rfl, hq⟩⟩
section
variable {K : KM}
theorem k_add : OpOk K (rI0 fun i j => .int (i + j)) oAdd := k_int0 fun d e z h => by
  cases d <;> cases e <;> first
    | (cases h; exact ⟨_, _, rfl, rfl, fun _ => .int⟩)
    | cases h
theorem k_sub : OpOk K (rI0 fun i j => .int (i - j)) oSub := k_int0 fun d e z h => by
  cases d <;> cases e <;> first
    | (cases h; exact ⟨_, _, rfl, rfl, fun _ => .int⟩)
    | cases h
theorem k_lt : OpOk K (rI0 fun i j => .bl (decide (i < j))) oLt := k_int0 fun d e z h => by
  cases d <;> cases e <;> first
    | (cases h; exact ⟨_, _, rfl, rfl, fun _ => by rw [dec_eq]; exact .bl⟩)
    | cases h
theorem k_le : OpOk K (rI0 fun i j => .bl (decide (i ≤ j))) oLe := k_int0 fun d e z h => by
  cases d <;> cases e <;> first
    | (cases h; exact ⟨_, _, rfl, rfl, fun _ => by rw [dec_eq]; exact .bl⟩)
    | cases h
theorem k_gt : OpOk K (rI0 fun i j => .bl (decide (j < i))) oGt := k_int0 fun d e z h => by
  cases d <;> cases e <;> first
    | (cases h; exact ⟨_, _, rfl, rfl, fun _ => by rw [dec_eq]; exact .bl⟩)
    | cases h
theorem k_ge : OpOk K (rI0 fun i j => .bl (decide (j ≤ i))) oGe := k_int0 fun d e z h => by
  cases d <;> cases e <;> first
    | (cases h; exact ⟨_, _, rfl, rfl, fun _ => by rw [dec_eq]; exact .bl⟩)
    | cases h
theorem mulOk_ok {i j : Int} (h : mulOk i j) : IntMulOk i j := h.elim (fun h => CMul.ok h) fun h => (wide_mul h.1 h.2 (by decide) (by decide) (by decide)).ok
def CDivB (_ j : Int) : Prop := divOk j
theorem op_mulB {X : Cx} : OpR X (binaryOp .Mult) (rI mulOk fun i j => .int (i * j)) := opI fun _ _ _ _ _ _ _ hc q => _root_.PyProof.Rows.mul_int q (mulOk_ok hc)
theorem op_divB {X : Cx} : OpR X (binaryOp .FloorDiv) (rI CDivB fun i j => .int (i.fdiv j)) := opI fun _ _ _ _ _ _ _ hc q => floordiv_int hc.1 q (.inl (PyProof.noPylong_of_log2 (Nat.lt_of_lt_of_le (PySem.Flt.log2_lt_of (by decide) hc.2) (by decide))))
theorem k_mul : OpOk K (rI mulOk fun i j => .int (i * j)) oMul := k_int2 fun d e z h => by
  cases d <;> cases e <;> first
    | (unfold oMul at h; dsimp only at h; unfold gd at h; split at h
       · rename_i q; cases h; exact ⟨_, _, rfl, rfl, q, fun _ => .int⟩
       · cases h)
    | cases h
theorem k_div : OpOk K (rI CDivB fun i j => .int (i.fdiv j)) oDiv := k_int2 fun d e z h => by
  cases d <;> cases e <;> first
    | (unfold oDiv at h; dsimp only at h; unfold gd at h; split at h
       · rename_i q; cases h; exact ⟨_, _, rfl, rfl, q, fun _ => .int⟩
       · cases h)
    | cases h
theorem k_mod : OpOk K (rI (fun _ j => j ≠ 0) fun i j => .int (i.fmod j)) oMod := k_int2 fun d e z h => by
  cases d <;> cases e <;> first
    | (unfold oMod at h; dsimp only at h; unfold gd at h; split at h
       · rename_i q; cases h; exact ⟨_, _, rfl, rfl, q, fun _ => .int⟩
       · cases h)
    | cases h
theorem k_pow : OpOk K (rI CPow fun i j => .int (i ^ j.toNat)) oPow := k_int2 fun d e z h => by
  cases d <;> cases e <;> first
    | (unfold oPow at h; dsimp only at h; unfold gd at h; split at h
       · rename_i q; cases h; exact ⟨_, _, rfl, rfl, q, fun _ => .int⟩
       · cases h)
    | cases h
theorem k_neg (x : V) (d z : D) (H : Hp) (Q : VK) (r : Rep K H d x) (h : oNeg d = some z) : ∃ v, (∀ F, Rep K F z v) ∧ (Q v H → rU (fun i => .int (-i)) x H Q) := by
  cases d <;> first
    | (cases h; cases r; exact ⟨_, fun _ => .int, fun q => ⟨_, rfl, q⟩⟩)
    | cases h
theorem k_eqS : OpOk K rEq oEqS := by
  intro x y d e z H Q rx ry h
  cases d <;> cases e <;> first
    | (cases h; cases rx; cases ry; exact ⟨_, fun _ => .bl, fun q => ⟨rfl, by simpa [dec_eq] using q⟩⟩)
    | cases h
theorem k_neS : OpOk K rNe oNeS := by
  intro x y d e z H Q rx ry h
  cases d <;> cases e <;> first
    | (cases h; cases rx; cases ry; exact ⟨_, fun _ => .bl, fun q => ⟨rfl, by simpa [dec_eq] using q⟩⟩)
    | cases h
theorem k_isN : OpOk K (fun x y H Q => y = .non ∧ Q (.bl (decide (x = .non))) H) oIsN := by
  intro x y d e z H Q rx ry h
  cases e <;> first
    | (cases ry; cases d <;> (cases h; cases rx <;> exact ⟨_, fun _ => .bl, fun q => ⟨rfl, q⟩⟩))
    | cases h
theorem k_notN : OpOk K (fun x y H Q => y = .non ∧ Q (.bl (!decide (x = .non))) H) oNotN := by
  intro x y d e z H Q rx ry h
  cases e <;> first
    | (cases ry; cases d <;> (cases h; cases rx <;> exact ⟨_, fun _ => .bl, fun q => ⟨rfl, q⟩⟩))
    | cases h
end
end
end Dn

set_option linter.all false
set_option Elab.async false
set_option maxRecDepth 100000
/-! Rul2: arguments, calls, displays, subscripts, tests. -/
namespace Dn
open PySem PySem.Spec PyProof.Rows L2

theorem sizeMax_eq : sizeMax = sizeLine := by rw [sizeLine_eq]; rfl
theorem fArgs_len : ∀ (fs : List EF) (σ : Env) (st : Store) (as : List A) (st' : Store), fArgs fs σ st = .ok as st' → as.length = fs.length
  | [], σ, st, as, st', h => by cases h; rfl
  | f :: fs, σ, st, as, st', h => by
    have h' : ((f σ st).bind fun a st1 => (fArgs fs σ st1).bind fun r st2 => .ok (a :: r) st2) = .ok as st' := h
    cases q : f σ st with
    | ok a st1 =>
      rw [q] at h'
      have h2 : ((fArgs fs σ st1).bind fun r st2 => RE.ok (a :: r) st2) = .ok as st' := h'
      cases q2 : fArgs fs σ st1 with
      | ok r st2 =>
        rw [q2] at h2; cases h2
        rw [List.length_cons, List.length_cons, fArgs_len fs σ st1 r _ q2]
      | err x s => rw [q2] at h2; cases h2
      | bad => rw [q2] at h2; cases h2
    | err x s => rw [q] at h'; cases h'
    | bad => rw [q] at h'; cases h'

section
variable {X : Cx} {W : WX} {k : Kx} {a b c e : Expr} {es : List Expr} {fa fb fc f : EF} {fs : List EF} {l : LF} {pos : Pos} {x : Str} {p : Pos}
theorem a_nil : PA X [] (dA k W (fArgs [])) := pa_weak pa_nil fun σ H Q ⟨G, μ, F, st, σd, S, R, h⟩ => h μ F H (Ext.refl _ _) S [] .nil
theorem a_cons (ha : PE X e (dE k W f)) (hr : PA X es (dA k W (fArgs fs))) (hs : starEach (e :: es) X.env = (false, eval e X.env) :: starEach es X.env := by rfl) : PA X (e :: es) (dA k W (fArgs (f :: fs))) :=
  pa_weak (pa_cons ha hr hs) fun σ H Q ⟨G, μ, F, st, σd, S, R, h⟩ => by
    refine ⟨G, μ, F, st, σd, S, R, (Post.bind (show Post k G μ F _ _ ((f σd st).bind fun a st1 => (fArgs fs σd st1).bind fun r st2 => .ok (a :: r) st2) from h)).mono fun x st1 μ1 F1 H1 e1 S1 h1 v rv => ?_⟩
    refine ⟨G, μ1, F1, st1, σd, S1, R.ext e1, h1.bind.mono fun r st2 μ2 F2 H2 e2 S2 h2 ws rws => ?_⟩
    exact h2 μ2 F2 H2 (Ext.refl _ _) S2 (v :: ws) (.cons (rv.ext e2) rws)

def CallOk (K : KM) (r : List V → Hp → VK → Prop) (o : List D → Option D) : Prop := ∀ vs ds z H Q, Reps K H ds vs → o ds = some z → ∃ v, (∀ F, Rep K F z v) ∧ (Q v H → r vs H Q)
theorem args_run {r : List V → Hp → VK → Prop} {g : List A → Store → RE A} (hr : ∀ G μ F st H (xs : List A) (vs : List V) (Q : VK) (E : XK), Sim k.K G μ F st H → AReps k.K μ F xs vs →
      Post k G μ F E (fun a _ μ' F' H' => ∀ v, ARep k.K μ' F' a v → Q v H') (g xs st) → r vs H Q) (σ : St) (H : Hp) (Q : VK)
    (h : dE k W (fun σ st => (fArgs fs σ st).bind fun xs st1 => g xs st1) σ H Q) : tCB r (dA k W (fArgs fs)) σ H Q := by
  obtain ⟨G, μ, F, st, σd, S, R, h⟩ := h
  refine ⟨G, μ, F, st, σd, S, R, h.bind.mono fun x st1 μ1 F1 H1 e1 S1 h1 v rv => ?_⟩
  exact hr G μ1 F1 st1 H1 x v Q _ S1 rv h1
theorem call_run {r : List V → Hp → VK → Prop} {o : List D → Option D} (ok : CallOk k.K r o) (G : Hp) (μ : List Addr) (F : Hp) (st : Store) (H : Hp) (xs : List A) (vs : List V) (Q : VK) (E : XK) (S : Sim k.K G μ F st H) (rx : AReps k.K μ F xs vs)
    (h : Post k G μ F E (fun a _ μ' F' H' => ∀ v, ARep k.K μ' F' a v → Q v H') (RE.of ((viewL st xs).bind fun ds => (o ds).map .v) st)) : r vs H Q := by
  obtain ⟨y, hy, h⟩ := h.of
  cases q1 : viewL st xs with
  | none => rw [q1] at hy; cases hy
  | some ds =>
    rw [q1] at hy
    have hy' : (o ds).map A.v = some y := hy
    cases q3 : o ds with
    | none => rw [q3] at hy'; cases hy'
    | some z =>
      rw [q3] at hy'; cases hy'
      obtain ⟨u, hu, hq⟩ := ok vs ds z H Q (viewL_rep S rx q1) q3
      exact hq (h μ F H (Ext.refl _ _) S u (hu F))
theorem e_callB {id : String} {r : List V → Hp → VK → Prop} {o : List D → Option D} (hc : CallR X (.builtin id) r) (ok : CallOk k.K r o) (hg : Gl X x) (hm : X.mg x = none) (hv : bootBuiltins x = some (.builtin id)) (ha : PA X (e :: es) (dA k W (fArgs fs))) (hn : x ≠ "__name__" := by decide) (hdb : (x == ("__debug__" : Str)) = false := by decide)
    (he : starEach (e :: es) X.env = (false, eval e X.env) :: starEach es X.env := by rfl) (hpl : (backTo pos (starEach es X.env)).any (·.1) = false := by rfl) : PE X (.Call (.Name x p) (e :: es) [] pos) (dE k W (fB o fs)) :=
  pe_weak (pe_callB hc hg hm hv ha hn hdb he hpl) (args_run (call_run ok))
theorem e_callTy {T : String} {r : List V → Hp → VK → Prop} {o : List D → Option D} (hc : CallR X (.type T) r) (ok : CallOk k.K r o) (hg : Gl X x) (hm : X.mg x = none) (hv : bootBuiltins x = some (.type T)) (ha : PA X (e :: es) (dA k W (fArgs fs))) (hn : x ≠ "__name__" := by decide) (hdb : (x == ("__debug__" : Str)) = false := by decide)
    (he : starEach (e :: es) X.env = (false, eval e X.env) :: starEach es X.env := by rfl) (hpl : (backTo pos (starEach es X.env)).any (·.1) = false := by rfl) : PE X (.Call (.Name x p) (e :: es) [] pos) (dE k W (fB o fs)) :=
  pe_weak (pe_callTy hc hg hm hv ha hn hdb he hpl) (args_run (call_run ok))
section
variable {K : KM}
theorem k_abs : CallOk K (fun xs H Q => ∃ i, xs = [.int i] ∧ Q (.int (if i < 0 then -i else i)) H) bAbs := fun vs ds z H Q r h => by
  match ds, r, h with
  | [.int i], .cons .int .nil, h => cases h; exact ⟨_, fun _ => .int, fun q => ⟨i, rfl, q⟩⟩
theorem k_max2 : CallOk K (fun xs H Q => ∃ i j, xs = [.int i, .int j] ∧ Q (.int (if j > i then j else i)) H) bMax2 := fun vs ds z H Q r h => by
  match ds, r, h with
  | [.int i, .int j], .cons .int (.cons .int .nil), h => cases h; exact ⟨_, fun _ => .int, fun q => ⟨i, j, rfl, q⟩⟩
theorem k_min2 : CallOk K (fun xs H Q => ∃ i j, xs = [.int i, .int j] ∧ Q (.int (if j < i then j else i)) H) bMin2 := fun vs ds z H Q r h => by
  match ds, r, h with
  | [.int i, .int j], .cons .int (.cons .int .nil), h => cases h; exact ⟨_, fun _ => .int, fun q => ⟨i, j, rfl, q⟩⟩
theorem k_intc : CallOk K (fun xs H Q => (∃ i, xs = [.int i] ∧ Q (.int i) H) ∨ ∃ k, xs = [.bl k] ∧ Q (.int (if k then 1 else 0)) H) bInt := fun vs ds z H Q r h => by
  match ds, r, h with
  | [.int i], .cons .int .nil, h => cases h; exact ⟨_, fun _ => .int, fun q => .inl ⟨i, rfl, q⟩⟩
  | [.bl i], .cons .bl .nil, h => cases h; exact ⟨_, fun _ => .int, fun q => .inr ⟨i, rfl, q⟩⟩
theorem ints_rep {H : Hp} : ∀ {ds : List D} {vs : List V} {ns : List Int}, Reps K H ds vs → intsD ds = some ns → vs = ns.map V.int ∧ ds = ns.map D.int
  | _, _, _, .nil, h => by cases h; exact ⟨rfl, rfl⟩
  | .int i :: r, _, ns, .cons .int t, h => by
    have h' : (intsD r).map (i :: ·) = some ns := h
    cases q : intsD r with
    | none => rw [q] at h'; cases h'
    | some ms =>
      rw [q] at h'; cases h'
      obtain ⟨e1, e2⟩ := ints_rep t q
      exact ⟨by rw [e1]; rfl, by rw [e2]; rfl⟩
theorem k_sum : CallOk K (rSum K) bSum := fun vs ds z H Q r h => by
  match ds, r, h with
  | [.lst xs], .cons (.lst h1 h2) .nil, h =>
    have h' : (intsD xs).map (fun ns => D.int ns.sum) = some z := h
    cases q : intsD xs with
    | none => rw [q] at h'; cases h'
    | some ns =>
      rw [q] at h'; cases h'
      obtain ⟨e1, _⟩ := ints_rep h2 q
      subst e1
      exact ⟨_, fun _ => .int, fun q => ⟨_, ns, rfl, SqL.of h1, q⟩⟩
end
/-- len(x) -/
theorem e_len (hg : Gl X ("len" : Str)) (hm : X.mg ("len" : Str) = none) (hk : k.K = X.K) (ha : PE X e (dE k W f)) (hs : starEach [e] X.env = (false, eval e X.env) :: starEach [] X.env := by rfl) (hpl : (backTo pos (starEach [] X.env)).any (·.1) = false := by rfl) : PE X (.Call (.Name ("len" : Str) p) [e] [] pos) (dE k W (fLen f)) :=
  pe_weak (pe_callB call_len_seq hg hm PySem.boot_len (pa_cons ha pa_nil hs) (by decide) (by decide) hs hpl) fun σ H Q ⟨G, μ, F, st, σd, S, R, h⟩ => by
    refine ⟨G, μ, F, st, σd, S, R, (Post.bind h).mono fun x st1 μ1 F1 H1 e1 S1 h1 v rv => ?_⟩
    obtain ⟨y, hy, h⟩ := h1.of
    cases q1 : x.elems st1 with
    | none => rw [q1] at hy; cases hy
    | some xs =>
      rw [q1] at hy; cases hy
      obtain ⟨p, ys, rfl, hsq, hr⟩ := elems_rep S1 rv q1
      rw [hk] at hsq
      exact ⟨p, ys, rfl, hsq.imp id fun z => z.1, h μ1 F1 H1 (Ext.refl _ _) S1 _ (by rw [← hr.len]; exact .int)⟩
/-- (a, b, ..) -/
theorem e_tup {x1} (h : PA X es (dA k W (fArgs fs))) (hl : fs.length ≤ 1000 := by decide) : PE X (.Tuple es x1 pos) (dE k W (fTup fs)) :=
  pe_weak (pe_tup h) fun σ H Q ⟨G, μ, F, st, σd, S, R, h⟩ => by
    refine ⟨G, μ, F, st, σd, S, R, (Post.bindE h).mono fun as st1 μ1 F1 H1 e1 S1 ⟨hq, h1⟩ vs rv => ?_⟩
    refine ⟨?_, fun p hp => ?_⟩
    · rw [← rv.len, fArgs_len _ _ _ _ _ hq, sizeLine_eq]
      omega
    · split at h1
      · rename_i ds st2 q
        obtain ⟨F2, S2, x2, r2, n2⟩ := frzL_ok S1 rv q
        obtain ⟨S3, x3⟩ := S2.new (o := .tup vs) hp
        exact h1 μ1 _ _ (x2.trans x3) S3 _ (Rep.tup upd_same (r2.mono x3.2))
      · exact h1.elim
theorem e_frz (h : PE X e (dL k W l)) : PE X e (dE k W (fFrz l)) :=
  pe_weak h fun σ H Q ⟨G, μ, F, st, σd, S, R, h⟩ => by
    refine ⟨G, μ, F, st, σd, S, R, (Post.bind h).mono fun as st1 μ1 F1 H1 e1 S1 h1 p vs hp hF hμ hG rv => ?_⟩
    split at h1
    · rename_i ds st2 q
      obtain ⟨F2, S2, x2, r2, n2⟩ := frzL_ok S1 rv q
      obtain ⟨S3, x3⟩ := S2.keep hp (n2 p hμ hF) hG hμ
      exact h1 μ1 _ _ (x2.trans x3) S3 _ (Rep.lst upd_same (r2.mono x3.2))
    · exact h1.elim
theorem e_live (h : PE X e (dL k W l)) : PE X e (dE k W (fLive l)) :=
  pe_weak h fun σ H Q ⟨G, μ, F, st, σd, S, R, h⟩ => by
    refine ⟨G, μ, F, st, σd, S, R, (Post.bind h).mono fun as st1 μ1 F1 H1 e1 S1 h1 p vs hp hF hμ hG rv => ?_⟩
    split at h1
    · rename_i q
      obtain ⟨S2, x2⟩ := S1.push hp hF hG hμ rv q
      exact h1 _ _ _ x2 S2 _ ⟨p, by rw [← S1.len]; simp, rfl⟩
    · exact h1.elim
/-- what makes a new list -/
theorem new_run {Q : VK} {E : XK} {G F H : Hp} {μ : List Addr} {st : Store} {xs : List A} {vs : List V} {p : Addr} (S : Sim k.K G μ F st H) (rv : AReps k.K μ F xs vs) (hp : H p = none)
    (h : Post k G μ F E (fun xs _ μ' F' H' => ∀ p vs, H' p = some (.lst vs) → F' p = none → p ∉ μ' → G p = none → AReps k.K μ' F' xs vs → Q (.ref p) H') (.ok xs st)) : Q (.ref p) (upd H p (.lst vs)) :=
  h μ F _ (Ext.refl _ _) (S.heap hp) p vs upd_same (S.freeF hp) (S.notin hp) (S.freeG hp) rv
theorem l_disp (h : PA X es (dA k W (fArgs fs))) (hl : fs.length ≤ 1000 := by decide) : PE X (.List es pos) (dL k W (lDisp fs)) :=
  pe_weak (pe_lst h) fun σ H Q ⟨G, μ, F, st, σd, S, R, h⟩ => by
    have h2 := Post.here (r := fArgs fs σd st) h
    refine ⟨G, μ, F, st, σd, S, R, h2.mono fun as st1 μ1 F1 H1 e1 S1 ⟨hq, h1⟩ vs rv => ?_⟩
    refine ⟨?_, fun p hp => new_run S1 rv hp h1⟩
    rw [← rv.len, fArgs_len _ _ _ _ _ hq, sizeLine_eq]
    omega
theorem l_list (hg : Gl X ("list" : Str)) (hm : X.mg ("list" : Str) = none) (hk : k.K = X.K) (ha : PE X e (dE k W f)) (hs : starEach [e] X.env = (false, eval e X.env) :: starEach [] X.env := by rfl) (hpl : (backTo pos (starEach [] X.env)).any (·.1) = false := by rfl) : PE X (.Call (.Name ("list" : Str) p) [e] [] pos) (dL k W (lList f)) :=
  pe_weak (pe_callTy call_list_of hg hm (by decide +kernel) (pa_cons ha pa_nil hs) (by decide) (by decide) hs hpl) fun σ H Q ⟨G, μ, F, st, σd, S, R, h⟩ => by
    refine ⟨G, μ, F, st, σd, S, R, (Post.bind h).mono fun x st1 μ1 F1 H1 e1 S1 h1 v rv => ?_⟩
    obtain ⟨xs, q1, _⟩ := h1.of
    obtain ⟨p, ys, rfl, hsq, hr⟩ := elems_rep S1 rv q1
    rw [q1] at h1
    rw [hk] at hsq
    exact ⟨p, ys, rfl, hsq.imp id fun z => z.1, fun l hl => new_run S1 hr hl h1⟩
theorem e_tuple (hg : Gl X ("tuple" : Str)) (hm : X.mg ("tuple" : Str) = none) (hk : k.K = X.K) (ha : PE X e (dE k W f)) (hs : starEach [e] X.env = (false, eval e X.env) :: starEach [] X.env := by rfl) (hpl : (backTo pos (starEach [] X.env)).any (·.1) = false := by rfl) : PE X (.Call (.Name ("tuple" : Str) p) [e] [] pos) (dE k W (fTuple f)) :=
  pe_weak (pe_callTy call_tuple_of hg hm (by decide +kernel) (pa_cons ha pa_nil hs) (by decide) (by decide) hs hpl) fun σ H Q ⟨G, μ, F, st, σd, S, R, h⟩ => by
    refine ⟨G, μ, F, st, σd, S, R, (Post.bind h).mono fun x st1 μ1 F1 H1 e1 S1 h1 v rv => ?_⟩
    split at h1
    · rename_i xs q1
      obtain ⟨p, ys, rfl, hsq, hr⟩ := elems_rep S1 rv q1
      split at h1
      · rename_i ds st2 q2
        obtain ⟨F2, S2, x2, r2, n2⟩ := frzL_ok S1 hr q2
        refine ⟨p, ys, rfl, ?_⟩
        rw [hk] at hsq
        rcases hsq with hsq | hsq
        · refine .inl ⟨hsq, fun l hl => ?_⟩
          obtain ⟨S3, x3⟩ := S2.new (o := .tup ys) hl
          exact h1 μ1 _ _ (x2.trans x3) S3 _ (Rep.tup upd_same (r2.mono x3.2))
        · obtain ⟨hsq, ds', rfl⟩ := hsq
          refine .inr ⟨hsq, ?_⟩
          cases q1
          rw [frzL_vals] at q2
          cases q2
          exact h1 μ1 F1 H1 (Ext.refl _ _) S1 _ rv
      · exact h1.elim
    · exact h1.elim
end
end Dn

set_option linter.all false
set_option Elab.async false
set_option maxRecDepth 100000
/-! Rul3: subscripts, tests, iterables, targets. -/
namespace Dn
open PySem PySem.Spec PyProof.Rows L2

section
variable {X : Cx} {W : WX} {k : Kx} {a b c e : Expr} {es : List Expr} {fa fb fc f : EF} {fs : List EF} {l : LF} {pos : Pos} {x : Str} {p : Pos} {ta tb : TF}
theorem ixOf_eq (n : Nat) (i : Int) : ixOf n i = ixN n i := by
  unfold ixOf ixN gd
  by_cases h1 : 0 ≤ i
  · rw [if_pos h1, if_pos h1]
    by_cases h2 : i < n
    · rw [if_pos h2, if_pos h2]
    · rw [if_neg h2, if_neg h2]
  · rw [if_neg h1, if_neg h1]
    by_cases h2 : -(n : Int) ≤ i
    · rw [if_pos h2, if_pos h2]
    · rw [if_neg h2, if_neg h2]
/-- x[i], x a list or a tuple -/
theorem e_ix (hk : k.K = X.K) (ha : PE X a (dE k W fa)) (hb : PE X b (dE k W fb)) (hs : PlainIx b) : PE X (.Subscript a b pos) (dE k W (fIx fa fb)) :=
  pe_weak (pe_ix ix_seq ha hb hs) (bin_run fun G μ F st H x y v w Q E S rx ry h => by
    obtain ⟨z, hz, h9⟩ := h.of
    cases q1 : x.elems st with
    | none => rw [q1] at hz; cases hz
    | some xs =>
      rw [q1] at hz
      cases y with
      | ref n => cases hz
      | v d =>
        cases d with
        | int i =>
          cases ry
          have hz' : ((ixOf xs.length i).bind fun j => xs[j]?) = some z := hz
          cases q2 : ixOf xs.length i with
          | none => rw [q2] at hz'; cases hz'
          | some j =>
            rw [q2] at hz'
            have hj : xs[j]? = some z := hz'
            obtain ⟨p, ys, rfl, hsq, hr⟩ := elems_rep S rx q1
            obtain ⟨u, hu, ru⟩ := hr.get hj
            have hat : atI ys i = some u := by
              unfold atI
              rw [← hr.len, ← ixOf_eq, q2]
              exact hu
            have hq := h9 μ F H (Ext.refl _ _) S u ru
            rw [hk] at hsq
            rcases hsq with hsq | ⟨hsq, _⟩
            · exact .inl ⟨p, ys, i, u, rfl, rfl, hsq, hat, hq⟩
            · exact .inr (.inl ⟨p, ys, i, u, rfl, rfl, hsq, hat, hq⟩)
        | _ => cases hz)

theorem truth_rep {K : KM} {G F H : Hp} {μ : List Addr} {st : Store} (S : Sim K G μ F st H) {a : A} {v : V} {c : Bool} (r : ARep K μ F a v) (h : truth st a = some c) : TruV K v H c := by
  have emp : ∀ {xs : List A} {vs : List V}, AReps K μ F xs vs → xs.isEmpty = vs.isEmpty := fun r => by cases r <;> rfl
  have emp2 : ∀ {xs : List D} {vs : List V}, Reps K F xs vs → xs.isEmpty = vs.isEmpty := fun r => by cases r <;> rfl
  cases a with
  | v d =>
    cases d with
    | non => cases h; cases r; rfl
    | bl b => cases h; cases r; rfl
    | int i => cases h; cases r; rfl
    | tup ds => cases h; cases r with
      | tup h1 h2 => exact .inr (.inl ⟨_, SqT.of (S.sub _ _ h1), by rw [emp2 h2]⟩)
      | tup0 h1 => exact .inr (.inl ⟨_, Same.tup S.sub h1, rfl⟩)
    | lst ds => cases h; cases r with
      | lst h1 h2 => exact .inl ⟨_, SqL.of (S.sub _ _ h1), by rw [emp2 h2]⟩
    | ro ds => cases h; cases r with
      | ro h1 h2 => exact .inl ⟨_, S.sub.seq h1, by rw [emp2 h2]⟩
    | _ => cases h
  | ref n =>
    obtain ⟨x, h1, rfl⟩ := r
    unfold truth at h
    dsimp only at h
    split at h
    · rename_i ys q
      cases h
      obtain ⟨_, ⟨vs, h2, h3⟩, _⟩ := cell_of S h1 q
      exact .inl ⟨vs, SqL.of h2, by rw [emp h3]⟩
    · rename_i ds q
      cases h
      obtain ⟨vs, h2, h3⟩ := cell_of S h1 q
      exact .inl ⟨vs, SqL.of (S.sub _ _ h2), by rw [emp2 h3]⟩
    · cases h
/-- an expression's truth (no text) -/
theorem t_of (hk : k.K = X.K) (ha : PE X a (dE k W fa)) (he : ∀ whole, isTrue a X.env whole = (do let v ← whole; standAt a.pos; holding [v] (truthy v)) := by intro _; rfl) : PT X a (dT k W (tOf fa)) :=
  pt_weak (pt_truth ha he) fun σ H Q ⟨G, μ, F, st, σd, S, R, h⟩ => by
    refine ⟨G, μ, F, st, σd, S, R, (Post.bind h).mono fun x st1 μ1 F1 H1 e1 S1 h1 v rv => ?_⟩
    obtain ⟨c, hc, h2⟩ := h1.of
    refine ⟨c, ?_, h2 μ1 F1 H1 (Ext.refl _ _) S1⟩
    rw [← hk]
    exact truth_rep S1 rv hc
theorem w_and1 (ha : PT X a (dT k W ta)) : PW X (.BoolOp .And [a] pos) (dT k W ta) := pw_and1 ha
theorem w_or1 (ha : PT X a (dT k W ta)) : PW X (.BoolOp .Or [a] pos) (dT k W ta) := pw_or1 ha
theorem w_and {rest : List Expr} (ha : PT X a (dT k W ta)) (hb : PW X (.BoolOp .And (b :: rest) pos) (dT k W tb)) : PW X (.BoolOp .And (a :: b :: rest) pos) (dT k W (Dn.tAnd ta tb)) :=
  pw_weak (pw_and ha hb) fun σ H Q ⟨G, μ, F, st, σd, S, R, h⟩ => by
    refine ⟨G, μ, F, st, σd, S, R, (Post.bind h).mono fun c st1 μ1 F1 H1 e1 S1 h1 => ?_⟩
    cases c with
    | true => exact ⟨G, μ1, F1, st1, σd, S1, R.ext e1, h1⟩
    | false => exact h1 μ1 F1 H1 (Ext.refl _ _) S1
theorem w_or {rest : List Expr} (ha : PT X a (dT k W ta)) (hb : PW X (.BoolOp .Or (b :: rest) pos) (dT k W tb)) : PW X (.BoolOp .Or (a :: b :: rest) pos) (dT k W (Dn.tOr ta tb)) :=
  pw_weak (pw_or ha hb) fun σ H Q ⟨G, μ, F, st, σd, S, R, h⟩ => by
    refine ⟨G, μ, F, st, σd, S, R, (Post.bind h).mono fun c st1 μ1 F1 H1 e1 S1 h1 => ?_⟩
    cases c with
    | false => exact ⟨G, μ1, F1, st1, σd, S1, R.ext e1, h1⟩
    | true => exact h1 μ1 F1 H1 (Ext.refl _ _) S1
theorem t_not (ha : PT X a (dT k W ta)) : PT X (.UnaryOp .Not a pos) (dT k W (Dn.tNot ta)) :=
  pt_weak (pt_not ha) fun σ H Q ⟨G, μ, F, st, σd, S, R, h⟩ => by
    exact ⟨G, μ, F, st, σd, S, R, (Post.bind h).mono fun c st1 μ1 F1 H1 e1 S1 h1 => h1 μ1 F1 H1 (Ext.refl _ _) S1⟩
theorem bl_rep {K : KM} {μ : List Addr} {F : Hp} {x : A} {v : V} {c : Bool} (r : ARep K μ F x v) (h : x.bl? = some c) : v = .bl c := by
  cases x with
  | ref n => cases h
  | v d => cases d <;> first
    | (cases h; cases r; rfl)
    | cases h
theorem e_one {op : BoolOp} (ha : PE X a (dE k W fa)) : PE X (.BoolOp op [a] pos) (dE k W fa) := pe_one ha
theorem e_and {rest : List Expr} (ha : PE X a (dE k W fa)) (hb : PE X (.BoolOp .And (b :: rest) pos) (dE k W fb)) : PE X (.BoolOp .And (a :: b :: rest) pos) (dE k W (fAnd fa fb)) :=
  pe_weak (pe_and ha hb) fun σ H Q ⟨G, μ, F, st, σd, S, R, h⟩ => by
    refine ⟨G, μ, F, st, σd, S, R, (Post.bind h).mono fun x st1 μ1 F1 H1 e1 S1 h1 v rv => ?_⟩
    split at h1
    · rename_i c q
      refine ⟨c, bl_rep rv q, ?_⟩
      cases c with
      | true => exact ⟨G, μ1, F1, st1, σd, S1, R.ext e1, h1⟩
      | false => exact h1 μ1 F1 H1 (Ext.refl _ _) S1 _ Rep.bl
    · exact h1.elim
theorem e_or {rest : List Expr} (ha : PE X a (dE k W fa)) (hb : PE X (.BoolOp .Or (b :: rest) pos) (dE k W fb)) : PE X (.BoolOp .Or (a :: b :: rest) pos) (dE k W (fOr fa fb)) :=
  pe_weak (pe_or ha hb) fun σ H Q ⟨G, μ, F, st, σd, S, R, h⟩ => by
    refine ⟨G, μ, F, st, σd, S, R, (Post.bind h).mono fun x st1 μ1 F1 H1 e1 S1 h1 v rv => ?_⟩
    split at h1
    · rename_i c q
      refine ⟨c, bl_rep rv q, ?_⟩
      cases c with
      | false => exact ⟨G, μ1, F1, st1, σd, S1, R.ext e1, h1⟩
      | true => exact h1 μ1 F1 H1 (Ext.refl _ _) S1 _ Rep.bl
    · exact h1.elim
theorem e_not (ha : PE X a (dE k W fa)) : PE X (.UnaryOp .Not a pos) (dE k W (fNot fa)) :=
  pe_weak (pe_not ha) fun σ H Q ⟨G, μ, F, st, σd, S, R, h⟩ => by
    refine ⟨G, μ, F, st, σd, S, R, (Post.bind h).mono fun x st1 μ1 F1 H1 e1 S1 h1 v rv => ?_⟩
    obtain ⟨y, hy, h2⟩ := h1.of
    cases q : x.bl? with
    | none => rw [q] at hy; cases hy
    | some c =>
      rw [q] at hy; cases hy
      exact ⟨c, bl_rep rv q, h2 μ1 F1 H1 (Ext.refl _ _) S1 _ Rep.bl⟩
theorem e_if {t : Expr} (ht : PT X t (dT k W ta)) (ha : PE X a (dE k W fa)) (hb : PE X b (dE k W fb)) : PE X (.IfExp t a b pos) (dE k W (fIf ta fa fb)) :=
  pe_weak (pe_ifExp ht ha hb) fun σ H Q ⟨G, μ, F, st, σd, S, R, h⟩ => by
    refine ⟨G, μ, F, st, σd, S, R, (Post.bind h).mono fun c st1 μ1 F1 H1 e1 S1 h1 => ?_⟩
    cases c with
    | true => exact ⟨G, μ1, F1, st1, σd, S1, R.ext e1, h1⟩
    | false => exact ⟨G, μ1, F1, st1, σd, S1, R.ext e1, h1⟩

/-! iterables -/
/-- a list or a tuple that is walked -/
def iLT (K : PySem.W.Frag) (tl : TE) : TI := fun σ H R => tl σ H fun x H1 => ∃ a, x = .ref a ∧ ((∃ xs, SqL K H1 a xs) ∧ R (Itl K a) H1 ∨ (∃ xs, SqT K H1 a xs) ∧ R (Itt K a) H1)
theorem pi_lt {tg : Expr} {tl : TE} (hl : PE X e tl) : PI X tg e (iLT X.K tl) := by
  refine ⟨fun pins s σ H R I h => thn (hl.run pins s σ H _ I h) fun v s1 w => ?_⟩
  obtain ⟨x, H1, I1, r1, a, rfl, w⟩ := w
  cases r1
  have fp : ∀ b ∈ [s1.heap.objs.size], FpOk X pins H1 b := fun b hb => by
    rw [List.mem_singleton] at hb
    rw [hb]
    exact I1.fpOk (Nat.le_refl _) (I1.hok.fresh (Nat.le_refl _))
  have kp : ∀ {o : Obj}, Inv X pins σ H1 { s1 with heap := s1.heap.push o, toks := s1.toks } := I1.kept fun _ _ => Heap.get?_push_of_some _
  rcases w with ⟨⟨xs, hq⟩, q⟩ | ⟨⟨xs, hq⟩, q⟩
  · obtain ⟨its, _, pl, _⟩ := I1.list hq
    exact wpAny_pyIter_list pl.isList ⟨_, _, _, _, H1, rfl, kp, turn_list a _, ⟨_, Heap.get?_push_size _ rfl, rfl, rfl⟩, fp, q⟩
  · obtain ⟨its, _, pl, _⟩ := I1.tuple hq
    exact wpAny_pyIter_tuple pl ⟨_, _, _, _, H1, rfl, kp, turn_tuple a _, ⟨_, Heap.get?_push_size _ rfl, rfl, rfl⟩, fp, q⟩
theorem sql_inj {K : PySem.W.Frag} {H : Hp} {a : Addr} {xs ys : List V} (h : H a = some (.lst xs)) : SqL K H a xs := .inl (.inl h)
theorem yields_l {k : Kx} {μ : List Addr} {F : Hp} {xs : List A} {vs : List V} {a : Addr} {g : Store → Prop} (r : AReps k.K μ F xs vs)
    (hq : ∀ G μ' F' st H, Ext μ F μ' F' → Sim k.K G μ' F' st H → g st → SqL k.K H a vs) : Yields k μ F ⟨xs, g⟩ (Itl k.K a) := by
  intro G i μ' F' st H e S hg
  have sq := hq G μ' F' st H e S hg
  refine ⟨fun x hx => ?_, fun hl => ⟨vs, sq, by rw [← r.len]; exact Nat.le_of_eq hl.symm⟩⟩
  obtain ⟨v, h1, h2⟩ := r.get hx
  refine ⟨⟨vs, v, sq, h1⟩, fun w H' hy => ?_⟩
  obtain ⟨rfl, hy⟩ := hy
  have := hy vs sq
  rw [h1] at this; cases this
  exact ⟨F', Ext.refl _ _, S, h2.ext e⟩
theorem yields_t {k : Kx} {μ : List Addr} {F : Hp} {xs : List A} {vs : List V} {a : Addr} {g : Store → Prop} (r : AReps k.K μ F xs vs)
    (hq : ∀ G μ' F' st H, Ext μ F μ' F' → Sim k.K G μ' F' st H → g st → SqT k.K H a vs) : Yields k μ F ⟨xs, g⟩ (Itt k.K a) := by
  intro G i μ' F' st H e S hg
  have sq := hq G μ' F' st H e S hg
  refine ⟨fun x hx => ?_, fun hl => ⟨vs, sq, by rw [← r.len]; exact Nat.le_of_eq hl.symm⟩⟩
  obtain ⟨v, h1, h2⟩ := r.get hx
  refine ⟨⟨vs, v, sq, h1⟩, fun w H' hy => ?_⟩
  obtain ⟨rfl, hy⟩ := hy
  have := hy vs sq
  rw [h1] at this; cases this
  exact ⟨F', Ext.refl _ _, S, h2.ext e⟩
theorem i_seq {tg : Expr} (hk : k.K = X.K) (ha : PE X e (dE k W f)) : PI X tg e (dI k W (iSeq f)) :=
  pi_weak (pi_lt ha) fun σ H Q ⟨G, μ, F, st, σd, S, R, h⟩ => by
    refine ⟨G, μ, F, st, σd, S, R, (Post.bind h).mono fun x st1 μ1 F1 H1 e1 S1 h1 v rv => ?_⟩
    rw [← hk]
    cases x with
    | v d =>
      cases d with
      | lst ds =>
        cases rv with
        | lst q1 q2 =>
          exact ⟨_, rfl, .inl ⟨⟨_, SqL.of (S1.sub _ _ q1)⟩, h1 μ1 F1 H1 (Ext.refl _ _) S1 _ (yields_l (AReps.of q2) fun G μ' F' st H e S _ => SqL.of (S.sub _ _ (e.2 _ _ q1)))⟩⟩
      | ro ds =>
        cases rv with
        | ro q1 q2 =>
          exact ⟨_, rfl, .inl ⟨⟨_, S1.sub.seq q1⟩, h1 μ1 F1 H1 (Ext.refl _ _) S1 _ (yields_l (AReps.of q2) fun G μ' F' st H e S _ => S.sub.seq (e.2.seq q1))⟩⟩
      | tup ds =>
        cases rv with
        | tup q1 q2 =>
          exact ⟨_, rfl, .inr ⟨⟨_, SqT.of (S1.sub _ _ q1)⟩, h1 μ1 F1 H1 (Ext.refl _ _) S1 _ (yields_t (AReps.of q2) fun G μ' F' st H e S _ => SqT.of (S.sub _ _ (e.2 _ _ q1)))⟩⟩
        | tup0 q1 =>
          exact ⟨_, rfl, .inr ⟨⟨_, Same.tup S1.sub q1⟩, h1 μ1 F1 H1 (Ext.refl _ _) S1 _ (yields_t .nil fun G μ' F' st H e S _ => Same.tup S.sub (Same.tup e.2 q1))⟩⟩
      | _ => exact h1.elim
    | ref n =>
      obtain ⟨y, hy, rfl⟩ := rv
      dsimp only at h1
      split at h1
      · rename_i xs q
        obtain ⟨_, ⟨vs, h2, h3⟩, _⟩ := cell_of S1 hy q
        refine ⟨y, rfl, .inl ⟨⟨_, SqL.of h2⟩, h1 μ1 F1 H1 (Ext.refl _ _) S1 _ (fun G i μ' F' st H e S hg => ?_)⟩⟩
        -- as it stands now
        obtain ⟨_, ⟨ws, h5, h6⟩, _⟩ := cell_of S (e.at hy) hg
        refine ⟨fun x hx => ?_, fun hl => ⟨ws, SqL.of h5, by rw [← h6.len]; exact Nat.le_of_eq hl.symm⟩⟩
        obtain ⟨v, h7, h8⟩ := h6.get hx
        refine ⟨⟨ws, v, SqL.of h5, h7⟩, fun w H' hy => ?_⟩
        obtain ⟨rfl, hy⟩ := hy
        have := hy ws (SqL.of h5)
        rw [h7] at this; cases this
        exact ⟨F', Ext.refl _ _, S, h8⟩
      · rename_i ds q
        obtain ⟨vs, h2, h3⟩ := cell_of S1 hy q
        exact ⟨y, rfl, .inl ⟨⟨_, SqL.of (S1.sub _ _ h2)⟩, h1 μ1 F1 H1 (Ext.refl _ _) S1 _ (yields_l (AReps.of h3) fun G μ' F' st H e S _ => SqL.of (S.sub _ _ (e.2 _ _ h2)))⟩⟩
      · exact h1.elim
theorem rangeA_len : ∀ (n : Nat) (lo : Int), (rangeA lo n).length = n
  | 0, _ => rfl
  | n + 1, lo => by show (rangeA (lo + 1) n).length + 1 = n + 1; rw [rangeA_len n]
theorem rangeA_get : ∀ (n : Nat) (lo : Int) (i : Nat), i < n → (rangeA lo n)[i]? = some (.v (.int (lo + i)))
  | n + 1, lo, 0, _ => by show some (A.v (D.int lo)) = _; simp
  | n + 1, lo, i + 1, h => by
    show (rangeA (lo + 1) n)[i]? = _
    rw [rangeA_get n (lo + 1) i (by omega)]
    congr 3
    omega
theorem yields_r {μ : List Addr} {F : Hp} {lo : Int} {n : Nat} : Yields k μ F ⟨rangeA lo n, fun _ => True⟩ (Itr lo n) := by
  intro G i μ' F' st H e S hg
  refine ⟨fun x hx => ?_, fun hl => by rw [rangeA_len] at hl; exact Nat.le_of_eq hl.symm⟩
  have hi : i < n := by
    have := (List.getElem?_eq_some_iff.mp hx).1
    rw [rangeA_len] at this; exact this
  refine ⟨hi, fun v H' hy => ?_⟩
  obtain ⟨rfl, rfl⟩ := hy
  rw [rangeA_get n lo i hi] at hx; cases hx
  exact ⟨F', Ext.refl _ _, S, Rep.int⟩
theorem i_range1 {tg : Expr} (hg : Gl X ("range" : Str)) (hm : X.mg ("range" : Str) = none) (ha : PE X e (dE k W f)) (hs : starEach [e] X.env = [(false, eval e X.env)] := by rfl) : PI X tg (.Call (.Name ("range" : Str) p) [e] [] pos) (dI k W (iRange1 f)) :=
  pi_weak (pi_range1 hg hm (pa_cons ha pa_nil hs) hs) fun σ H Q ⟨G, μ, F, st, σd, S, R, h⟩ => by
    refine ⟨G, μ, F, st, σd, S, R, (Post.bind h).mono fun x st1 μ1 F1 H1 e1 S1 h1 v rv => ?_⟩
    cases x with
    | ref n => exact h1.elim
    | v d =>
      cases d with
      | int n =>
        cases rv
        dsimp only at h1
        unfold gd at h1
        split at h1
        · rename_i q
          exact ⟨n, rfl, q.1, q.2, h1 μ1 F1 H1 (Ext.refl _ _) S1 _ yields_r⟩
        · exact h1.elim
      | _ => exact h1.elim
theorem i_range2 {tg : Expr} (hg : Gl X ("range" : Str)) (hm : X.mg ("range" : Str) = none) (ha : PE X a (dE k W fa)) (hb : PE X b (dE k W fb)) (hs : starEach [a, b] X.env = [(false, eval a X.env), (false, eval b X.env)] := by rfl) (hs2 : starEach [b] X.env = [(false, eval b X.env)] := by rfl) :
    PI X tg (.Call (.Name ("range" : Str) p) [a, b] [] pos) (dI k W (iRange2 fa fb)) :=
  pi_weak (pi_range2 hg hm (pa_cons ha (pa_cons hb pa_nil (by rw [hs2]; rfl)) (by rw [hs, hs2])) hs hs2) fun σ H Q ⟨G, μ, F, st, σd, S, R, h⟩ => by
    refine ⟨G, μ, F, st, σd, S, R, (Post.bind h).mono fun x st1 μ1 F1 H1 e1 S1 h1 v rv => ?_⟩
    refine ⟨G, μ1, F1, st1, σd, S1, R.ext e1, (Post.bind h1).mono fun y st2 μ2 F2 H2 e2 S2 h2 w rw' => ?_⟩
    cases x with
    | ref n => exact h2.elim
    | v d =>
      cases d with
      | int i =>
        cases y with
        | ref n => exact h2.elim
        | v d' =>
          cases d' with
          | int j =>
            cases rv; cases rw'
            dsimp only at h2
            unfold gd at h2
            split at h2
            · rename_i q
              exact ⟨i, j, rfl, ⟨q.1.1, q.1.2, q.2.1, q.2.2⟩, h2 μ2 F2 H2 (Ext.refl _ _) S2 _ yields_r⟩
            · exact h2.elim
          | _ => exact h2.elim
      | _ => cases y <;> exact h2.elim

/-! targets -/
theorem Agree.refl (vs : List Nat) (σ : St) : Agree vs σ σ := ⟨rfl, fun _ _ => rfl⟩
theorem Agree.trans {vs : List Nat} {σ σ1 σ2 : St} (a : Agree vs σ σ1) (b : Agree vs σ1 σ2) : Agree vs σ σ2 := ⟨b.1.trans a.1, fun j hj => (b.2 j hj).trans (a.2 j hj)⟩
theorem Agree.weak {vs ws : List Nat} {σ σ1 : St} (a : Agree vs σ σ1) (h : ∀ j ∈ vs, j ∈ ws) : Agree ws σ σ1 := ⟨a.1, fun j hj => a.2 j fun z => hj (h j z)⟩
theorem g_name {i : Nat} {x : Str} (hN : X.N.Nodup) (hi : X.N[i]? = some x) (hx : Loc X.env.scope x) (hf : X.fn x = true ∨ X.env.scope.names.lookup x = some .local := by first | exact .inl rfl | exact .inr rfl | assumption) : PG X (.Name x pos) (dG k [i] (tgName i)) :=
  ⟨fun pins s σ H v u Q I r ⟨G, μ, F, st, σd, a, S, R, ra, h⟩ => (pg_name hN hi hx hf).run pins s σ H v u Q I r (h μ F H (Ext.refl _ _) S _ (R.set i ra) ⟨by simp, fun j hj => by
    rw [List.getElem?_set_ne (fun z => hj (by rw [z]; simp))]⟩)⟩
theorem pg_weak {tg : Expr} {t t' : L2.TG} (h : PG X tg t) (w : ∀ v σ H Q, t' v σ H Q → t v σ H Q) : PG X tg t' := ⟨fun pins s σ H v u Q I r q => h.run pins s σ H v u Q I r (w _ _ _ _ q)⟩
theorem pgs_weak {tgs : List Expr} {t t' : L2.TGs} (h : PGs X tgs t) (w : ∀ v σ H Q, t' v σ H Q → t v σ H Q) : PGs X tgs t' := ⟨fun pins s σ H v u Q I r q => h.run pins s σ H v u Q I r (w _ _ _ _ q)⟩
theorem gs_nil : PGs X [] (dGs k [] []) := pgs_weak pgs_nil fun vs σ H Q ⟨G, μ, F, st, σd, ds, S, R, r, h⟩ => by
  cases r with
  | nil => exact ⟨rfl, h μ F H (Ext.refl _ _) S _ R (Agree.refl _ _)⟩
  | cons _ _ => exact h.elim
theorem gs_cons {t : TgF} {ts : List TgF} {is js : List Nat} (h1 : PG X e (dG k is t)) (h2 : PGs X es (dGs k js ts))
    (hs : (assignEach (e :: es) X.env).map (·.2) = assign e X.env :: (assignEach es X.env).map (·.2) := by rfl) : PGs X (e :: es) (dGs k (is ++ js) (t :: ts)) :=
  pgs_weak (pgs_cons h1 h2 hs) fun vs σ H Q ⟨G, μ, F, st, σd, ds, S, R, r, h⟩ => by
    cases r with
    | nil => exact h.elim
    | cons q r =>
      refine ⟨_, _, rfl, G, μ, F, st, σd, .v _, S, R, q, ?_⟩
      have h' : PostT k G μ F _ ((t (.v _) σd st).bind fun p => tgSeq ts _ p.1 p.2) := h
      cases q1 : t (.v _) σd st with
      | none => rw [q1] at h'; exact h'
      | some p =>
        rw [q1] at h'
        intro μ1 F1 H1 e1 S1 σ1 R1 a1
        refine ⟨G, μ1, F1, p.2, p.1, _, S1, R1, r.mono e1.2, ?_⟩
        have h3 : PostT k G μ1 F1 _ (tgSeq ts _ p.1 p.2) := PostT.ext e1 h'
        cases q2 : tgSeq ts _ p.1 p.2 with
        | none => rw [q2] at h3; exact h3
        | some p2 =>
          rw [q2] at h3
          exact fun μ2 F2 H2 e2 S2 σ2 R2 a2 => h3 μ2 F2 H2 e2 S2 σ2 R2 ((a1.weak (by simp +contextual)).trans (a2.weak (by simp +contextual)))
end
end Dn

set_option linter.all false
set_option Elab.async false
set_option maxRecDepth 100000
/-! Stm: statements, loops, comprehensions, defs. -/
namespace Dn
open PySem PySem.Spec PyProof.Rows L2

section
variable {X : Cx} {W : WX} {k : Kx} {a b c e o : Expr} {es : List Expr} {fa fb fc f fo fi : EF} {fs : List EF} {l : LF} {pos : Pos} {x : Str} {p : Pos} {ta tb : TF}
theorem Reps.len {K : KM} {H : Hp} {ds : List D} {vs : List V} (r : Reps K H ds vs) : ds.length = vs.length := r.length
theorem g_tup {ts : List TgF} {is : List Nat} {n kk : Nat} (hk : k.K = X.K) (hc : X.calm = true) (h : PGs X es (dGs k is ts)) (ht : ts.length = n := by rfl) (hn : (assignEach es X.env).length = n := by rfl) (hst : (assignEach es X.env).findIdx? (·.1) = none := by rfl) :
    PG X (.Tuple es kk pos) (dG k is (tgTup ts)) :=
  pg_weak (pg_tup hc h hn hst) fun v σ H Q ⟨G, μ, F, st, σd, a, S, R, ra, h⟩ => by
    cases a with
    | ref n => exact h.elim
    | v d =>
      cases d with
      | tup ds =>
        cases ra with
        | tup0 q1 =>
          cases ts with
          | nil => exact ⟨_, _, rfl, by rw [← hk]; exact Same.tup S.sub q1, by rw [← ht]; rfl, G, μ, F, st, σd, [], S, R, .nil, h⟩
          | cons _ _ => exact h.elim
        | tup q1 q2 =>
          have hl : ∀ (ts : List TgF) (ds : List D) (σ : Env) (st : Store), tgSeq ts ds σ st ≠ none → ts.length = ds.length := by
            intro ts
            induction ts with
            | nil => intro ds σ st hh; cases ds with
              | nil => rfl
              | cons _ _ => exact absurd rfl hh
            | cons t ts ih => intro ds σ st hh; cases ds with
              | nil => exact absurd rfl hh
              | cons d ds =>
                have hh' : ((t (.v d) σ st).bind fun p => tgSeq ts ds p.1 p.2) ≠ none := hh
                cases q : t (.v d) σ st with
                | none => rw [q] at hh'; exact absurd rfl hh'
                | some p => rw [q] at hh'; rw [List.length_cons, List.length_cons, ih ds p.1 p.2 hh']
          have hne : tgSeq ts ds σd st ≠ none := by
            intro z
            have h' : PostT k G μ F _ (tgSeq ts ds σd st) := h
            rw [z] at h'
            exact h'
          refine ⟨_, _, rfl, SqT.of (S.sub _ _ q1), ?_, G, μ, F, st, σd, ds, S, R, q2, h⟩
          rw [← q2.len, ← hl _ _ _ _ hne, ht]
      | _ => exact h.elim
theorem put_ok {K : KM} {G F H : Hp} {μ : List Addr} {st st' : Store} {n : Nat} {a b : A} {v : V} (S : Sim K G μ F st H) (r : ARep K μ F a v) (h : putA n st a = some (b, st')) :
    ∃ F', Sim K G μ F' st' H ∧ Ext μ F μ F' ∧ ARep K μ F' b v ∧ b.below n = true := by
  unfold putA at h
  split at h
  · rename_i q
    cases h
    exact ⟨F, S, Ext.refl _ _, r, q⟩
  · cases q : a.frz st with
    | none => rw [q] at h; cases h
    | some p =>
      rw [q] at h; cases h
      obtain ⟨F', S', x', r', _⟩ := frz_ok S r q
      exact ⟨F', S', x', r', rfl⟩
theorem all_set {n : Nat} {b : A} (hb : b.below n = true) : ∀ {xs : List A} (j : Nat), xs.all (A.below n) = true → (xs.set j b).all (A.below n) = true
  | [], _, h => h
  | y :: r, 0, h => by
    simp only [List.all_cons, Bool.and_eq_true, List.set] at h ⊢
    exact ⟨hb, h.2⟩
  | y :: r, j + 1, h => by
    simp only [List.all_cons, Bool.and_eq_true, List.set] at h ⊢
    exact ⟨h.1, all_set hb j h.2⟩
/-- what setL does -/
theorem setL_ok {K : KM} {G F H : Hp} {μ : List Addr} {st st' : Store} {n : Nat} {i : Int} {a : A} {v ov : V} {Q : Hp → Prop} (S : Sim K G μ F st H) (r : ARep K μ F a v) (ro : ARep K μ F (.ref n) ov) (h : setL n i a st = some st')
    (hQ : ∀ F' H', Ext μ F μ F' → Sim K G μ F' st' H' → Q H') : rSetL ov (.int i) v H Q := by
  unfold setL at h
  cases q : putA n st a with
  | none => rw [q] at h; cases h
  | some p =>
    obtain ⟨b, st1⟩ := p
    rw [q] at h
    obtain ⟨F1, S1, x1, r1, hb⟩ := put_ok S r q
    have h2 : (match st1[n]? with
      | some (.lst xs) => (ixOf xs.length i).map fun j => st1.set n (.lst (xs.set j b))
      | _ => none) = some st' := h
    split at h2
    · rename_i xs q2
      cases q3 : ixOf xs.length i with
      | none => rw [q3] at h2; cases h2
      | some j =>
        rw [q3] at h2; cases h2
        obtain ⟨y, hy, rfl⟩ := ro
        obtain ⟨_, ⟨vs, h5, h6⟩, h7⟩ := cell_of S1 hy q2
        refine ⟨y, vs, i, j, rfl, rfl, h5, by rw [← h6.len, ← ixOf_eq]; exact q3, hQ F1 _ x1 (S1.write hy q2 (AReps.set r1 j h6) (all_set hb j h7))⟩
    · cases h2
theorem g_sub {tg : Expr} (h : PG X tg (gSub (dE k (fun _ _ _ _ => False) fo) (dE k (fun _ _ _ _ => False) fi) rSetL)) : PG X tg (dG k [] (tgSub fo fi)) :=
  pg_weak h fun v σ H Q ⟨G, μ, F, st, σd, a, S, R, ra, h⟩ => by
    unfold tgSub at h
    cases q1 : fo σd st with
    | bad => rw [q1] at h; exact h.elim
    | err _ _ => rw [q1] at h; exact h.elim
    | ok y st1 =>
      rw [q1] at h
      cases y with
      | v d => exact h.elim
      | ref n =>
        refine ⟨G, μ, F, st, σd, S, R, by
          rw [q1]
          intro μ1 F1 H1 e1 S1 ov rov
          dsimp only at h
          cases q2 : fi σd st1 with
          | bad => rw [q2] at h; exact h.elim
          | err _ _ => rw [q2] at h; exact h.elim
          | ok z st2 =>
            rw [q2] at h
            cases z with
            | ref m => exact h.elim
            | v d =>
              cases d with
              | int kk =>
                refine ⟨G, μ1, F1, st1, σd, S1, R.ext e1, by
                  rw [q2]
                  intro μ2 F2 H2 e2 S2 iv riv
                  cases riv
                  have h' : PostT k G μ F _ ((setL n kk a st2).map fun st3 => (σd, st3)) := h
                  cases q3 : setL n kk a st2 with
                  | none => rw [q3] at h'; exact h'.elim
                  | some st3 =>
                    rw [q3] at h'
                    exact setL_ok S2 (ra.ext (e1.trans e2)) (rov.ext e2) q3 fun F' H' e' S' => h' μ2 F' H' ((e1.trans e2).trans e') S' σ (R.ext ((e1.trans e2).trans e')) (Agree.refl _ _)⟩
              | _ => exact h.elim⟩

/-! statements -/
theorem s_pass : PS X (.Pass pos) (dS k W sPass) := ps_weak ps_pass fun D σ H ⟨G, μ, F, st, σd, S, R, h⟩ => h μ F H σ (Ext.refl _ _) S R
theorem s_doc {x : Str} {j : Nat} {pos' : Pos} : PS X (.Expr (.Constant (.str x) j pos) pos') (dS k W sPass) := ps_weak ps_doc fun D σ H ⟨G, μ, F, st, σd, S, R, h⟩ => h μ F H σ (Ext.refl _ _) S R
theorem s_break : PS X (.Break pos) (dS k W sBreak) := ps_weak ps_break fun D σ H ⟨G, μ, F, st, σd, S, R, h⟩ => h μ F H σ (Ext.refl _ _) S R
theorem s_cont : PS X (.Continue pos) (dS k W sCont) := ps_weak ps_continue fun D σ H ⟨G, μ, F, st, σd, S, R, h⟩ => h μ F H σ (Ext.refl _ _) S R
theorem s_expr (he : PE X e (dE k W f)) (hs : swapsWith e none pos.line X.env = pure false := by rfl) : PS X (.Expr e pos) (dS k W (sExpr f)) :=
  ps_weak (ps_expr he hs) fun D σ H ⟨G, μ, F, st, σd, S, R, h⟩ => ⟨G, μ, F, st, σd, S, R, (PostS.st R h).mono fun y st1 μ1 F1 H1 e1 S1 h1 v rv => h1 μ1 F1 H1 σ (Ext.refl _ _) S1 (R.ext e1)⟩
theorem s_ret (he : PE X e (dE k W f)) : PS X (.Return (some e) pos) (dS k W (sRet f)) :=
  ps_weak (ps_ret he) fun D σ H ⟨G, μ, F, st, σd, S, R, h⟩ => ⟨G, μ, F, st, σd, S, R, (PostS.st R h).mono fun y st1 μ1 F1 H1 e1 S1 h1 v rv => h1 μ1 F1 H1 v (Ext.refl _ _) S1 rv⟩
theorem s_retN : PS X (.Return none pos) (dS k W sRetN) := ps_weak ps_retN fun D σ H ⟨G, μ, F, st, σd, S, R, h⟩ => h μ F H .non (Ext.refl _ _) S Rep.non
theorem s_if {ss us : List Stmt} {sa sb : SF} (ht : PT X c (dT k W ta)) (ha : PSs X ss (dS k W sa)) (hb : PSs X us (dS k W sb)) : PS X (.If c ss us pos) (dS k W (sIf ta sa sb)) :=
  ps_weak (ps_if ht ha hb) fun D σ H ⟨G, μ, F, st, σd, S, R, h⟩ => ⟨G, μ, F, st, σd, S, R, (PostS.st R h).mono fun cc st1 μ1 F1 H1 e1 S1 h1 => by
    cases cc with
    | true => exact ⟨G, μ1, F1, st1, σd, S1, R.ext e1, h1⟩
    | false => exact ⟨G, μ1, F1, st1, σd, S1, R.ext e1, h1⟩⟩
theorem set_run {i : Nat} {D : Ends} {σ : St} {H : Hp} (h : dS k W (sSet i f) D σ H) : tAsg (dE k W f) (gName i) D σ H := by
  obtain ⟨G, μ, F, st, σd, S, R, h⟩ := h
  exact ⟨G, μ, F, st, σd, S, R, (PostS.st R h).mono fun y st1 μ1 F1 H1 e1 S1 h1 v rv => h1 μ1 F1 H1 _ (Ext.refl _ _) S1 ((R.ext e1).set i rv)⟩
theorem s_set {i : Nat} {pos' : Pos} (hN : X.N.Nodup) (hi : X.N[i]? = some x) (hx : Loc X.env.scope x) (he : PE X e (dE k W f)) (hs : swapsWith e (some (.Name x pos')) pos.line X.env = pure false := by rfl) (hf : X.fn x = true ∨ X.env.scope.names.lookup x = some .local := by first | exact .inl rfl | exact .inr rfl | assumption) :
    PS X (.Assign [.Name x pos'] e pos) (dS k W (sSet i f)) := ps_weak (ps_set hN hi hx he hs hf) fun D σ H h => set_run h
theorem s_asg {tg : Expr} {is : List Nat} {t : TgF} (he : PE X e (dE k W f)) (hg : PG X tg (dG k is t)) (hs : swapsWithSole [tg] e pos.line X.env = pure false := by rfl) (hw : swappedStores [tg] e X.env = pure none := by rfl)
    (h1 : (assignEach [tg] X.env).map (·.2) = [assign tg X.env] := by rfl) : PS X (.Assign [tg] e pos) (dS k W (sAsg f t)) :=
  ps_weak (ps_asg he hg hs hw h1) fun D σ H ⟨G, μ, F, st, σd, S, R, h⟩ => ⟨G, μ, F, st, σd, S, R, (PostS.st R h).mono fun y st1 μ1 F1 H1 e1 S1 h1 v rv => by
    refine ⟨G, μ1, F1, st1, σd, y, S1, R.ext e1, rv, ?_⟩
    cases q : t y σd st1 with
    | none => rw [q] at h1; exact h1
    | some pr => rw [q] at h1; exact fun μ2 F2 H2 e2 S2 σ2 R2 _ => h1 μ2 F2 H2 σ2 e2 S2 R2⟩
theorem s_par {i j : Nat} {x y : Str} {px py pt : Pos} {kt k2 pt2} (hc : X.calm = true) (hN : X.N.Nodup) (hi : X.N[i]? = some x) (hj : X.N[j]? = some y) (hij : i ≠ j)
    (hx : X.env.scope.names.lookup x = some .local) (hy : X.env.scope.names.lookup y = some .local) (ha : PE X a (dE k W fa)) (hb : PE X b (dE k W fb))
    (hw : swappedStores [.Tuple [.Name x px, .Name y py] kt pt] (.Tuple [a, b] k2 pt2) X.env = pure (some [x, y]) := by rfl)
    (hs : swapsWithSole [.Tuple [.Name x px, .Name y py] kt pt] (.Tuple [a, b] k2 pt2) pos.line X.env = pure false := by rfl)
    (h1 : starEach (a :: [b]) X.env = (false, eval a X.env) :: starEach [b] X.env := by rfl) (h2 : starEach (b :: []) X.env = (false, eval b X.env) :: starEach [] X.env := by rfl) :
    PS X (.Assign [.Tuple [.Name x px, .Name y py] kt pt] (.Tuple [a, b] k2 pt2) pos) (dS k W (sPar i j fa fb)) :=
  ps_weak (ps_par hc hN hi hj hij hx hy (pa_cons ha (pa_cons hb pa_nil h2) h1) hw hs) fun D σ H ⟨G, μ, F, st, σd, S, R, h⟩ => ⟨G, μ, F, st, σd, S, R, (PostS.st R h).mono fun u st1 μ1 F1 H1 e1 S1 h1 v rv => by
    refine ⟨G, μ1, F1, st1, σd, S1, R.ext e1, (PostS.st (R.ext e1) h1).mono fun z st2 μ2 F2 H2 e2 S2 h2 w rw' => ?_⟩
    exact ⟨v, w, rfl, h2 μ2 F2 H2 _ (Ext.refl _ _) S2 (((R.ext e1).ext e2).set i (rv.ext e2) |>.set j rw')⟩⟩
def IpOk (K : KM) (t : TIp) (o : D → D → Option D) : Prop := ∀ x y d e z H Q, Rep K H d x → Rep K H e y → o d e = some z → ∃ v, (∀ F, Rep K F z v) ∧ (Q v H → t x y H Q)
theorem s_aug {i : Nat} {op : Operator} {ti : TIp} {oo : D → D → Option D} {pos' : Pos} (hN : X.N.Nodup) (hi : X.N[i]? = some x) (hx : Loc X.env.scope x) (he : PE X e (dE k W f)) (ho : PIp X op ti) (ok : IpOk k.K ti oo) (hf : X.fn x = true ∨ X.env.scope.names.lookup x = some .local := by first | exact .inl rfl | exact .inr rfl | assumption) :
    PS X (.AugAssign (.Name x pos') op e pos) (dS k W (sAug i oo f)) :=
  ps_weak (ps_aug hN hi hx he ho hf) fun D σ H ⟨G, μ, F, st, σd, S, R, h⟩ => by
    unfold sAug at h
    split at h
    · rename_i y q
      obtain ⟨v, h1, h2⟩ := R.at_ _ _ q
      refine ⟨v, h1, G, μ, F, st, σd, S, R, (PostS.st R h).mono fun u st1 μ1 F1 H1 e1 S1 h3 w rw' => ?_⟩
      cases q1 : y.view st1 with
      | none => rw [q1] at h3; exact h3.elim
      | some d =>
        rw [q1] at h3
        cases q2 : u.view st1 with
        | none => rw [q2] at h3; exact h3.elim
        | some d2 =>
          rw [q2] at h3
          dsimp only [Option.bind] at h3
          cases q3 : oo d d2 with
          | none => rw [q3] at h3; exact h3.elim
          | some z =>
            rw [q3] at h3
            obtain ⟨r, hr, hq⟩ := ok v w d d2 z H1 _ (view_rep S1 (h2.ext e1) q1) (view_rep S1 rw' q2) q3
            exact hq (h3 μ1 F1 H1 _ (Ext.refl _ _) S1 ((R.ext e1).set i (hr F1)))
    · exact h.elim
theorem ipk_add {K : KM} : IpOk K (ipI fun i j => i + j) oAdd := fun x y d e z H Q rx ry h => by
  cases d <;> cases e <;> first
    | (cases h; cases rx; cases ry; exact ⟨_, fun _ => .int, fun q => ⟨_, _, rfl, rfl, q⟩⟩)
    | cases h
theorem ipk_sub {K : KM} : IpOk K (ipI fun i j => i - j) oSub := fun x y d e z H Q rx ry h => by
  cases d <;> cases e <;> first
    | (cases h; cases rx; cases ry; exact ⟨_, fun _ => .int, fun q => ⟨_, _, rfl, rfl, q⟩⟩)
    | cases h
theorem ss_nil : PSs X [] (dS k W sNil) := pss_weak pss_nil fun D σ H ⟨G, μ, F, st, σd, S, R, h⟩ => h μ F H σ (Ext.refl _ _) S R
theorem ss_one {s : Stmt} {sa : SF} (h : PS X s (dS k W sa)) : PSs X [s] (dS k W sa) := pss_one h
theorem ss_cons {s : Stmt} {ss : List Stmt} {sa sb : SF} (h1 : PS X s (dS k W sa)) (h2 : PSs X ss (dS k W sb)) : PSs X (s :: ss) (dS k W (sSeq sa sb)) :=
  pss_weak (pss_cons h1 h2) fun D σ H ⟨G, μ, F, st, σd, S, R, h⟩ => by
    refine ⟨G, μ, F, st, σd, S, R, ?_⟩
    unfold sSeq at h
    cases q : sa σd st with
    | nx σ1 st1 =>
      rw [q] at h
      exact fun μ1 F1 H1 σ' e1 S1 R1 => ⟨G, μ1, F1, st1, σ1, S1, R1, PostS.ext e1 h⟩
    | rt a st1 => rw [q] at h; exact h
    | bk a st1 => rw [q] at h; exact h
    | ct a st1 => rw [q] at h; exact h
    | err _ _ _ => rw [q] at h; exact h
    | bad => rw [q] at h; exact h

theorem s_for {tg iter : Expr} {body : List Stmt} {it : IF} {is : List Nat} {t : TgF} {sb : SF} (hp : PassesOwn (model X.prog X.w) X.A X.env X.xe) (hc : X.calm = true) (hi : PI X tg iter (dI k W it)) (hg : PG X tg (dG k is t)) (hb : PSs X body (dS k W sb))
    (hs : ∀ x, foldedSetIterable iter X.env x = pure x := by intro _; rfl) : PS X (.For tg iter body [] pos) (dS k W (sFor it t sb)) :=
  ps_weak (ps_for hp hc hi hg hb hs) fun D σ H ⟨G, μ, F, st, σd, S, R, h⟩ => by
    refine ⟨G, μ, F, st, σd, S, R, (PostS.st R h).mono fun s st1 μ1 F1 H1 e1 S1 h1 J yi => ?_⟩
    refine ⟨fun i m σ H => m = s.xs.length - i ∧ i ≤ s.xs.length ∧ ∃ μ' F' st' σd', Ext μ1 F1 μ' F' ∧ Sim k.K G μ' F' st' H ∧ ERep k μ' F' σd' σ ∧ PostS k G μ' F' W D (forL t sb s.g (s.xs.drop i) σd' st'),
      ⟨s.xs.length, by simp, Nat.zero_le _, μ1, F1, st1, σd, Ext.refl _ _, S1, R.ext e1, h1⟩, ?_⟩
    rintro i m σ H ⟨rfl, hi, μ', F', st', σd', ex, S', R', hP⟩
    by_cases hlt : i < s.xs.length
    · rw [List.drop_eq_getElem_cons hlt] at hP
      unfold forL at hP
      split at hP
      · rename_i hgd
        obtain ⟨go, yl⟩ := (yi G i μ' F' st' H ex S' hgd).1 _ (List.getElem?_eq_getElem hlt)
        refine .inr ⟨go, fun σ2 H2 => ∃ μ2 F2 st2 σd2, Ext μ1 F1 μ2 F2 ∧ Sim k.K G μ2 F2 st2 H2 ∧ ERep k μ2 F2 σd2 σ2 ∧ PostS k G μ2 F2 W D (forL t sb s.g (s.xs.drop (i + 1)) σd2 st2), fun σ2 H2 q => ⟨s.xs.length - (i + 1), by omega, rfl, hlt, q⟩, fun v H' hy => ?_⟩
        obtain ⟨F2, x2, S2, r2⟩ := yl v H' hy
        refine ⟨G, μ', F2, st', σd', _, S2, R'.ext x2, r2, ?_⟩
        cases q : t s.xs[i] σd' st' with
        | none => rw [q] at hP; exact hP
        | some pr =>
          rw [q] at hP
          intro μ3 F3 H3 x3 S3 σ3 R3 _
          refine ⟨G, μ3, F3, pr.2, pr.1, S3, R3, ?_⟩
          have hP' := PostS.ext (x2.trans x3) hP
          dsimp only at hP'
          cases q2 : sb pr.1 pr.2 with
          | nx σ4 st4 => rw [q2] at hP'; exact fun μ5 F5 H5 σ5 x5 S5 R5 => ⟨μ5, F5, st4, σ4, ((ex.trans x2).trans x3).trans x5, S5, R5, PostS.ext x5 hP'⟩
          | ct σ4 st4 => rw [q2] at hP'; exact fun μ5 F5 H5 σ5 x5 S5 R5 => ⟨μ5, F5, st4, σ4, ((ex.trans x2).trans x3).trans x5, S5, R5, PostS.ext x5 hP'⟩
          | bk σ4 st4 => rw [q2] at hP'; exact hP'
          | rt a st4 => rw [q2] at hP'; exact hP'
          | err _ _ _ => rw [q2] at hP'; exact hP'
          | bad => rw [q2] at hP'; exact hP'
      · exact hP.elim
    · rw [List.drop_eq_nil_of_le (by omega)] at hP
      unfold forL at hP
      split at hP
      · rename_i hgd
        exact .inl ⟨(yi G i μ' F' st' H ex S' hgd).2 (by omega), hP μ' F' H σ (Ext.refl _ _) S' R'⟩
      · exact hP.elim
theorem s_while {body : List Stmt} {sb : SF} (hp : PassesOwn (model X.prog X.w) X.A X.env X.xe) (hc : PT X c (dT k W ta)) (hb : PSs X body (dS k W sb)) : PS X (.While c body [] pos) (dS k W (sWhile ta sb)) :=
  ps_weak (ps_while hp hc hb) fun D σ H ⟨G, μ, F, st, σd, S, R, h⟩ => by
    unfold sWhile at h
    split at h
    · rename_i hex
      refine ⟨fun m σ H => ∃ μ' F' st' σd', Sim k.K G μ' F' st' H ∧ ERep k μ' F' σd' σ ∧ PostS k G μ' F' W D (whileN ta sb m σd' st'), ⟨_, μ, F, st, σd, S, R, h⟩, ?_⟩
      rintro m σ H ⟨μ', F', st', σd', S', R', hP⟩
      cases m with
      | zero => exact hP.elim
      | succ m =>
        refine ⟨G, μ', F', st', σd', S', R', (PostS.st R' hP).mono fun cc st1 μ1 F1 H1 e1 S1 h1 => ?_⟩
        cases cc with
        | false => exact h1 μ1 F1 H1 σ (Ext.refl _ _) S1 (R'.ext e1)
        | true =>
          refine ⟨fun σ2 H2 => ∃ μ2 F2 st2 σd2, Sim k.K G μ2 F2 st2 H2 ∧ ERep k μ2 F2 σd2 σ2 ∧ PostS k G μ2 F2 W D (whileN ta sb m σd2 st2), fun σ2 H2 q => ⟨m, Nat.lt_succ_self _, q⟩, G, μ1, F1, st1, σd', S1, R'.ext e1, ?_⟩
          simp only [if_true] at h1
          cases q2 : sb σd' st1 with
          | nx σ4 st4 => rw [q2] at h1; exact fun μ5 F5 H5 σ5 x5 S5 R5 => ⟨μ5, F5, st4, σ4, S5, R5, PostS.ext x5 h1⟩
          | ct σ4 st4 => rw [q2] at h1; exact fun μ5 F5 H5 σ5 x5 S5 R5 => ⟨μ5, F5, st4, σ4, S5, R5, PostS.ext x5 h1⟩
          | bk σ4 st4 => rw [q2] at h1; exact h1
          | rt a st4 => rw [q2] at h1; exact h1
          | err _ _ _ => rw [q2] at h1; exact h1
          | bad => rw [q2] at h1; exact h1
    · exact h.elim

/-! comprehensions -/
theorem ERep.wipe {k : Kx} {μ : List Addr} {F : Hp} {σd : Env} {σ : St} (h : ERep k μ F σd σ) : ∀ vs : List Nat, ERep k μ F (wipeE σd vs) (wipe σ vs)
  | [] => h
  | v :: vs => by
    have ih := ERep.wipe h vs
    refine ⟨by show ((wipeE σd vs).set v none).length = ((L2.wipe σ vs).set v none).length; simp [ih.len], fun j b q => ?_, ih.j⟩
    have q' : ((wipeE σd vs).set v none)[j]? = some (some b) := q
    show ∃ u, ((L2.wipe σ vs).set v none)[j]? = some (some u) ∧ _
    by_cases hj : v = j
    · subst hj
      by_cases hl : v < (wipeE σd vs).length
      · rw [List.getElem?_set_self hl] at q'; cases q'
      · rw [List.getElem?_eq_none (by simp; omega)] at q'; cases q'
    · rw [List.getElem?_set_ne hj] at q'
      rw [List.getElem?_set_ne hj]
      exact ih.at_ j b q'
theorem wipe_agree {vs : List Nat} {σ σ' : St} (h : Agree vs (wipe σ vs) σ') : wipe σ' vs = wipe σ vs := by
  have wl : ∀ (σ : St) (vs : List Nat), (wipe σ vs).length = σ.length := wipe_length
  have wo : ∀ (σ : St) (vs : List Nat) (i : Nat), i ∉ vs → (wipe σ vs)[i]? = σ[i]? := fun σ vs i h => wipe_out h
  have wi : ∀ (σ : St) (vs : List Nat) (i : Nat), i ∈ vs → i < σ.length → (wipe σ vs)[i]? = some none := by
    intro σ vs
    induction vs with
    | nil => intro i hi; cases hi
    | cons v vs ih =>
      intro i hi hl
      show ((wipe σ vs).set v none)[i]? = some none
      by_cases hv : v = i
      · subst hv; rw [List.getElem?_set_self (by rw [wl]; exact hl)]
      · rw [List.getElem?_set_ne hv]
        exact ih i (by rcases List.mem_cons.mp hi with z | z; exact absurd z.symm hv; exact z) hl
  have hlen : σ'.length = σ.length := by rw [h.1, wl]
  apply List.ext_getElem?
  intro i
  by_cases hi : i ∈ vs
  · by_cases hl : i < σ.length
    · rw [wi _ _ _ hi (by rw [hlen]; exact hl), wi _ _ _ hi hl]
    · rw [List.getElem?_eq_none (by rw [wl]; omega), List.getElem?_eq_none (by rw [wl]; omega)]
  · rw [wo _ _ _ hi, h.2 i hi]
abbrev noW : WX := fun _ _ _ _ => False
/-- the reading of a comprehension -/
theorem comp_run {it : IF} {t : TgF} {ct : TF} {fe : EF} {vs is : List Nat} (his : ∀ j ∈ is, j ∈ vs) {σ : St} {H : Hp} {Q : VK} (h : dL k W (lComp it t ct fe vs) σ H Q) :
    tLc (dI k W it) (dG k is t) (dT k noW ct) (dE k noW fe) vs σ H Q := by
  obtain ⟨G, μ, F, st, σd, S, R, h⟩ := h
  refine ⟨G, μ, F, st, σd, S, R, (Post.bind h).mono fun s st1 μ1 F1 H1 e1 S1 h1 J yi D hD => ?_⟩
  have hG : G D = none := S1.freeG hD
  refine ⟨fun i m H => m = s.xs.length - i ∧ i ≤ s.xs.length ∧ ∃ μ' F' st' acc av, Ext μ1 F1 μ' F' ∧ Sim k.K (upd G D (.lst av)) μ' F' st' H ∧ AReps k.K μ' F' acc av ∧
      Post k G μ' F' (fun c d H' => W c d σ H') (fun xs _ μ' F' H' => ∀ p vs, H' p = some (.lst vs) → F' p = none → p ∉ μ' → G p = none → AReps k.K μ' F' xs vs → Q (.ref p) H') (compL t ct fe vs s.g σd (s.xs.drop i) acc st'),
    ⟨s.xs.length, by simp, Nat.zero_le _, μ1, F1, st1, [], [], Ext.refl _ _, (S1.heap hD).aside upd_same (S1.freeF hD) hG (S1.notin hD), .nil, h1⟩, ?_⟩
  rintro i m H ⟨rfl, hi, μ', F', st', acc, av, ex, S', ra, hP⟩
  obtain ⟨Sb, hHD, hFD, hμD⟩ := S'.back hG
  by_cases hlt : i < s.xs.length
  · rw [List.drop_eq_getElem_cons hlt] at hP
    unfold compL at hP
    split at hP
    · rename_i hgd
      obtain ⟨go, yl⟩ := (yi _ i μ' F' st' H ex S' hgd).1 _ (List.getElem?_eq_getElem hlt)
      refine .inr ⟨go, fun H2 => ∃ μ2 F2 st2 acc2 av2, Ext μ1 F1 μ2 F2 ∧ Sim k.K (upd G D (.lst av2)) μ2 F2 st2 H2 ∧ AReps k.K μ2 F2 acc2 av2 ∧
        Post k G μ2 F2 (fun c d H' => W c d σ H') (fun xs _ μ' F' H' => ∀ p vs, H' p = some (.lst vs) → F' p = none → p ∉ μ' → G p = none → AReps k.K μ' F' xs vs → Q (.ref p) H') (compL t ct fe vs s.g σd (s.xs.drop (i + 1)) acc2 st2),
        fun H2 q => ⟨s.xs.length - (i + 1), by omega, rfl, hlt, q⟩, fun v H' hy => ?_⟩
      obtain ⟨F2, x2, S2, r2⟩ := yl v H' hy
      refine ⟨_, μ', F2, st', wipeE σd vs, _, S2, ((R.ext (e1.trans ex)).ext x2).wipe vs, r2, ?_⟩
      cases q : t s.xs[i] (wipeE σd vs) st' with
      | none => rw [q] at hP; exact hP.elim
      | some pr =>
        rw [q] at hP
        intro μ3 F3 H3 x3 S3 σ3 R3 ag
        refine ⟨wipe_agree (ag.weak his), ?_⟩
        refine ⟨_, μ3, F3, pr.2, pr.1, S3, R3, ?_⟩
        dsimp only at hP
        cases q2 : ct pr.1 pr.2 with
        | bad => rw [q2] at hP; exact hP.elim
        | err _ _ => rw [q2] at hP; exact hP.elim
        | ok cc st4 =>
          rw [q2] at hP
          intro μ4 F4 H4 x4 S4
          cases cc with
          | false => exact ⟨μ4, F4, st4, acc, av, ((ex.trans x2).trans x3).trans x4, S4, AReps.ext ((x2.trans x3).trans x4) ra, Post.ext ((x2.trans x3).trans x4) hP⟩
          | true =>
            refine ⟨_, μ4, F4, st4, pr.1, S4, R3.ext x4, ?_⟩
            dsimp only at hP
            cases q3 : fe pr.1 st4 with
            | bad => rw [q3] at hP; exact hP.elim
            | err _ _ => rw [q3] at hP; exact hP.elim
            | ok z st5 =>
              rw [q3] at hP
              dsimp only at hP
              intro μ5 F5 H5 x5 S5 w rw'
              unfold gd at hP
              split at hP
              · rename_i hsz
                obtain ⟨S6, h6, hF6, hμ6⟩ := S5.back hG
                have exx := (((x2.trans x3).trans x4).trans x5)
                refine ⟨av, h6, ?_, μ5, F5, st5, acc ++ [z], av ++ [w], ex.trans exx, (S6.other hF6 hG hμ6).aside upd_same hF6 hG hμ6, AReps.snoc (AReps.ext exx ra) rw', Post.ext exx hP⟩
                rw [← ra.len, ← sizeMax_eq]
                exact hsz
              · exact hP.elim
    · exact hP.elim
  · rw [List.drop_eq_nil_of_le (by omega)] at hP
    unfold compL at hP
    split at hP
    · rename_i hgd
      exact .inl ⟨(yi _ i μ' F' st' H ex S' hgd).2 (by omega), hP μ' F' H (Ext.refl _ _) Sb D av hHD hFD hμD hG ra⟩
    · exact hP.elim
theorem l_comp {elt tg iter : Expr} {ifs : List Expr} {scope : Scope} {own : List (Str × Nat)} {it : IF} {is : List Nat} {t : TgF} {ct : TF} {fe : EF} (hc : X.calm = true) (hN : X.N.Nodup) (hi : PI X tg iter (dI k W it)) (ok : BlkOk X.N X.env.scope scope own)
    (hg : ∀ (s : Shared) (H : Hp) (C : Addr) (cl : List (Str × Addr)) (fp : List Addr), PG (X.blk s H scope (compEnvC scope cl C X.env) fp) tg (dG k is t)) (ht : ∀ (s : Shared) (H : Hp) (C : Addr) (cl : List (Str × Addr)) (fp : List Addr), PTs (X.blk s H scope (compEnvC scope cl C X.env) fp) ifs (dT k noW ct))
    (he : ∀ (s : Shared) (H : Hp) (C : Addr) (cl : List (Str × Addr)) (fp : List Addr), PE (X.blk s H scope (compEnvC scope cl C X.env) fp) elt (dE k noW fe)) (his : ∀ j ∈ is, j ∈ own.map (·.2) := by decide) (hs : ∀ x, foldedSetIterable iter X.env x = pure x := by intro _; rfl) :
    PE X (.ListComp elt [⟨tg, iter, ifs, 0⟩] scope pos) (dL k W (lComp it t ct fe (own.map (·.2)))) :=
  pe_weak (pe_lc hc hN hi ok hg ht he hs) fun σ H Q h => comp_run his h
theorem ts_nil : PTs X [] (dT k W tYes) := ⟨fun pins s σ H Q I ⟨G, μ, F, st, σd, S, R, h⟩ => pts_nil.run pins s σ H Q I (h μ F H (Ext.refl _ _) S)⟩
theorem ts_one (h : PT X c (dT k W ta)) : PTs X [c] (dT k W ta) := pts_one h
/-- y = [..] -/
theorem s_setLc {elt tg iter : Expr} {ifs : List Expr} {scope : Scope} {own : List (Str × Nat)} {it : IF} {is : List Nat} {t : TgF} {ct : TF} {fe : EF} {i : Nat} {y : Str} {py spos : Pos} (live : Bool) (hc : X.calm = true) (hN : X.N.Nodup) (hy : X.N[i]? = some y) (hyl : X.env.scope.names.lookup y = some .local)
    (hsw : swapsWith (.ListComp elt [⟨tg, iter, ifs, 0⟩] scope pos) (some (.Name y py)) spos.line X.env = pure true) (hi : PI X tg iter (dI k W it)) (ok : BlkOk X.N X.env.scope scope own)
    (hg : ∀ (s : Shared) (H : Hp) (C : Addr) (cl : List (Str × Addr)) (fp : List Addr), PG (X.blk s H scope (compEnvC scope cl C X.env) fp) tg (dG k is t)) (ht : ∀ (s : Shared) (H : Hp) (C : Addr) (cl : List (Str × Addr)) (fp : List Addr), PTs (X.blk s H scope (compEnvC scope cl C X.env) fp) ifs (dT k noW ct))
    (he : ∀ (s : Shared) (H : Hp) (C : Addr) (cl : List (Str × Addr)) (fp : List Addr), PE (X.blk s H scope (compEnvC scope cl C X.env) fp) elt (dE k noW fe)) (his : ∀ j ∈ is, j ∈ own.map (·.2) := by decide) (hs : ∀ x, foldedSetIterable iter X.env x = pure x := by intro _; rfl) :
    PS X (.Assign [.Name y py] (.ListComp elt [⟨tg, iter, ifs, 0⟩] scope pos) spos) (dS k W (sSet i (if live = true then fLive (lComp it t ct fe (own.map (·.2))) else fFrz (lComp it t ct fe (own.map (·.2)))))) :=
  ps_weak (ps_setLc hc hN hy hyl hsw hi ok hg ht he hs) fun D σ H h => by
    refine comp_run his ?_
    obtain ⟨G, μ, F, st, σd, S, R, h⟩ := h
    refine ⟨G, μ, F, st, σd, S, R, ?_⟩
    cases live with
    | true =>
      have h1 := PostS.st R h
      rw [if_pos rfl] at h1
      refine (Post.bind (show Post k G μ F _ _ ((lComp it t ct fe (own.map (·.2)) σd st).bind fun xs st1 => if xs.all (A.below st1.length) = true then .ok (A.ref st1.length) (st1 ++ [.lst xs]) else .bad) from h1)).mono fun as st1 μ1 F1 H1 e1 S1 h1 p vs hp hF hμ hG rv => ?_
      split at h1
      · rename_i q
        obtain ⟨S2, x2⟩ := S1.push hp hF hG hμ rv q
        exact h1 _ _ _ x2 S2 _ _ _ _ (Ext.refl _ _) S2 (((R.ext e1).ext x2).set i ⟨p, by rw [← S1.len]; simp, rfl⟩)
      · exact h1.elim
    | false =>
      have h1 := PostS.st R h
      rw [if_neg (by decide)] at h1
      refine (Post.bind (show Post k G μ F _ _ ((lComp it t ct fe (own.map (·.2)) σd st).bind fun xs st1 => match frzL st1 xs with
        | some (ds, st2) => .ok (A.v (.lst ds)) st2
        | none => .bad) from h1)).mono fun as st1 μ1 F1 H1 e1 S1 h1 p vs hp hF hμ hG rv => ?_
      split at h1
      · rename_i ds st2 q
        obtain ⟨F2, S2, x2, r2, n2⟩ := frzL_ok S1 rv q
        obtain ⟨S3, x3⟩ := S2.keep hp (n2 p hμ hF) hG hμ
        have x4 := x2.trans x3
        exact h1 μ1 _ _ x4 S3 _ _ _ _ (Ext.refl _ _) S3 (((R.ext e1).ext x4).set i (Rep.lst upd_same (r2.mono x3.2)))
      · exact h1.elim
/-- o.append(e) -/
theorem e_append (h : PE X e (tBM X.K "list" rAppend (dE k W fo) (tCons (dE k W f) tNil))) : PE X e (dE k W (fAppend fo f)) :=
  pe_weak h fun σ H Q ⟨G, μ, F, st, σd, S, R, h⟩ => by
    refine ⟨G, μ, F, st, σd, S, R, (Post.bind h).mono fun y st1 μ1 F1 H1 e1 S1 h1 v rv => ?_⟩
    cases y with
    | v d => exact h1.elim
    | ref n =>
      obtain ⟨ad, hy, rfl⟩ := rv
      dsimp only at h1
      split at h1
      case isFalse => exact h1.elim
      rename_i hil
      refine ⟨?_, G, μ1, F1, st1, σd, S1, R.ext e1, (Post.bind h1).mono fun z st2 μ2 F2 H2 e2 S2 h2 w rw' => ?_⟩
      · have hn : n < st1.length := by rw [← S1.len]; exact (List.getElem?_eq_some_iff.mp hy).1
        have hc := S1.cell n _ st1[n] hy (List.getElem?_eq_getElem hn)
        rw [List.getElem?_eq_getElem hn] at hil
        cases q : st1[n] with
        | obj c ks xs => rw [q] at hil; cases hil
        | fro c ks xs => rw [q] at hil; cases hil
        | lst xs =>
          rw [q] at hc
          obtain ⟨_, ⟨vs, h5, _⟩, _⟩ := hc
          exact .inl ⟨rfl, _, SqL.of h5⟩
        | frz ds =>
          rw [q] at hc
          obtain ⟨vs, h5, _⟩ := hc
          exact .inl ⟨rfl, _, SqL.of (S1.sub _ _ h5)⟩
      · split at h2
        · rename_i b st3 q
          obtain ⟨F3, S3, x3, r3, hb⟩ := put_ok S2 rw' q
          split at h2
          · rename_i xs q2
            unfold gd at h2
            split at h2
            · rename_i hsz
              have hy2 := e2.at hy
              obtain ⟨_, ⟨vs, h5, h6⟩, h7⟩ := cell_of S3 hy2 q2
              refine ⟨ad, vs, w, rfl, rfl, h5, by rw [← h6.len, ← sizeMax_eq]; exact hsz, ?_⟩
              refine h2 μ2 F3 _ x3 (S3.write hy2 q2 (AReps.snoc h6 r3) ?_) _ Rep.non
              rw [List.all_append, h7]
              simp [hb]
            · exact h2.elim
          · exact h2.elim
        · exact h2.elim

/-! defs -/
/-- the promise of a def by its function -/
def spV (k : Kx) (n : Nat) (g : List A → Store → RE A) : Sp := fun vs H Q E => vs.length = n ∧ ∃ G μ F st as, Sim k.K G μ F st H ∧ AReps k.K μ F as vs ∧
  Post k G μ F E (fun a _ μ' F' H' => ∀ v, ARep k.K μ' F' a v → Q v H') (g as st)
/-- of a def that hands back a new list -/
def spL (k : Kx) (n : Nat) (g : List A → Store → RE (List A)) : Sp := fun vs H Q E => vs.length = n ∧ ∃ G μ F st as, Sim k.K G μ F st H ∧ AReps k.K μ F as vs ∧
  Post k G μ F E (fun xs _ μ' F' H' => ∀ p vs, H' p = some (.lst vs) → F' p = none → p ∉ μ' → G p = none → AReps k.K μ' F' xs vs → Q (.ref p) H') (g as st)
theorem e_call {lv : Nat} {ad : Addr} {fd : FuncData} {ps : List Str} {n : Nat} {g : List A → Store → RE A} (Fn : FnOk X.prog X.w X.K X.mg X.base (L2.CX X.prog X.w) lv ad fd ps (spV k n g)) (hr : Room lv X.A) (tk : Takes X W) (hg : Gl X x) (hm : X.mg x = some (.ref ad)) (hk : PySem.W.keepIn X.K (.ref ad) = true) (hb : Binds X.K fd ps [])
    (ha : PA X (e :: es) (dA k W (fArgs fs))) (hl : fs.length = n := by rfl) (hdb : (x == ("__debug__" : Str)) = false := by decide) (he : starEach (e :: es) X.env = (false, eval e X.env) :: starEach es X.env := by rfl) (hpl : (backTo pos (starEach es X.env)).any (·.1) = false := by rfl) :
    PE X (.Call (.Name x p) (e :: es) [] pos) (dE k W (fCall g fs)) :=
  pe_weak (pe_callS Fn hr hg hm hk hb (E := WE W) (fun σ => passAt tk σ) ha hdb he hpl) fun σ H Q ⟨G, μ, F, st, σd, S, R, h⟩ => by
    refine ⟨G, μ, F, st, σd, S, R, (Post.bindE h).mono fun xs st1 μ1 F1 H1 e1 S1 ⟨hq, h1⟩ vs rv => ?_⟩
    exact ⟨by rw [← rv.len, fArgs_len _ _ _ _ _ hq, hl], G, μ1, F1, st1, xs, S1, rv, h1⟩
theorem l_call {lv : Nat} {ad : Addr} {fd : FuncData} {ps : List Str} {n : Nat} {g : List A → Store → RE (List A)} (Fn : FnOk X.prog X.w X.K X.mg X.base (L2.CX X.prog X.w) lv ad fd ps (spL k n g)) (hr : Room lv X.A) (tk : Takes X W) (hg : Gl X x) (hm : X.mg x = some (.ref ad)) (hk : PySem.W.keepIn X.K (.ref ad) = true) (hb : Binds X.K fd ps [])
    (ha : PA X (e :: es) (dA k W (fArgs fs))) (hl : fs.length = n := by rfl) (hdb : (x == ("__debug__" : Str)) = false := by decide) (he : starEach (e :: es) X.env = (false, eval e X.env) :: starEach es X.env := by rfl) (hpl : (backTo pos (starEach es X.env)).any (·.1) = false := by rfl) :
    PE X (.Call (.Name x p) (e :: es) [] pos) (dL k W (lCall g fs)) :=
  pe_weak (pe_callS Fn hr hg hm hk hb (E := WE W) (fun σ => passAt tk σ) ha hdb he hpl) fun σ H Q ⟨G, μ, F, st, σd, S, R, h⟩ => by
    refine ⟨G, μ, F, st, σd, S, R, (Post.bindE h).mono fun xs st1 μ1 F1 H1 e1 S1 ⟨hq, h1⟩ vs rv => ?_⟩
    exact ⟨by rw [← rv.len, fArgs_len _ _ _ _ _ hq, hl], G, μ1, F1, st1, xs, S1, rv, h1⟩
end
section
variable {P : Program} {w : World} {K : PySem.W.Frag} {mg : Str → Option Value} {cs : List Nat} {base : Heap}
/-- the context of a def's body -/
abbrev bodyX (P : Program) (w : World) (K : PySem.W.Frag) (mg : Str → Option Value) (base : Heap) (N : List Str) (qual : Str) (st : Stmt) (f : Addr) (cdv : Value) (A : Around) (outer : List PySem.Env) (s : Shared) (H : Hp) (E : XK) : Cx :=
  cxOf (L2.CX P w) P w K mg base N qual (defScope st) f cdv A outer s H E
theorem fnV_ok {x qual : Str} {st : Stmt} {f : Addr} {fd : FuncData} {N ps : List Str} {lv n m : Nat} {sb : SF} (Fn : Fun K x qual st f fd) (Sc : FnScope N ps (defScope st)) (hn : ps.length = n) (hm : N.length = m)
    (hb : ∀ (cdv : Value) (A : Around) (outer : List PySem.Env) (s : Shared) (H : Hp) (E : XK), Room lv (A.deeper (envOfC qual (defScope st) s.heap.objs.size f cdv)) →
      PSs (bodyX P w K mg base N qual st f cdv A outer s H E) (defBody st) (dS (kx K mg cs) (fun cls d _ H => E cls d H) sb)) :
    FnOk P w K mg base (L2.CX P w) (lv + 1) f fd ps (spV (kx K mg cs) n (fnV m sb)) := by
  subst hm
  refine Fn.okX Sc (fun vs H Q E h => by rw [h.1, hn]) fun cdv A outer s H vs Q E hr h => ⟨_, hb cdv A outer s H E hr, ?_⟩
  obtain ⟨hl, G, μ, F, st, as, S, r, h⟩ := h
  refine ⟨G, μ, F, st, _, S, ERep.start (k := kx K mg cs) (n := N.length) r trivial, ?_⟩
  unfold fnV at h
  split at h
  · rename_i σd' st' q
    rw [q]
    intro μ1 F1 H1 σ1 e1 S1 R1
    have S2 := S1.take μ.length
    rw [take_ext e1, S.len] at S2
    exact h μ F1 H1 ⟨⟨[], by simp⟩, e1.2⟩ S2 _ Rep.non
  · rename_i a st' q
    rw [q]
    intro μ1 F1 H1 v e1 S1 rv
    unfold retA at h
    split at h
    · rename_i hb
      have S2 := S1.take μ.length
      have r2 := rv.low (n := μ.length) (by rw [S.len]; exact hb)
      rw [take_ext e1] at S2 r2
      rw [S.len] at S2
      exact h μ F1 H1 ⟨⟨[], by simp⟩, e1.2⟩ S2 _ r2
    · split at h
      · rename_i d st2 q2
        obtain ⟨F2, S2, x2, r2, _⟩ := frz_ok S1 rv q2
        have S3 := S2.take μ.length
        rw [take_ext e1, S.len] at S3
        exact h μ F2 H1 ⟨⟨[], by simp⟩, (e1.trans x2).2⟩ S3 _ r2
      · exact h.elim
  · rename_i xx σd' st' q
    rw [q]
    intro μ1 F1 H1 σ1 cls d e1 S1 R1 X1
    have S2 := S1.take μ.length
    rw [take_ext e1, S.len] at S2
    exact h μ F1 H1 cls d ⟨⟨[], by simp⟩, e1.2⟩ S2 X1
  · exact h.elim
theorem fnL_ok {x qual : Str} {st : Stmt} {f : Addr} {fd : FuncData} {N ps : List Str} {lv n m : Nat} {sb : SF} (Fn : Fun K x qual st f fd) (Sc : FnScope N ps (defScope st)) (hn : ps.length = n) (hm : N.length = m)
    (hb : ∀ (cdv : Value) (A : Around) (outer : List PySem.Env) (s : Shared) (H : Hp) (E : XK), Room lv (A.deeper (envOfC qual (defScope st) s.heap.objs.size f cdv)) →
      PSs (bodyX P w K mg base N qual st f cdv A outer s H E) (defBody st) (dS (kx K mg cs) (fun cls d _ H => E cls d H) sb)) :
    FnOk P w K mg base (L2.CX P w) (lv + 1) f fd ps (spL (kx K mg cs) n (fnL m sb)) := by
  subst hm
  refine Fn.okX Sc (fun vs H Q E h => by rw [h.1, hn]) fun cdv A outer s H vs Q E hr h => ⟨_, hb cdv A outer s H E hr, ?_⟩
  obtain ⟨hl, G, μ, F, st, as, S, r, h⟩ := h
  refine ⟨G, μ, F, st, _, S, ERep.start (k := kx K mg cs) (n := N.length) r trivial, ?_⟩
  unfold fnL at h
  split at h
  · rename_i nn st' q
    rw [q]
    unfold gd at h
    split at h
    · rename_i hle
      split at h
      · rename_i xs q2
        split at h
        · rename_i hall
          intro μ1 F1 H1 v e1 S1 rv
          obtain ⟨ad, hy, rfl⟩ := rv
          obtain ⟨hF, ⟨vs, hH, hr⟩, _⟩ := cell_of S1 hy q2
          have S2 := S1.take μ.length
          have r2 := hr.low (n := μ.length) (by rw [S.len]; exact hall)
          rw [take_ext e1] at S2 r2
          rw [S.len] at S2
          refine h μ F1 H1 ⟨⟨[], by simp⟩, e1.2⟩ S2 ad vs hH hF (fun hm => ?_) (S1.gμ ad (List.mem_of_getElem? hy)) r2
          obtain ⟨j, hj⟩ := List.getElem?_of_mem hm
          have hjl := (List.getElem?_eq_some_iff.mp hj).1
          have := nodup_at S1.nd (e1.at hj) hy
          rw [S.len] at hjl
          omega
        · exact h.elim
      · exact h.elim
    · exact h.elim
  · rename_i xx σd' st' q
    rw [q]
    intro μ1 F1 H1 σ1 cls d e1 S1 R1 X1
    have S2 := S1.take μ.length
    rw [take_ext e1, S.len] at S2
    exact h μ F1 H1 cls d ⟨⟨[], by simp⟩, e1.2⟩ S2 X1
  · exact h.elim
end
end Dn

set_option linter.all false
set_option Elab.async false
set_option maxRecDepth 100000
/-! Ops: more operations. -/
namespace Dn
open PySem PySem.Spec PyProof.Rows L2

section
variable {X : Cx} {W : WX} {k : Kx} {a b c e : Expr} {es : List Expr} {fa fb fc f : EF} {fs : List EF} {l : LF} {pos : Pos} {x : Str} {p : Pos} {ta tb : TF}
theorem OpR.or {f : Value → Value → Sem Value} {r r' : R2} (h : OpR X f r) (h' : OpR X f r') : OpR X f fun x y H Q => r x y H Q ∨ r' x y H Q :=
  fun pins s σ H x y v u Q I rx ry q => q.elim (h pins s σ H x y v u Q I rx ry) (h' pins s σ H x y v u Q I rx ry)
/-- an operation that may make something -/
def Op2 (K : KM) (r : R2) (o : D → D → Option D) : Prop := ∀ (G : Hp) (μ : List Addr) (F : Hp) (st : Store) (H : Hp) (x y : A) (v w : V) (d e z : D) (Q : VK), Sim K G μ F st H → ARep K μ F x v → ARep K μ F y w →
  x.view st = some d → y.view st = some e → o d e = some z → (∀ F' H' u, Ext μ F μ F' → Sim K G μ F' st H' → Rep K F' z u → Q u H') → r v w H Q
theorem Op2.of {K : KM} {r : R2} {o : D → D → Option D} (h : OpOk K r o) : Op2 K r o := fun G μ F st H x y v w d e z Q S rx ry h1 h2 h3 hQ => by
  obtain ⟨u, hu, hq⟩ := h v w d e z H Q (view_rep S rx h1) (view_rep S ry h2) h3
  exact hq (hQ F H u (Ext.refl _ _) S (hu F))
theorem op2_run {r : R2} {o : D → D → Option D} (ok : Op2 k.K r o) (G : Hp) (μ : List Addr) (F : Hp) (st : Store) (H : Hp) (x y : A) (v w : V) (Q : VK) (E : XK) (S : Sim k.K G μ F st H) (rx : ARep k.K μ F x v) (ry : ARep k.K μ F y w)
    (h : Post k G μ F E (fun a _ μ' F' H' => ∀ v, ARep k.K μ' F' a v → Q v H') (RE.of ((x.view st).bind fun d => (y.view st).bind fun e => (o d e).map .v) st)) : r v w H Q := by
  obtain ⟨a, ha, h⟩ := h.of
  cases q1 : x.view st with
  | none => rw [q1] at ha; cases ha
  | some d =>
    rw [q1] at ha
    cases q2 : y.view st with
    | none => rw [q2] at ha; cases ha
    | some e =>
      rw [q2] at ha
      have ha' : (o d e).map A.v = some a := ha
      cases q3 : o d e with
      | none => rw [q3] at ha'; cases ha'
      | some z =>
        rw [q3] at ha'; cases ha'
        exact ok G μ F st H x y v w d e z Q S rx ry q1 q2 q3 fun F' H' u e' S' r' => h μ F' H' e' S' u r'
theorem e_op2 {op : Operator} {r : R2} {o : D → D → Option D} (ho : OpR X (binaryOp op) r) (ok : Op2 k.K r o) (ha : PE X a (dE k W fa)) (hb : PE X b (dE k W fb)) : PE X (.BinOp a op b pos) (dE k W (fOp o fa fb)) :=
  pe_weak (pe_op ho ha hb) (bin_run (op2_run ok))
theorem view_seq {K : KM} {G F H : Hp} {μ : List Addr} {st : Store} (S : Sim K G μ F st H) {a : A} {v : V} {ds : List D} (r : ARep K μ F a v) (h : a.view st = some (.lst ds)) : ∃ p vs, v = .ref p ∧ H p = some (.lst vs) ∧ Reps K F ds vs := by
  cases a with
  | v e => cases h; cases r with
    | lst h1 h2 => exact ⟨_, _, rfl, S.sub _ _ h1, h2⟩
  | ref n =>
    obtain ⟨x, h1, rfl⟩ := r
    unfold A.view at h
    dsimp only at h
    split at h
    · rename_i xs q
      obtain ⟨_, ⟨vs, h2, h3⟩, _⟩ := cell_of S h1 q
      cases e : vals xs with
      | none => rw [e] at h; cases h
      | some ds => rw [e] at h; cases h; exact ⟨_, _, rfl, h2, h3.vals e⟩
    · rename_i ds q
      cases h
      obtain ⟨vs, h2, h3⟩ := cell_of S h1 q
      exact ⟨_, _, rfl, S.sub _ _ h2, h3⟩
    · rename_i c ks xs q
      cases e : vals xs <;> (rw [e] at h; cases h)
    · cases h
    · cases h
theorem view_tup {K : KM} {G F H : Hp} {μ : List Addr} {st : Store} (S : Sim K G μ F st H) {a : A} {v : V} {ds : List D} (r : ARep K μ F a v) (h : a.view st = some (.tup ds)) : ∃ p vs, v = .ref p ∧ SqT K H p vs ∧ Reps K F ds vs ∧ Rep K F (.tup ds) v := by
  cases a with
  | v e =>
    cases h
    have r' : Rep K F (.tup ds) v := r
    cases r with
    | tup h1 h2 => exact ⟨_, _, rfl, SqT.of (S.sub _ _ h1), h2, r'⟩
    | tup0 h1 => exact ⟨_, _, rfl, Same.tup S.sub h1, .nil, r'⟩
  | ref n =>
    unfold A.view at h
    dsimp only at h
    split at h
    · rename_i xs q
      cases e : vals xs with
      | none => rw [e] at h; cases h
      | some ds => rw [e] at h; cases h
    · cases h
    · rename_i c ks xs q
      cases e : vals xs <;> (rw [e] at h; cases h)
    · cases h
    · cases h
theorem Reps.append {K : KM} {H : Hp} : ∀ {ds es : List D} {vs ws : List V}, Reps K H ds vs → Reps K H es ws → Reps K H (ds ++ es) (vs ++ ws)
  | _, _, _, _, .nil, r => r
  | _, _, _, _, .cons h t, r => .cons h (Reps.append t r)

/-! + -/
/-- t + u of tuples, t empty: u itself -/
def rCat0 (K : PySem.W.Frag) : R2 := fun x y H Q => ∃ a b ys, x = .ref a ∧ y = .ref b ∧ SqT K H a [] ∧ SqT K H b ys ∧ Q (.ref b) H
theorem op_cat0 : OpR X (binaryOp .Add) (rCat0 X.K) := by
  rintro pins s σ H _ _ v u Q I rx ry ⟨a, b, ys, rfl, rfl, ha, hb, q⟩
  cases rx
  cases ry
  obtain ⟨is1, v1, p1, _⟩ := I.tuple ha
  obtain ⟨is2, v2, p2, _⟩ := I.tuple hb
  cases v1
  obtain ⟨o1, g1, c1, n1, d1⟩ := p1
  obtain ⟨o2, g2, c2, n2, d2⟩ := p2
  obtain ⟨_, dd1, _, sl1⟩ := o1
  obtain ⟨_, dd2, _, sl2⟩ := o2
  simp only at c1 d1 c2 d2
  subst c1 d1 c2 d2
  have m := tuple_addW0 a b [].toArray is2.toArray n1 n2 dd1 dd2 sl1 sl2 rfl
  exact concat_meets ⟨_, g1, rfl⟩ ⟨_, g2, rfl⟩ noFill_tuple_add seq_tuple_add PySem.F.slot_tuple_add PySem.F.entry_tuple_add (PySem.F.args_tuple_add_2 _ _) m
    ⟨g1, g2, .ref b, H, I, rfl, q⟩
def rAddU (K : PySem.W.Frag) : R2 := fun x y H Q => rI0 (fun i j => .int (i + j)) x y H Q ∨ rCat0 K x y H Q ∨ rCatT K x y H Q ∨ rCat x y H Q
theorem op_addU : OpR X (binaryOp .Add) (rAddU X.K) := OpR.or op_add (OpR.or op_cat0 (OpR.or op_catT op_cat))
theorem k2_addU {K : KM} : Op2 K (rAddU K) oAddU := by
  intro G μ F st H x y v w d e z Q S rx ry h1 h2 h3 hQ
  have hs := sizeMax_eq
  cases d with
  | int i =>
    cases e <;> first
      | (cases h3; exact .inl (by
          cases view_rep S rx h1; cases view_rep S ry h2
          exact ⟨_, _, rfl, rfl, hQ F H _ (Ext.refl _ _) S .int⟩))
      | cases h3
  | tup xs =>
    cases e with
    | tup ys =>
      have h3' : gd (xs.length + ys.length ≤ sizeMax) (some (D.tup (xs ++ ys))) none = some z := h3
      unfold gd at h3'
      split at h3'
      · rename_i hl
        cases h3'
        obtain ⟨p, vs, rfl, sq1, r1, rr1⟩ := view_tup S rx h1
        obtain ⟨q, ws, rfl, sq2, r2, rr2⟩ := view_tup S ry h2
        have l1 := r1.length
        have l2 := r2.length
        cases vs with
        | nil =>
          cases r1
          exact .inr (.inl ⟨p, q, ws, rfl, rfl, sq1, sq2, hQ F H _ (Ext.refl _ _) S rr2⟩)
        | cons v0 vr =>
          refine .inr (.inr (.inl ⟨p, q, _, _, rfl, rfl, sq1, sq2, by simp, by omega, fun e => ?_, fun _ a ha => ?_⟩))
          · subst e
            cases r2
            rw [List.append_nil] at hQ
            exact hQ F H _ (Ext.refl _ _) S rr1
          · obtain ⟨S3, x3⟩ := S.new (o := .tup (v0 :: vr ++ ws)) ha
            exact hQ _ _ _ x3 S3 (.tup upd_same ((r1.append r2).mono x3.2))
      · cases h3'
    | _ => cases h3
  | lst xs =>
    cases e with
    | lst ys =>
      have h3' : gd (xs.length + ys.length ≤ sizeMax) (some (D.lst (xs ++ ys))) none = some z := h3
      unfold gd at h3'
      split at h3'
      · rename_i hl
        cases h3'
        obtain ⟨p, vs, rfl, sq1, r1⟩ := view_seq S rx h1
        obtain ⟨q, ws, rfl, sq2, r2⟩ := view_seq S ry h2
        have l1 := r1.length
        have l2 := r2.length
        refine .inr (.inr (.inr ⟨p, q, vs, ws, rfl, rfl, sq1, sq2, by omega, fun a ha => ?_⟩))
        obtain ⟨S3, x3⟩ := S.new (o := .lst (vs ++ ws)) ha
        exact hQ _ _ _ x3 S3 (.lst upd_same ((r1.append r2).mono x3.2))
      · cases h3'
    | _ => cases h3
  | _ => cases h3
theorem Reps.rep {K : KM} {H : Hp} {ds : List D} {vs : List V} (r : Reps K H ds vs) : ∀ n, Reps K H (repD n ds) (List.replicate n vs).flatten
  | 0 => .nil
  | n + 1 => by
    have ih := Reps.rep r n
    show Reps K H (List.replicate (n + 1) ds).flatten _
    rw [List.replicate_succ, List.replicate_succ, List.flatten_cons, List.flatten_cons]
    exact r.append ih
def rMulU : R2 := fun x y H Q => rI mulOk (fun i j => .int (i * j)) x y H Q ∨ rRep x y H Q
theorem op_mulU : OpR X (binaryOp .Mult) rMulU := OpR.or op_mulB op_rep
theorem k2_mulU {K : KM} : Op2 K rMulU oMulU := by
  intro G μ F st H x y v w d e z Q S rx ry h1 h2 h3 hQ
  have hs := sizeMax_eq
  cases d with
  | int i =>
    cases e with
    | int j =>
      have h3' : gd (mulOk i j) (some (D.int (i * j))) none = some z := h3
      unfold gd at h3'
      split at h3'
      · rename_i q
        cases h3'
        cases view_rep S rx h1; cases view_rep S ry h2
        exact .inl ⟨i, j, rfl, rfl, q, hQ F H _ (Ext.refl _ _) S .int⟩
      · cases h3'
    | _ => cases h3
  | lst xs =>
    cases e with
    | int kk =>
      have h3' : gd (-(2 ^ 63) ≤ kk ∧ kk < 2 ^ 63 ∧ xs.length * kk.toNat ≤ sizeMax) (some (D.lst (repD kk.toNat xs))) none = some z := h3
      unfold gd at h3'
      split at h3'
      · rename_i q
        cases h3'
        obtain ⟨p, vs, rfl, sq1, r1⟩ := view_seq S rx h1
        cases view_rep S ry h2
        have l1 := r1.length
        refine .inr ⟨p, kk, vs, rfl, rfl, sq1, q.1, q.2.1, by rw [← l1, ← hs]; exact q.2.2, fun a ha => ?_⟩
        obtain ⟨S3, x3⟩ := S.new (o := .lst (List.replicate kk.toNat vs).flatten) ha
        exact hQ _ _ _ x3 S3 (.lst upd_same ((r1.rep _).mono x3.2))
      · cases h3'
    | _ => cases h3
  | _ => cases h3

/-! == -/
/-- a list with an empty list -/
def rEqNil (neg : Bool) : R2 := fun x y H Q => ∃ l b xs ys, x = .ref l ∧ y = .ref b ∧ H l = some (.lst xs) ∧ H b = some (.lst ys) ∧ (xs = [] ∨ ys = []) ∧ Q (.bl (neg ^^ (xs.isEmpty && ys.isEmpty))) H
theorem op_eqNil (hu : X.A.units < cLine) : OpR X (compareOp .Eq) (rEqNil false) := by
  rintro pins s σ H _ _ v u Q I rx ry ⟨l, b, xs, ys, rfl, rfl, h1, h2, hn, q⟩
  cases rx
  cases ry
  obtain ⟨_, is1, n1, v1, g1⟩ := I.hok l _ h1
  obtain ⟨_, is2, n2, v2, g2⟩ := I.hok b _ h2
  have l1 := v1.length
  have l2 := v2.length
  by_cases hz : xs.length = ys.length
  · have e1 : xs = [] := by
      rcases hn with e | e
      · exact e
      · subst e; exact List.length_eq_zero_iff.mp hz
    have e2 : ys = [] := by subst e1; exact List.length_eq_zero_iff.mp hz.symm
    subst e1 e2
    cases v1
    cases v2
    refine PySem.P.eq_list (e := fun _ => true) g1 g2 rfl (fun j hj => absurd hj (by simp)) hu ?_
    exact ⟨.bl _, H, I, rfl, q⟩
  · have hk : (xs.isEmpty && ys.isEmpty) = false := by
      cases xs with
      | nil => cases ys with
        | nil => exact absurd rfl hz
        | cons _ _ => rfl
      | cons _ _ => rfl
    rw [hk] at q
    refine PySem.P.eq_list_lengths g1 g2 ?_ hu ⟨.bl _, H, I, rfl, q⟩
    simp only [List.size_toArray, bne_iff_ne, ne_eq]
    omega
def rEqU : R2 := fun x y H Q => rEq x y H Q ∨ rEqNil false x y H Q
theorem op_eqU (hu : X.A.units < cLine) : OpR X (compareOp .Eq) rEqU := OpR.or op_eq (op_eqNil hu)
theorem Reps.empty {K : KM} {H : Hp} {ds : List D} {vs : List V} (r : Reps K H ds vs) : ds.isEmpty = vs.isEmpty := by cases r <;> rfl
theorem k2_eqU {K : KM} : Op2 K rEqU oEqU := by
  intro G μ F st H x y v w d e z Q S rx ry h1 h2 h3 hQ
  have sc : oEqS d e = some z → rEqU v w H Q := fun q => .inl (by
    obtain ⟨u, hu, hq⟩ := k_eqS v w d e z H Q (view_rep S rx h1) (view_rep S ry h2) q
    exact hq (hQ F H u (Ext.refl _ _) S (hu F)))
  cases d with
  | lst xs =>
    cases e with
    | lst ys =>
      obtain ⟨p, vs, rfl, sq1, r1⟩ := view_seq S rx h1
      obtain ⟨q, ws, rfl, sq2, r2⟩ := view_seq S ry h2
      cases ys with
      | nil =>
        cases h3
        cases r2
        refine .inr ⟨p, q, vs, [], rfl, rfl, sq1, sq2, .inr rfl, ?_⟩
        rw [← r1.empty]
        have : (false ^^ (xs.isEmpty && ([] : List V).isEmpty)) = xs.isEmpty := by simp
        rw [this]
        exact hQ F H _ (Ext.refl _ _) S .bl
      | cons y0 yr =>
        cases xs with
        | nil =>
          cases h3
          cases r1
          refine .inr ⟨p, q, [], ws, rfl, rfl, sq1, sq2, .inl rfl, ?_⟩
          rw [← r2.empty]
          exact hQ F H _ (Ext.refl _ _) S .bl
        | cons _ _ => cases h3
    | _ => exact sc h3
  | _ => exact sc (by cases e <;> exact h3)
theorem e_cmp2 {op : CmpOp} {r : R2} {o : D → D → Option D} (ho : OpR X (compareOp op) r) (ok : Op2 k.K r o) (ha : PE X a (dE k W fa)) (hb : PE X b (dE k W fb)) (hm : behindInMarks op b = false) : PE X (.Compare a [op] [b] pos) (dE k W (fOp o fa fb)) :=
  pe_weak (pe_cmpR ho ha hb hm) (bin_run (op2_run ok))
theorem t_cmp2 {op : CmpOp} {r : R2} {o : D → D → Option D} (ho : OpR X (compareOp op) r) (ok : Op2 k.K r o) (ha : PE X a (dE k W fa)) (hb : PE X b (dE k W fb)) (hm : behindInMarks op b = false) : PT X (.Compare a [op] [b] pos) (dT k W (tCmp (fOp o fa fb))) :=
  pt_weak (pt_cmpR ho ha hb hm) fun σ H Q h => by
    refine bin_run (op2_run ok) σ H (fun x H' => ∃ k, x = .bl k ∧ Q k H') ?_
    obtain ⟨G, μ, F, st, σd, S, R, h⟩ := h
    refine ⟨G, μ, F, st, σd, S, R, (Post.bind h).mono fun x st1 μ1 F1 H1 e1 S1 h1 v rv => ?_⟩
    obtain ⟨bb, hb, h2⟩ := h1.of
    exact ⟨bb, bl_rep rv hb, h2 μ1 F1 H1 (Ext.refl _ _) S1⟩
/-! is True -/
def rIsB : R2 := fun x y H Q => ∃ b, y = .bl b ∧ Q (.bl (decide (x = .bl b))) H
theorem op_isB : OpR X (compareOp .Is) rIsB := by
  rintro pins s σ H x _ v u Q I rx ry ⟨b, rfl, q⟩
  cases ry
  have hp : plainIs v (.bool b) = true ∧ (v == .bool b) = decide (x = .bl b) := by
    cases x with
    | bl bb =>
      cases rx
      refine ⟨rfl, ?_⟩
      cases b <;> cases bb <;> decide
    | _ => first
      | (obtain ⟨t, rfl⟩ := rx; exact ⟨rfl, by simp⟩)
      | (cases rx; exact ⟨rfl, by simp⟩)
  exact wpAny_is_plain hp.1 ⟨.bl _, H, I, rfl, by rw [hp.2]; exact q⟩
theorem k_isB {K : KM} : OpOk K rIsB oIsB := by
  intro x y d e z H Q rx ry h
  cases e <;> first
    | (cases ry; cases d <;> (cases h; cases rx <;> exact ⟨_, fun _ => .bl, fun q => ⟨_, rfl, by simpa using q⟩⟩))
    | (cases d <;> cases h)
/-! in -/
theorem flat_rep {K : KM} {H : Hp} {d : D} {v : V} (r : Rep K H d v) (h : flatD d = true) : flatV v = true := by
  cases r <;> first
    | rfl
    | cases h
theorem flats_rep {K : KM} {H : Hp} : ∀ {ds : List D} {vs : List V}, Reps K H ds vs → ds.all flatD = true → vs.all flatV = true
  | _, _, .nil, _ => rfl
  | _, _, .cons r t, h => by
    simp only [List.all_cons, Bool.and_eq_true] at h ⊢
    exact ⟨flat_rep r h.1, flats_rep t h.2⟩
theorem eqF_rep {K : KM} {H : Hp} {d e : D} {v w : V} (r : Rep K H d v) (r2 : Rep K H e w) (h : flatD d = true) (h2 : flatD e = true) : eqV v w = eqF d e := by
  cases r <;> first
    | (cases r2 <;> first
        | rfl
        | cases h2)
    | cases h
theorem inF_rep {K : KM} {H : Hp} {d : D} {v : V} (r : Rep K H d v) (h : flatD d = true) : ∀ {ds : List D} {vs : List V}, Reps K H ds vs → ds.all flatD = true → inV v vs = inF d ds
  | _, _, .nil, _ => rfl
  | _, _, .cons r1 t, h2 => by
    simp only [List.all_cons, Bool.and_eq_true] at h2
    have ih := inF_rep r h t h2.2
    unfold inV inF at ih ⊢
    rw [List.any_cons, List.any_cons, ih, eqF_rep r1 r h2.1 h]
theorem k_in {K : KM} : OpOk K (rIn K false) oIn := by
  intro x y d e z H Q rx ry h
  cases e with
  | lst xs =>
    have h' : (if flatD d = true ∧ xs.all flatD = true then some (D.bl (inF d xs)) else none) = some z := h
    split at h'
    · rename_i q
      cases h'
      cases ry with
      | lst h1 h2 => exact ⟨_, fun _ => .bl, fun hq => ⟨_, _, rfl, .inl (SqL.of h1), flat_rep rx q.1, flats_rep h2 q.2, by rw [inF_rep rx q.1 h2 q.2]; exact hq⟩⟩
    · cases h'
  | tup xs =>
    have h' : (if flatD d = true ∧ xs.all flatD = true then some (D.bl (inF d xs)) else none) = some z := h
    split at h'
    · rename_i q
      cases h'
      cases ry with
      | tup h1 h2 => exact ⟨_, fun _ => .bl, fun hq => ⟨_, _, rfl, .inr (SqT.of h1), flat_rep rx q.1, flats_rep h2 q.2, by rw [inF_rep rx q.1 h2 q.2]; exact hq⟩⟩
      | tup0 h1 => exact ⟨_, fun _ => .bl, fun hq => ⟨_, _, rfl, .inr h1, flat_rep rx q.1, rfl, hq⟩⟩
    · cases h'
  | _ => cases h
theorem k_notIn {K : KM} : OpOk K (rIn K true) oNotIn := by
  intro x y d e z H Q rx ry h
  cases e with
  | lst xs =>
    have h' : (if flatD d = true ∧ xs.all flatD = true then some (D.bl (!inF d xs)) else none) = some z := h
    split at h'
    · rename_i q
      cases h'
      cases ry with
      | lst h1 h2 => exact ⟨_, fun _ => .bl, fun hq => ⟨_, _, rfl, .inl (SqL.of h1), flat_rep rx q.1, flats_rep h2 q.2, by rw [inF_rep rx q.1 h2 q.2]; exact hq⟩⟩
    · cases h'
  | tup xs =>
    have h' : (if flatD d = true ∧ xs.all flatD = true then some (D.bl (!inF d xs)) else none) = some z := h
    split at h'
    · rename_i q
      cases h'
      cases ry with
      | tup h1 h2 => exact ⟨_, fun _ => .bl, fun hq => ⟨_, _, rfl, .inr (SqT.of h1), flat_rep rx q.1, flats_rep h2 q.2, by rw [inF_rep rx q.1 h2 q.2]; exact hq⟩⟩
      | tup0 h1 => exact ⟨_, fun _ => .bl, fun hq => ⟨_, _, rfl, .inr h1, flat_rep rx q.1, rfl, hq⟩⟩
    · cases h'
  | _ => cases h
end
end Dn

set_option linter.all false
set_option Elab.async false
/-! Sem: loops and comprehensions, in plain terms. -/
namespace Dn
open PySem
theorem bind_congr {α β : Type} {r r' : RE α} {f : α → Store → RE β} (h : r = r') : RE.bind r f = RE.bind r' f := by rw [h]
theorem st_congr {α : Type} {σ : Env} {r r' : RE α} {f : α → Store → RS} (h : r = r') : RE.st σ r f = RE.st σ r' f := by rw [h]
theorem obind_congr {α β : Type} {r r' : Option α} {f : α → Option β} (h : r = r') : Option.bind r f = Option.bind r' f := by rw [h]
def RS.seq (r : RS) (b : SF) : RS := match r with
  | .nx σ st => b σ st
  | r => r
theorem seq_eq (a b : SF) (σ : Env) (st : Store) : sSeq a b σ st = RS.seq (a σ st) b := rfl
theorem seq_congr {r r' : RS} {b : SF} (h : r = r') : RS.seq r b = RS.seq r' b := by rw [h]
@[simp] theorem seq_nx (σ : Env) (st : Store) (b : SF) : RS.seq (.nx σ st) b = b σ st := rfl
@[simp] theorem seq_rt (a : A) (st : Store) (b : SF) : RS.seq (.rt a st) b = .rt a st := rfl
@[simp] theorem seq_bk (σ : Env) (st : Store) (b : SF) : RS.seq (.bk σ st) b = .bk σ st := rfl
@[simp] theorem seq_ct (σ : Env) (st : Store) (b : SF) : RS.seq (.ct σ st) b = .ct σ st := rfl
@[simp] theorem seq_err (x : Exc) (σ : Env) (st : Store) (b : SF) : RS.seq (.err x σ st) b = .err x σ st := rfl
@[simp] theorem seq_bad (b : SF) : RS.seq .bad b = .bad := rfl
theorem seq_ite (c : Prop) [Decidable c] (x y : RS) (b : SF) : RS.seq (if c then x else y) b = if c then RS.seq x b else RS.seq y b := by split <;> rfl
theorem frzL_mapv {β : Type} (st : Store) (f : β → D) (ys : List β) : frzL st (ys.map fun y => A.v (f y)) = some (ys.map f, st) := by
  have := frzL_vals st (ys.map f)
  rw [List.map_map] at this
  exact this
theorem vals_mapv {β : Type} (f : β → D) (ys : List β) : vals (ys.map fun y => A.v (f y)) = some (ys.map f) := by
  have := vals_map (ys.map f)
  rw [List.map_map] at this
  exact this
theorem intsD_mapv {β : Type} (f : β → Int) (ys : List β) : intsD (ys.map fun y => D.int (f y)) = some (ys.map f) := by
  have := intsD_map (ys.map f)
  rw [List.map_map] at this
  exact this
theorem ixOf_lt {n : Nat} {i : Int} (h0 : 0 ≤ i) (h : i < n) : ixOf n i = some i.toNat := by
  unfold ixOf
  rw [gd_pos h0, gd_pos h]
theorem ixNat {n j : Nat} (h : j < n) : ixOf n (j : Int) = some j := by rw [ixOf_lt (by omega) (by omega)]; simp
theorem ixLast (n : Nat) : ixOf (n + 1) (-1) = some n := by
  unfold ixOf
  rw [gd_neg (by omega), gd_pos (by omega)]
  congr 1
  omega
theorem ix0 (n : Nat) : ixOf (n + 1) 0 = some 0 := ixNat (j := 0) (by omega)
theorem ix1 (n : Nat) : ixOf (n + 2) 1 = some 1 := ixNat (j := 1) (by omega)
theorem ix2 (n : Nat) : ixOf (n + 3) 2 = some 2 := ixNat (j := 2) (by omega)
theorem ix3 (n : Nat) : ixOf (n + 4) 3 = some 3 := ixNat (j := 3) (by omega)
theorem ix4 (n : Nat) : ixOf (n + 5) 4 = some 4 := ixNat (j := 4) (by omega)
theorem ix5 (n : Nat) : ixOf (n + 6) 5 = some 5 := ixNat (j := 5) (by omega)
theorem ix6 (n : Nat) : ixOf (n + 7) 6 = some 6 := ixNat (j := 6) (by omega)
theorem ix7 (n : Nat) : ixOf (n + 8) 7 = some 7 := ixNat (j := 7) (by omega)
theorem ix8 (n : Nat) : ixOf (n + 9) 8 = some 8 := ixNat (j := 8) (by omega)
theorem ix9 (n : Nat) : ixOf (n + 10) 9 = some 9 := ixNat (j := 9) (by omega)
theorem ix10 (n : Nat) : ixOf (n + 11) 10 = some 10 := ixNat (j := 10) (by omega)
theorem ix11 (n : Nat) : ixOf (n + 12) 11 = some 11 := ixNat (j := 11) (by omega)
theorem ix12 (n : Nat) : ixOf (n + 13) 12 = some 12 := ixNat (j := 12) (by omega)
theorem ix13 (n : Nat) : ixOf (n + 14) 13 = some 13 := ixNat (j := 13) (by omega)
theorem ix14 (n : Nat) : ixOf (n + 15) 14 = some 14 := ixNat (j := 14) (by omega)
theorem ix15 (n : Nat) : ixOf (n + 16) 15 = some 15 := ixNat (j := 15) (by omega)
theorem ix16 (n : Nat) : ixOf (n + 17) 16 = some 16 := ixNat (j := 16) (by omega)
theorem ix17 (n : Nat) : ixOf (n + 18) 17 = some 17 := ixNat (j := 17) (by omega)
theorem ix18 (n : Nat) : ixOf (n + 19) 18 = some 18 := ixNat (j := 18) (by omega)
theorem ix19 (n : Nat) : ixOf (n + 20) 19 = some 19 := ixNat (j := 19) (by omega)
theorem take_self (st : Store) : st.take st.length = st := List.take_length
theorem rangeA_eq (lo : Int) (n : Nat) : rangeA lo n = (List.range n).map fun i => A.v (.int (lo + (i : Nat))) := by
  induction n generalizing lo with
  | zero => rfl
  | succ n ih =>
    rw [List.range_succ_eq_map, List.map_cons, List.map_map]
    show A.v (D.int lo) :: rangeA (lo + 1) n = _
    rw [ih]
    congr 1
    · simp
    · apply List.map_congr_left
      intro i _
      simp only [Function.comp]
      congr 2
      omega
/-- a comprehension whose elements change nothing -/
theorem comp_pure {β : Type} (v : β → A) (p : β → Bool) (f : β → A) {t : TgF} {c : TF} {e : EF} {vs : List Nat} {g : Store → Prop} {σ : Env} {st : Store} (hg : g st) :
    ∀ (ys : List β) (acc : List A), (∀ y ∈ ys, ∃ σ1, t (v y) (wipeE σ vs) st = some (σ1, st) ∧ c σ1 st = .ok (p y) st ∧ (p y = true → e σ1 st = .ok (f y) st)) → acc.length + ys.length ≤ sizeMax →
      compL t c e vs g σ (ys.map v) acc st = .ok (acc ++ (ys.filter p).map f) st
  | [], acc, _, _ => by
    show compL t c e vs g σ [] acc st = _
    unfold compL
    rw [if_pos hg]
    simp
  | y :: ys, acc, h, hl => by
    obtain ⟨σ1, h1, h2, h3⟩ := h y List.mem_cons_self
    have hl' : acc.length + (ys.length + 1) ≤ sizeMax := hl
    rw [List.map_cons]
    unfold compL
    rw [if_pos hg, h1]
    dsimp only
    rw [h2]
    cases hp : p y with
    | true =>
      dsimp only
      rw [h3 hp]
      dsimp only
      rw [gd_pos (by omega), comp_pure v p f hg ys _ (fun z hz => h z (List.mem_cons_of_mem _ hz)) (by simp; omega)]
      simp [hp]
    | false =>
      dsimp only
      rw [comp_pure v p f hg ys _ (fun z hz => h z (List.mem_cons_of_mem _ hz)) (by omega)]
      simp [hp]
theorem fFrz_disp (as : List EF) (σ : Env) (st : Store) : fFrz (lDisp as) σ st = (fArgs as σ st).bind fun xs st1 => match frzL st1 xs with
  | some (ds, st2) => .ok (.v (.lst ds)) st2
  | none => .bad := rfl
theorem lDisp_eq (as : List EF) (σ : Env) (st : Store) : lDisp as σ st = fArgs as σ st := rfl
theorem fFrz_ok {l : LF} {σ : Env} {st st1 : Store} {ds : List D} (h : l σ st = .ok (ds.map .v) st1) : fFrz l σ st = .ok (.v (.lst ds)) st1 := by
  unfold fFrz
  rw [h]
  show (match frzL st1 (ds.map A.v) with
    | some (ds, st2) => RE.ok (A.v (D.lst ds)) st2
    | none => .bad) = _
  rw [frzL_vals]
/-- [f(y) for y in ys if p(y)] as data -/
theorem frz_comp {β : Type} (v : β → A) (fd : β → D) (p : β → Bool) (ys : List β) {i : IF} {t : TgF} {c : TF} {e : EF} {vs : List Nat} {g : Store → Prop} {σ : Env} {st : Store} (hi : i σ st = .ok ⟨ys.map v, g⟩ st) (hg : g st)
    (h : ∀ y ∈ ys, ∃ σ1, t (v y) (wipeE σ vs) st = some (σ1, st) ∧ c σ1 st = .ok (p y) st ∧ (p y = true → e σ1 st = .ok (.v (fd y)) st)) (hl : ys.length ≤ sizeMax) :
    fFrz (lComp i t c e vs) σ st = .ok (.v (.lst ((ys.filter p).map fd))) st := by
  apply fFrz_ok
  unfold lComp
  rw [hi]
  show compL t c e vs g σ (ys.map v) [] st = _
  rw [comp_pure v p (fun y => .v (fd y)) hg ys [] h (by simpa using hl)]
  simp
theorem frz_map {β : Type} (v : β → A) (fd : β → D) (ys : List β) {i : IF} {t : TgF} {c : TF} {e : EF} {vs : List Nat} {g : Store → Prop} {σ : Env} {st : Store} (hi : i σ st = .ok ⟨ys.map v, g⟩ st) (hg : g st)
    (h : ∀ y ∈ ys, ∃ σ1, t (v y) (wipeE σ vs) st = some (σ1, st) ∧ c σ1 st = .ok true st ∧ e σ1 st = .ok (.v (fd y)) st) (hl : ys.length ≤ sizeMax) :
    fFrz (lComp i t c e vs) σ st = .ok (.v (.lst (ys.map fd))) st := by
  rw [frz_comp v fd (fun _ => true) ys hi hg (fun y hy => by
    obtain ⟨σ1, h1, h2, h3⟩ := h y hy
    exact ⟨σ1, h1, h2, fun _ => h3⟩) hl, List.filter_eq_self.mpr (fun _ _ => rfl)]
/-- .. whose elements change the store -/
theorem frz_inv {β S : Type} (v : β → A) (I : S → Store) (R : β → D → Prop) (ys : List β) (s : S) {i : IF} {t : TgF} {c : TF} {e : EF} {vs : List Nat} {g : Store → Prop} {σ : Env} (hi : ∀ s, i σ (I s) = .ok ⟨ys.map v, g⟩ (I s)) (hg : ∀ s, g (I s))
    (h : ∀ y ∈ ys, ∀ s, ∃ σ1 s1 d, t (v y) (wipeE σ vs) (I s) = some (σ1, I s) ∧ c σ1 (I s) = .ok true (I s) ∧ e σ1 (I s) = .ok (.v d) (I s1) ∧ R y d) (hl : ys.length ≤ sizeMax) :
    ∃ (ds : List D) (s' : S), fFrz (lComp i t c e vs) σ (I s) = .ok (.v (.lst ds)) (I s') ∧ ds.length = ys.length ∧ ∀ (j : Nat) (y : β) (d : D), ys[j]? = some y → ds[j]? = some d → R y d := by
  have go : ∀ (ys : List β) (acc : List A) (s : S), (∀ y ∈ ys, ∀ s, ∃ σ1 s1 d, t (v y) (wipeE σ vs) (I s) = some (σ1, I s) ∧ c σ1 (I s) = .ok true (I s) ∧ e σ1 (I s) = .ok (.v d) (I s1) ∧ R y d) → acc.length + ys.length ≤ sizeMax →
      ∃ (ds : List D) (s' : S), compL t c e vs g σ (ys.map v) acc (I s) = .ok (acc ++ ds.map A.v) (I s') ∧ ds.length = ys.length ∧ ∀ (j : Nat) (y : β) (d : D), ys[j]? = some y → ds[j]? = some d → R y d := by
    intro ys
    induction ys with
    | nil =>
      intro acc s _ _
      refine ⟨[], s, ?_, rfl, fun j y d h => by simp at h⟩
      show compL t c e vs g σ [] acc (I s) = _
      unfold compL
      rw [if_pos (hg s)]
      simp
    | cons y ys ih =>
      intro acc s h hl
      have hl' : acc.length + (ys.length + 1) ≤ sizeMax := hl
      obtain ⟨σ1, s1, d, h1, h2, h3, h4⟩ := h y List.mem_cons_self s
      obtain ⟨ds, s', q1, q2, q3⟩ := ih (acc ++ [.v d]) s1 (fun z hz => h z (List.mem_cons_of_mem _ hz)) (by simp; omega)
      refine ⟨d :: ds, s', ?_, by simp [q2], fun j z w hz hw => ?_⟩
      · rw [List.map_cons]
        unfold compL
        rw [if_pos (hg s), h1]
        dsimp only
        rw [h2]
        dsimp only
        rw [h3]
        dsimp only
        rw [gd_pos (by omega), q1]
        simp
      · cases j with
        | zero => simp at hz hw; subst hz hw; exact h4
        | succ j => exact q3 j z w (by simpa using hz) (by simpa using hw)
  obtain ⟨ds, s', h1, h2, h3⟩ := go ys [] s h (by simpa using hl)
  refine ⟨ds, s', fFrz_ok ?_, h2, h3⟩
  unfold lComp
  rw [hi]
  exact h1
theorem insI_perm (x : Int) : ∀ l : List Int, (insI x l).Perm (x :: l)
  | [] => .refl _
  | y :: r => by
    unfold insI
    split
    · exact .refl _
    · exact ((insI_perm x r).cons y).trans (.swap x y r)
theorem sortI_perm : ∀ l : List Int, (sortI l).Perm l
  | [] => .refl _
  | x :: r => (insI_perm x _).trans ((sortI_perm r).cons x)
theorem insI_pw (x : Int) : ∀ l : List Int, l.Pairwise (· ≤ ·) → (insI x l).Pairwise (· ≤ ·)
  | [], _ => by unfold insI; exact List.pairwise_singleton _ _
  | y :: r, h => by
    unfold insI
    have h' := List.pairwise_cons.mp h
    split
    · rename_i hxy
      refine List.pairwise_cons.mpr ⟨fun z hz => ?_, h⟩
      rcases List.mem_cons.mp hz with q | q
      · rw [q]; exact hxy
      · exact Int.le_trans hxy (h'.1 z q)
    · rename_i hxy
      refine List.pairwise_cons.mpr ⟨fun z hz => ?_, insI_pw x r h'.2⟩
      rcases List.mem_cons.mp ((insI_perm x r).mem_iff.mp hz) with q | q
      · rw [q]; omega
      · exact h'.1 z q
theorem sortI_pw : ∀ l : List Int, (sortI l).Pairwise (· ≤ ·)
  | [] => .nil
  | x :: r => insI_pw x _ (sortI_pw r)
theorem sort_uniq {a b : List Int} (hp : a.Perm b) (ha : a.Pairwise (· ≤ ·)) (hb : b.Pairwise (· ≤ ·)) : a = b :=
  List.Perm.eq_of_pairwise (fun x y _ _ h1 h2 => Int.le_antisymm h1 h2) ha hb hp
/-! loops over written lists -/
noncomputable def RS.lp (r : RS) (k : SF) : RS := match r with
  | .nx σ st => k σ st
  | .ct σ st => k σ st
  | .bk σ st => .nx σ st
  | r => r
theorem lp_congr {r r' : RS} {b : SF} (h : r = r') : RS.lp r b = RS.lp r' b := by rw [h]
theorem lp_nx (σ : Env) (st : Store) (b : SF) : RS.lp (.nx σ st) b = b σ st := rfl
theorem lp_ct (σ : Env) (st : Store) (b : SF) : RS.lp (.ct σ st) b = b σ st := rfl
theorem lp_bk (σ : Env) (st : Store) (b : SF) : RS.lp (.bk σ st) b = .nx σ st := rfl
theorem lp_rt (a : A) (st : Store) (b : SF) : RS.lp (.rt a st) b = .rt a st := rfl
theorem lp_err (x : Exc) (σ : Env) (st : Store) (b : SF) : RS.lp (.err x σ st) b = .err x σ st := rfl
theorem forT_nil (t : TgF) (b : SF) (σ : Env) (st : Store) : forL t b (fun _ => True) [] σ st = .nx σ st := by
  unfold forL
  rw [if_pos trivial]
theorem forT_cons (i : Nat) (b : SF) (x : A) (xs : List A) (σ : Env) (st : Store) : forL (tgName i) b (fun _ => True) (x :: xs) σ st = RS.lp (b (σ.set i (some x)) st) (forL (tgName i) b (fun _ => True) xs) := by
  rw [forL, if_pos trivial]
  show (match b (σ.set i (some x)) st with
      | .nx σ2 st2 => forL (tgName i) b (fun _ => True) xs σ2 st2
      | .ct σ2 st2 => forL (tgName i) b (fun _ => True) xs σ2 st2
      | .bk σ2 st2 => .nx σ2 st2
      | r => r) = _
  unfold RS.lp
  cases b (σ.set i (some x)) st <;> rfl
inductive All2 {α β : Type} (R : α → β → Prop) : List α → List β → Prop
  | nil : All2 R [] []
  | cons {a : α} {b : β} {as : List α} {bs : List β} : R a b → All2 R as bs → All2 R (a :: as) (b :: bs)
theorem All2.len {α β : Type} {R : α → β → Prop} : ∀ {as : List α} {bs : List β}, All2 R as bs → as.length = bs.length
  | _, _, .nil => rfl
  | _, _, .cons _ t => by rw [List.length_cons, List.length_cons, t.len]
theorem All2.right {α β : Type} {R : α → β → Prop} {P : β → Prop} (h : ∀ a b, R a b → P b) : ∀ {as : List α} {bs : List β}, All2 R as bs → ∀ b ∈ bs, P b
  | _, _, .nil, _, hb => by cases hb
  | _, _, .cons r t, b, hb => by
    rcases List.mem_cons.mp hb with q | q
    · rw [q]; exact h _ _ r
    · exact t.right h b q
/-- a comprehension whose elements change the store, within the invariant I -/
theorem comp_inv {β S : Type} (v : β → A) (I : S → Store) (R : β → A → Prop) {t : TgF} {c : TF} {e : EF} {vs : List Nat} {g : Store → Prop} {σ : Env} (hg : ∀ s, g (I s)) :
    ∀ (ys : List β) (acc : List A) (s : S), (∀ y ∈ ys, ∀ s, ∃ σ1 s1 a, t (v y) (wipeE σ vs) (I s) = some (σ1, I s) ∧ c σ1 (I s) = .ok true (I s) ∧ e σ1 (I s) = .ok a (I s1) ∧ R y a) → acc.length + ys.length ≤ sizeMax →
      ∃ as s', compL t c e vs g σ (ys.map v) acc (I s) = .ok (acc ++ as) (I s') ∧ All2 R ys as
  | [], acc, s, _, _ => ⟨[], s, by
    show compL t c e vs g σ [] acc (I s) = _
    unfold compL
    rw [if_pos (hg s)]
    simp, .nil⟩
  | y :: ys, acc, s, h, hl => by
    obtain ⟨σ1, s1, a, h1, h2, h3, h4⟩ := h y List.mem_cons_self s
    have hl' : acc.length + (ys.length + 1) ≤ sizeMax := hl
    obtain ⟨as, s', q1, q2⟩ := comp_inv v I R hg ys (acc ++ [a]) s1 (fun z hz => h z (List.mem_cons_of_mem _ hz)) (by simp; omega)
    refine ⟨a :: as, s', ?_, .cons h4 q2⟩
    rw [List.map_cons]
    unfold compL
    rw [if_pos (hg s), h1]
    dsimp only
    rw [h2]
    dsimp only
    rw [h3]
    dsimp only
    rw [gd_pos (by omega), q1]
    simp
/-- .. and whose test may drop some -/
theorem comp_invF {β S : Type} (v : β → A) (I : S → Store) (R : β → A → Prop) {t : TgF} {c : TF} {e : EF} {vs : List Nat} {g : Store → Prop} {σ : Env} (hg : ∀ s, g (I s)) :
    ∀ (ys : List β) (acc : List A) (s : S), (∀ y ∈ ys, ∀ s, ∃ σ1 s1 b, t (v y) (wipeE σ vs) (I s) = some (σ1, I s) ∧ c σ1 (I s) = .ok b (I s1) ∧ (b = true → ∃ s2 a, e σ1 (I s1) = .ok a (I s2) ∧ R y a)) → acc.length + ys.length ≤ sizeMax →
      ∃ as s' zs, compL t c e vs g σ (ys.map v) acc (I s) = .ok (acc ++ as) (I s') ∧ zs.Sublist ys ∧ All2 R zs as
  | [], acc, s, _, _ => ⟨[], s, [], by
    show compL t c e vs g σ [] acc (I s) = _
    unfold compL
    rw [if_pos (hg s)]
    simp, .refl _, .nil⟩
  | y :: ys, acc, s, h, hl => by
    obtain ⟨σ1, s1, b, h1, h2, h3⟩ := h y List.mem_cons_self s
    have hl' : acc.length + (ys.length + 1) ≤ sizeMax := hl
    cases b with
    | true =>
      obtain ⟨s2, a, h4, h5⟩ := h3 rfl
      obtain ⟨as, s', zs, q1, q2, q3⟩ := comp_invF v I R hg ys (acc ++ [a]) s2 (fun z hz => h z (List.mem_cons_of_mem _ hz)) (by simp; omega)
      refine ⟨a :: as, s', y :: zs, ?_, q2.cons_cons _, .cons h5 q3⟩
      rw [List.map_cons]
      unfold compL
      rw [if_pos (hg s), h1]
      dsimp only
      rw [h2]
      dsimp only
      rw [h4]
      dsimp only
      rw [gd_pos (by omega), q1]
      simp
    | false =>
      obtain ⟨as, s', zs, q1, q2, q3⟩ := comp_invF v I R hg ys acc s1 (fun z hz => h z (List.mem_cons_of_mem _ hz)) (by omega)
      refine ⟨as, s', zs, ?_, q2.cons _, q3⟩
      rw [List.map_cons]
      unfold compL
      rw [if_pos (hg s), h1]
      dsimp only
      rw [h2]
      dsimp only
      rw [q1]
/-- a loop by its invariant; a turn may also leave it with a result of Q -/
theorem for_inv {β : Type} (v : β → A) {t : TgF} {b : SF} {g : Store → Prop} (all : List β) (P : List β → Env → Store → Prop) (Q : RS → Prop) (hg : ∀ pre σ st, P pre σ st → g st)
    (hs : ∀ pre y post σ st, all = pre ++ y :: post → P pre σ st → ∃ σ1 st1, t (v y) σ st = some (σ1, st1) ∧
      ((∃ σ2 st2, (b σ1 st1 = .nx σ2 st2 ∨ b σ1 st1 = .ct σ2 st2) ∧ P (pre ++ [y]) σ2 st2) ∨ (∃ σ2 st2, b σ1 st1 = .bk σ2 st2 ∧ Q (.nx σ2 st2)) ∨ (∃ a st2, b σ1 st1 = .rt a st2 ∧ Q (.rt a st2)))) :
    ∀ (ys pre : List β) (σ : Env) (st : Store), all = pre ++ ys → P pre σ st → (∃ σ' st', forL t b g (ys.map v) σ st = .nx σ' st' ∧ P all σ' st') ∨ Q (forL t b g (ys.map v) σ st)
  | [], pre, σ, st, he, hp => .inl ⟨σ, st, by
    show forL t b g [] σ st = _
    unfold forL
    rw [if_pos (hg _ _ _ hp)], by rw [he, List.append_nil]; exact hp⟩
  | y :: ys, pre, σ, st, he, hp => by
    obtain ⟨σ1, st1, h1, h2⟩ := hs pre y ys σ st he hp
    rw [List.map_cons]
    have e : forL t b g (v y :: ys.map v) σ st = (match b σ1 st1 with
        | .nx σ2 st2 => forL t b g (ys.map v) σ2 st2
        | .ct σ2 st2 => forL t b g (ys.map v) σ2 st2
        | .bk σ2 st2 => .nx σ2 st2
        | r => r) := by
      rw [forL, if_pos (hg _ _ _ hp), h1] <;> (dsimp only; cases b σ1 st1 <;> rfl)
    rw [e]
    rcases h2 with ⟨σ2, st2, h3, h4⟩ | ⟨σ2, st2, h3, h4⟩ | ⟨a, st2, h3, h4⟩
    · have ih := for_inv v all P Q hg hs ys (pre ++ [y]) σ2 st2 (by rw [he]; simp) h4
      rcases h3 with h3 | h3
      · rw [h3]; exact ih
      · rw [h3]; exact ih
    · rw [h3]; exact .inr h4
    · rw [h3]; exact .inr h4
theorem for_all {β : Type} (v : β → A) {t : TgF} {b : SF} {g : Store → Prop} (all : List β) (P : List β → Env → Store → Prop) (hg : ∀ pre σ st, P pre σ st → g st)
    (hs : ∀ pre y post σ st, all = pre ++ y :: post → P pre σ st → ∃ σ1 st1 σ2 st2, t (v y) σ st = some (σ1, st1) ∧ (b σ1 st1 = .nx σ2 st2 ∨ b σ1 st1 = .ct σ2 st2) ∧ P (pre ++ [y]) σ2 st2) {σ : Env} {st : Store} (h0 : P [] σ st) :
    ∃ σ' st', forL t b g (all.map v) σ st = .nx σ' st' ∧ P all σ' st' := by
  rcases for_inv v all P (fun _ => False) hg (fun pre y post σ st e p => by
    obtain ⟨σ1, st1, σ2, st2, h1, h2, h3⟩ := hs pre y post σ st e p
    exact ⟨σ1, st1, h1, .inl ⟨σ2, st2, h2, h3⟩⟩) all [] σ st rfl h0 with h | h
  · exact h
  · exact h.elim
theorem All2.eq {α β : Type} {f : α → β} : ∀ {as : List α} {bs : List β}, All2 (fun a b => b = f a) as bs → bs = as.map f
  | _, _, .nil => rfl
  | _, _, .cons h t => by rw [List.map_cons, h, t.eq]
/-- [y for y in ys if drawn] -/
theorem frz_invF {β S : Type} (v : β → A) (I : S → Store) (fd : β → D) (ys : List β) (s : S) {i : IF} {t : TgF} {c : TF} {e : EF} {vs : List Nat} {g : Store → Prop} {σ : Env} (hi : ∀ s, i σ (I s) = .ok ⟨ys.map v, g⟩ (I s)) (hg : ∀ s, g (I s))
    (h : ∀ y ∈ ys, ∀ s, ∃ σ1 s1 b, t (v y) (wipeE σ vs) (I s) = some (σ1, I s) ∧ c σ1 (I s) = .ok b (I s1) ∧ (b = true → e σ1 (I s1) = .ok (.v (fd y)) (I s1))) (hl : ys.length ≤ sizeMax) :
    ∃ (zs : List β) (s' : S), fFrz (lComp i t c e vs) σ (I s) = .ok (.v (.lst (zs.map fd))) (I s') ∧ zs.Sublist ys := by
  obtain ⟨as, s', zs, h1, h2, h3⟩ := comp_invF v I (fun y a => a = .v (fd y)) (t := t) (c := c) (e := e) (vs := vs) (g := g) (σ := σ) hg ys [] s (fun y hy s => by
    obtain ⟨σ1, s1, b, q1, q2, q3⟩ := h y hy s
    exact ⟨σ1, s1, b, q1, q2, fun hb => ⟨s1, _, q3 hb, rfl⟩⟩) (by simpa using hl)
  have e1 := h3.eq
  refine ⟨zs, s', fFrz_ok ?_, h2⟩
  unfold lComp
  rw [hi]
  show compL t c e vs g σ (ys.map v) [] (I s) = _
  rw [h1, e1, List.nil_append, List.map_map]
  rfl
theorem insP_perm (x : Int × Int) : ∀ l, (insP x l).Perm (x :: l)
  | [] => .refl _
  | y :: r => by
    unfold insP
    split
    · exact .refl _
    · exact (List.Perm.cons y (insP_perm x r)).trans (.swap _ _ _)
theorem sortP_perm : ∀ l, (sortP l).Perm l
  | [] => .refl _
  | x :: r => (insP_perm x (sortP r)).trans (.cons x (sortP_perm r))
theorem lePP_total {p q : Int × Int} (h : ¬ lePP p q) : lePP q p := by unfold lePP at *; omega
theorem lePP_trans {p q r : Int × Int} (h : lePP p q) (h2 : lePP q r) : lePP p r := by unfold lePP at *; omega
theorem lePP_anti {p q : Int × Int} (h : lePP p q) (h2 : lePP q p) : p = q := by
  unfold lePP at *
  exact Prod.ext (by omega) (by omega)
theorem insP_pw (x : Int × Int) : ∀ {l}, l.Pairwise lePP → (insP x l).Pairwise lePP
  | [], _ => List.pairwise_singleton _ _
  | y :: r, h => by
    have ⟨h1, h2⟩ := List.pairwise_cons.mp h
    unfold insP
    split
    · rename_i q
      rw [dec_iff] at q
      refine List.pairwise_cons.mpr ⟨fun z hz => ?_, h⟩
      rcases List.mem_cons.mp hz with e | hz
      · rw [e]; exact q
      · exact lePP_trans q (h1 z hz)
    · rename_i q
      rw [dec_iff] at q
      refine List.pairwise_cons.mpr ⟨fun z hz => ?_, insP_pw x h2⟩
      rcases List.mem_cons.mp ((insP_perm x r).mem_iff.mp hz) with e | hz
      · rw [e]; exact lePP_total q
      · exact h1 z hz
theorem sortP_pw : ∀ l, (sortP l).Pairwise lePP
  | [] => .nil
  | x :: r => insP_pw x (sortP_pw r)
theorem pair_uniq : ∀ {l m : List (Int × Int)}, l.Perm m → l.Pairwise lePP → m.Pairwise lePP → l = m
  | [], m, p, _, _ => (List.Perm.eq_nil p.symm).symm
  | x :: l, [], p, _, _ => absurd p.length_eq (by simp)
  | x :: l, y :: m, p, hl, hm => by
    have ⟨a1, a2⟩ := List.pairwise_cons.mp hl
    have ⟨b1, b2⟩ := List.pairwise_cons.mp hm
    have e : x = y := by
      rcases List.mem_cons.mp (p.mem_iff.mp List.mem_cons_self) with e | hx
      · exact e
      · rcases List.mem_cons.mp (p.mem_iff.mpr List.mem_cons_self) with e | hy
        · exact e.symm
        · exact lePP_anti (a1 y hy) (b1 x hx)
    subst e
    rw [pair_uniq p.cons_inv a2 b2]
theorem maxI_spec : ∀ {ns : List Int} {m : Int}, maxI ns = some m → m ∈ ns ∧ ∀ y ∈ ns, y ≤ m := by
  have go : ∀ (r : List Int) (x : Int), (r.foldl (fun m y => if y > m then y else m) x = x ∨ r.foldl (fun m y => if y > m then y else m) x ∈ r) ∧ x ≤ r.foldl (fun m y => if y > m then y else m) x ∧ ∀ y ∈ r, y ≤ r.foldl (fun m y => if y > m then y else m) x := by
    intro r
    induction r with
    | nil => intro x; exact ⟨.inl rfl, Int.le_refl _, fun _ h => by cases h⟩
    | cons z r ih =>
      intro x
      obtain ⟨h1, h2, h3⟩ := ih (if z > x then z else x)
      rw [List.foldl_cons]
      refine ⟨?_, ?_, fun y hy => ?_⟩
      · rcases h1 with h1 | h1
        · rw [h1]
          split
          · exact .inr List.mem_cons_self
          · exact .inl rfl
        · exact .inr (List.mem_cons_of_mem _ h1)
      · refine Int.le_trans ?_ h2
        split <;> omega
      · rcases List.mem_cons.mp hy with q | q
        · rw [q]
          refine Int.le_trans ?_ h2
          split <;> omega
        · exact h3 y q
  intro ns m h
  cases ns with
  | nil => cases h
  | cons x r =>
    cases h
    obtain ⟨h1, h2, h3⟩ := go r x
    refine ⟨?_, fun y hy => ?_⟩
    · rcases h1 with h1 | h1
      · rw [h1]; exact List.mem_cons_self
      · exact List.mem_cons_of_mem _ h1
    · rcases List.mem_cons.mp hy with q | q
      · rw [q]; exact h2
      · exact h3 y q
theorem minI_spec : ∀ {ns : List Int} {m : Int}, minI ns = some m → m ∈ ns ∧ ∀ y ∈ ns, m ≤ y := by
  have go : ∀ (r : List Int) (x : Int), (r.foldl (fun m y => if y < m then y else m) x = x ∨ r.foldl (fun m y => if y < m then y else m) x ∈ r) ∧ r.foldl (fun m y => if y < m then y else m) x ≤ x ∧ ∀ y ∈ r, r.foldl (fun m y => if y < m then y else m) x ≤ y := by
    intro r
    induction r with
    | nil => intro x; exact ⟨.inl rfl, Int.le_refl _, fun _ h => by cases h⟩
    | cons z r ih =>
      intro x
      obtain ⟨h1, h2, h3⟩ := ih (if z < x then z else x)
      rw [List.foldl_cons]
      refine ⟨?_, ?_, fun y hy => ?_⟩
      · rcases h1 with h1 | h1
        · rw [h1]
          split
          · exact .inr List.mem_cons_self
          · exact .inl rfl
        · exact .inr (List.mem_cons_of_mem _ h1)
      · refine Int.le_trans h2 ?_
        split <;> omega
      · rcases List.mem_cons.mp hy with q | q
        · rw [q]
          refine Int.le_trans h2 ?_
          split <;> omega
        · exact h3 y q
  intro ns m h
  cases ns with
  | nil => cases h
  | cons x r =>
    cases h
    obtain ⟨h1, h2, h3⟩ := go r x
    refine ⟨?_, fun y hy => ?_⟩
    · rcases h1 with h1 | h1
      · rw [h1]; exact List.mem_cons_self
      · exact List.mem_cons_of_mem _ h1
    · rcases List.mem_cons.mp hy with q | q
      · rw [q]; exact h2
      · exact h3 y q

theorem maxI_some {ns : List Int} (h : ns ≠ []) : ∃ m, maxI ns = some m := by
  cases ns with
  | nil => exact absurd rfl h
  | cons x r => exact ⟨_, rfl⟩
theorem minI_some {ns : List Int} (h : ns ≠ []) : ∃ m, minI ns = some m := by
  cases ns with
  | nil => exact absurd rfl h
  | cons x r => exact ⟨_, rfl⟩
/-! while -/
theorem whileN_succ (c : TF) (b : SF) (n : Nat) (σ : Env) (st : Store) : whileN c b (n + 1) σ st = (c σ st).st σ fun k st1 => if k = true then (match b σ st1 with
      | .nx σ2 st2 => whileN c b n σ2 st2
      | .ct σ2 st2 => whileN c b n σ2 st2
      | .bk σ2 st2 => .nx σ2 st2
      | r => r) else .nx σ st1 := rfl
theorem while_step {c : TF} {b : SF} {n : Nat} {σ σ2 : Env} {st st1 st2 : Store} (hc : c σ st = .ok true st1) (hb : b σ st1 = .nx σ2 st2) : whileN c b (n + 1) σ st = whileN c b n σ2 st2 := by
  rw [whileN_succ, hc, st_ok, if_pos rfl, hb]
theorem while_stop {c : TF} {b : SF} {n : Nat} {σ : Env} {st st1 : Store} (hc : c σ st = .ok false st1) : whileN c b (n + 1) σ st = .nx σ st1 := by
  rw [whileN_succ, hc, st_ok, if_neg (by decide)]
theorem whileN_mono {c : TF} {b : SF} : ∀ (n : Nat) (σ : Env) (st : Store), whileN c b n σ st ≠ .bad → ∀ m, n ≤ m → whileN c b m σ st = whileN c b n σ st
  | 0, σ, st, h, m, _ => absurd rfl h
  | n + 1, σ, st, h, 0, hm => by omega
  | n + 1, σ, st, h, m + 1, hm => by
    rw [whileN_succ] at h
    rw [whileN_succ, whileN_succ]
    cases q : c σ st with
    | bad => rfl
    | err x s => rfl
    | ok kk st1 =>
      rw [q] at h
      rw [st_ok] at h
      rw [st_ok, st_ok]
      cases kk with
      | false => rfl
      | true =>
        rw [if_pos rfl] at h
        rw [if_pos rfl, if_pos rfl]
        cases q2 : b σ st1 with
        | nx σ2 st2 => rw [q2] at h; exact whileN_mono n σ2 st2 h m (by omega)
        | ct σ2 st2 => rw [q2] at h; exact whileN_mono n σ2 st2 h m (by omega)
        | bk σ2 st2 => rfl
        | rt a st2 => rfl
        | err x s s2 => rfl
        | bad => rfl
theorem while_of {c : TF} {b : SF} {n : Nat} {σ : Env} {st : Store} {r : RS} (h : whileN c b n σ st = r) (hr : r ≠ .bad) : sWhile c b σ st = r := by
  have hx : ∃ n, whileN c b n σ st ≠ .bad := ⟨n, by rw [h]; exact hr⟩
  unfold sWhile
  rw [dif_pos hx]
  have h2 := Classical.choose_spec hx
  rcases Nat.le_total n (Classical.choose hx) with q | q
  · rw [whileN_mono n σ st (by rw [h]; exact hr) _ q, h]
  · rw [← whileN_mono _ σ st h2 n q, h]
theorem ints_of {P : Int → Prop} : ∀ ds : List D, (∀ d ∈ ds, ∃ i, d = .int i ∧ P i) → ∃ ns : List Int, ds = ns.map D.int ∧ ∀ n ∈ ns, P n
  | [], _ => ⟨[], rfl, fun _ h => by cases h⟩
  | d :: r, h => by
    obtain ⟨i, rfl, hi⟩ := h d List.mem_cons_self
    obtain ⟨ns, rfl, hn⟩ := ints_of r fun e he => h e (List.mem_cons_of_mem _ he)
    refine ⟨i :: ns, rfl, fun n hm => ?_⟩
    rcases List.mem_cons.mp hm with q | q
    · rw [q]; exact hi
    · exact hn n q
theorem perm_sum {a b : List Int} (h : a.Perm b) : a.sum = b.sum := by
  induction h with
  | nil => rfl
  | cons x _ ih => rw [List.sum_cons, List.sum_cons, ih]
  | swap x y l => simp only [List.sum_cons]; omega
  | trans _ _ h1 h2 => rw [h1, h2]

theorem shp_nil : shp (.lst []) := by unfold shp toPy toPyL; decide +kernel
theorem eq_nil : eqDD (.lst []) (.lst []) = true := by unfold eqDD toPy toPyL; rfl

theorem oEqG_int (i j : Int) : oEqG (.int i) (.int j) = some (.bl (dec (i = j))) := rfl
theorem oEqG_bl (i j : Bool) : oEqG (.bl i) (.bl j) = some (.bl (decide (i = j))) := rfl
theorem oEqG_str (i j : Str) : oEqG (.str i) (.str j) = some (.bl (dec (i = j))) := rfl
theorem oEqG_nn : oEqG .non .non = some (.bl true) := rfl
theorem oEqG_ni (i : Int) : oEqG .non (.int i) = some (.bl false) := rfl
theorem oEqG_in (i : Int) : oEqG (.int i) .non = some (.bl false) := rfl
theorem oEqG_nil (xs : List D) : oEqG (.lst xs) (.lst []) = some (.bl xs.isEmpty) := by cases xs <;> rfl
theorem oEqG_nil2 (x : D) (xs : List D) : oEqG (.lst []) (.lst (x :: xs)) = some (.bl false) := rfl
theorem oNeG_int (i j : Int) : oNeG (.int i) (.int j) = some (.bl (!dec (i = j))) := rfl
theorem oNeG_bl (i j : Bool) : oNeG (.bl i) (.bl j) = some (.bl (!decide (i = j))) := rfl
theorem oNeG_str (i j : Str) : oNeG (.str i) (.str j) = some (.bl (!dec (i = j))) := rfl
theorem oNeG_nn : oNeG .non .non = some (.bl false) := rfl
theorem oNeG_ni (i : Int) : oNeG .non (.int i) = some (.bl true) := rfl
theorem oNeG_in (i : Int) : oNeG (.int i) .non = some (.bl true) := rfl
theorem oNeG_nil0 : oNeG (.lst []) (.lst []) = some (.bl false) := by
  show gd (shp (.lst []) ∧ shp (.lst [])) (some (D.bl (!eqDD (.lst []) (.lst [])))) none = _
  rw [gd_pos ⟨shp_nil, shp_nil⟩, eq_nil]
  rfl
theorem oNeG_nil {xs : List D} (h : shp (.lst xs)) : oNeG (.lst xs) (.lst []) = some (.bl (!xs.isEmpty)) := by
  have e : eqDD (.lst xs) (.lst []) = xs.isEmpty := by
    cases xs with
    | nil => exact eq_nil
    | cons x r => unfold eqDD toPy toPyL; rfl
  show gd (shp (.lst xs) ∧ shp (.lst [])) (some (D.bl (!eqDD (.lst xs) (.lst [])))) none = _
  rw [gd_pos ⟨h, shp_nil⟩, e]
end Dn

set_option linter.all false
set_option Elab.async false
set_option maxRecDepth 100000
/-! Ops2: sorted, max, min, all, any, isinstance, list(range(n)). -/
namespace Dn
open PySem PySem.Spec PyProof.Rows L2

section
variable {X : Cx} {W : WX} {k : Kx} {a b c e : Expr} {es : List Expr} {fa fb fc f : EF} {fs : List EF} {l : LF} {pos : Pos} {x : Str} {p p2 pos2 : Pos} {ta tb : TF}
theorem ints_areps {K : KM} {μ : List Addr} {F : Hp} : ∀ ns : List Int, AReps K μ F (ns.map fun i => A.v (.int i)) (ns.map V.int)
  | [] => .nil
  | _ :: r => .cons Rep.int (ints_areps r)
theorem l_sorted (hg : Gl X ("sorted" : Str)) (hm : X.mg ("sorted" : Str) = none) (hk : k.K = X.K) (ha : PE X e (dE k W f)) (hs : starEach [e] X.env = (false, eval e X.env) :: starEach [] X.env := by rfl) (hpl : (backTo pos (starEach [] X.env)).any (·.1) = false := by rfl) : PE X (.Call (.Name ("sorted" : Str) p) [e] [] pos) (dL k W (lSorted f)) :=
  pe_weak (pe_callB cr_sorted hg hm (by decide +kernel) (pa_cons ha pa_nil hs) (by decide) (by decide) hs hpl) fun σ H Q ⟨G, μ, F, st, σd, S, R, h⟩ => by
    refine ⟨G, μ, F, st, σd, S, R, (Post.bind h).mono fun x st1 μ1 F1 H1 e1 S1 h1 v rv => ?_⟩
    obtain ⟨xs, q1, _⟩ := h1.of
    rw [q1] at h1
    cases q : x.view st1 with
    | none => rw [q] at q1; cases q1
    | some d =>
      rw [q] at q1
      cases d with
      | lst ds =>
        obtain ⟨pp, vs, rfl, hh, hr⟩ := view_seq S1 rv q
        have q1' : ((intsD ds).bind fun ns => gd (ns.length < 64) (some ((sortI ns).map fun i => A.v (.int i))) none) = some xs := q1
        cases q2 : intsD ds with
        | none => rw [q2] at q1'; cases q1'
        | some ns =>
          rw [q2] at q1'
          have q3 : gd (ns.length < 64) (some ((sortI ns).map fun i => A.v (.int i))) none = some xs := q1'
          unfold gd at q3
          split at q3
          · rename_i h64
            cases q3
            obtain ⟨e1, _⟩ := ints_rep hr q2
            subst e1
            refine ⟨pp, ns, rfl, SqL.of hh, h64, fun ns' pn hpm hpw hn => ?_⟩
            have : ns' = sortI ns := sort_uniq (hpm.trans (sortI_perm ns).symm) hpw (sortI_pw ns)
            subst this
            exact new_run S1 (ints_areps _) hn h1
          · cases q3
      | _ => cases q1
theorem k_max {K : KM} : CallOk K (rMax K) bMax := fun vs ds z H Q r h => by
  match ds, r, h with
  | [.lst xs], .cons (.lst h1 h2) .nil, h =>
    have h' : ((intsD xs).bind fun ns => (maxI ns).map D.int) = some z := h
    cases q : intsD xs with
    | none => rw [q] at h'; cases h'
    | some ns =>
      rw [q] at h'
      have h3 : (maxI ns).map D.int = some z := h'
      cases q3 : maxI ns with
      | none => rw [q3] at h3; cases h3
      | some m =>
        rw [q3] at h3; cases h3
        obtain ⟨e1, _⟩ := ints_rep h2 q
        subst e1
        obtain ⟨m1, m2⟩ := maxI_spec q3
        refine ⟨_, fun _ => .int, fun hq => ⟨_, ns, rfl, SqL.of h1, List.length_pos_of_mem m1, fun m' a1 a2 => ?_⟩⟩
        rw [Int.le_antisymm (m2 _ a1) (a2 _ m1)]
        exact hq
theorem k_min {K : KM} : CallOk K (rMin K) bMin := fun vs ds z H Q r h => by
  match ds, r, h with
  | [.lst xs], .cons (.lst h1 h2) .nil, h =>
    have h' : ((intsD xs).bind fun ns => (minI ns).map D.int) = some z := h
    cases q : intsD xs with
    | none => rw [q] at h'; cases h'
    | some ns =>
      rw [q] at h'
      have h3 : (minI ns).map D.int = some z := h'
      cases q3 : minI ns with
      | none => rw [q3] at h3; cases h3
      | some m =>
        rw [q3] at h3; cases h3
        obtain ⟨e1, _⟩ := ints_rep h2 q
        subst e1
        obtain ⟨m1, m2⟩ := minI_spec q3
        refine ⟨_, fun _ => .int, fun hq => ⟨_, ns, rfl, SqL.of h1, List.length_pos_of_mem m1, fun m' a1 a2 => ?_⟩⟩
        rw [Int.le_antisymm (a2 _ m1) (m2 _ a1)]
        exact hq
theorem bools_rep {K : KM} {H : Hp} : ∀ {ds : List D} {vs : List V} {ns : List Bool}, Reps K H ds vs → boolsD ds = some ns → vs = ns.map V.bl
  | _, _, _, .nil, h => by cases h; rfl
  | .bl i :: r, _, ns, .cons .bl t, h => by
    have h' : (boolsD r).map (i :: ·) = some ns := h
    cases q : boolsD r with
    | none => rw [q] at h'; cases h'
    | some ms =>
      rw [q] at h'; cases h'
      rw [bools_rep t q]; rfl
theorem k_all {K : KM} : CallOk K (rAll K) bAll := fun vs ds z H Q r h => by
  match ds, r, h with
  | [.lst xs], .cons (.lst h1 h2) .nil, h =>
    have h' : ((boolsD xs).map fun bs => D.bl (bs.all id)) = some z := h
    cases q : boolsD xs with
    | none => rw [q] at h'; cases h'
    | some ns =>
      rw [q] at h'; cases h'
      have e1 := bools_rep h2 q
      subst e1
      exact ⟨_, fun _ => .bl, fun hq => ⟨_, ns, rfl, SqL.of h1, hq⟩⟩
theorem k_any {K : KM} : CallOk K (rAny K) bAny := fun vs ds z H Q r h => by
  match ds, r, h with
  | [.lst xs], .cons (.lst h1 h2) .nil, h =>
    have h' : ((boolsD xs).map fun bs => D.bl (bs.any id)) = some z := h
    cases q : boolsD xs with
    | none => rw [q] at h'; cases h'
    | some ns =>
      rw [q] at h'; cases h'
      have e1 := bools_rep h2 q
      subst e1
      exact ⟨_, fun _ => .bl, fun hq => ⟨_, ns, rfl, SqL.of h1, hq⟩⟩

/-! isinstance of a built-in type -/
def tyN : Ty → String
  | .int => "int"
  | .bool => "bool"
  | .str => "str"
  | .tuple => "tuple"
  | .list => "list"
theorem ty_rep {K : KM} {H : Hp} {d : D} {v : V} (r : Rep K H d v) (ok : tyOk d = true) (t : Ty) : ∃ u, TyX K H v u ∧ PySem.W.kitOne K u (.type (tyN t)) = some (isTy d t) := by
  have tup : ∀ {a : Addr} {vs : List V}, SqT K H a vs → TyX K H (.ref a) (.type "tuple") := fun h => by
    rcases h with (h | ⟨o, h⟩) | ⟨o, its, n, h, hc, _⟩
    · exact .base (.tup h)
    · exact .fTuple h
    · exact .kTuple h hc
  have lst : ∀ {a : Addr} {vs : List V}, SqL K H a vs → TyX K H (.ref a) (.type "list") := fun h => by
    rcases h with (h | ⟨o, h⟩) | ⟨o, its, n, h, hc, _⟩
    · exact .base (.lst h)
    · exact .base (.frz h)
    · exact .kList h hc
  cases r with
  | non => exact ⟨_, .base .non, by cases t <;> first | exact kit_ty (show kitB _ _ = some true by decide +kernel) | exact kit_ty (show kitB _ _ = some false by decide +kernel)⟩
  | bl => exact ⟨_, .base (.bl _), by cases t <;> first | exact kit_ty (show kitB _ _ = some true by decide +kernel) | exact kit_ty (show kitB _ _ = some false by decide +kernel)⟩
  | int => exact ⟨_, .base (.int _), by cases t <;> first | exact kit_ty (show kitB _ _ = some true by decide +kernel) | exact kit_ty (show kitB _ _ = some false by decide +kernel)⟩
  | str => exact ⟨_, .base (.str _), by cases t <;> first | exact kit_ty (show kitB _ _ = some true by decide +kernel) | exact kit_ty (show kitB _ _ = some false by decide +kernel)⟩
  | tup h _ => exact ⟨_, tup (SqT.of h), by cases t <;> first | exact kit_ty (show kitB _ _ = some true by decide +kernel) | exact kit_ty (show kitB _ _ = some false by decide +kernel)⟩
  | lst h _ => exact ⟨_, .base (.lst h), by cases t <;> first | exact kit_ty (show kitB _ _ = some true by decide +kernel) | exact kit_ty (show kitB _ _ = some false by decide +kernel)⟩
  | tup0 h => exact ⟨_, tup h, by cases t <;> first | exact kit_ty (show kitB _ _ = some true by decide +kernel) | exact kit_ty (show kitB _ _ = some false by decide +kernel)⟩
  | obj _ _ _ _ => cases ok
  | dic _ _ _ _ => cases ok
  | fn _ => cases ok
  | exc => cases ok
  | ro h _ => exact ⟨_, lst h, by cases t <;> first | exact kit_ty (show kitB _ _ = some true by decide +kernel) | exact kit_ty (show kitB _ _ = some false by decide +kernel)⟩
theorem e_isi {y : Str} {t : Ty} (hg : Gl X ("isinstance" : Str)) (hm : X.mg ("isinstance" : Str) = none) (hgt : Gl X y) (hmt : X.mg y = none) (hv : bootBuiltins y = some (.type (tyN t))) (hk : k.K = X.K) (ha : PE X e (dE k W f))
    (hs : starEach [e, .Name y p2] X.env = (false, eval e X.env) :: starEach [.Name y p2] X.env := by rfl) (hs2 : starEach [.Name y p2] X.env = (false, eval (.Name y p2) X.env) :: starEach [] X.env := by rfl) (hpl : (backTo pos (starEach [.Name y p2] X.env)).any (·.1) = false := by rfl)
    (hn : y ≠ "__name__" := by decide) (hd : (y == ("__debug__" : Str)) = false := by decide) : PE X (.Call (.Name ("isinstance" : Str) p) [e, .Name y p2] [] pos) (dE k W (fIsi f t)) :=
  pe_weak (pe_callB call_isi hg hm (by decide +kernel) (pa_cons ha (pa_cons (pe_bltn hgt hmt hv (show RelV (.ty (tyN t)) _ from rfl) hn hd) pa_nil hs2) hs) (by decide) (by decide) hs hpl) fun σ H Q ⟨G, μ, F, st, σd, S, R, h⟩ => by
    refine ⟨G, μ, F, st, σd, S, R, (Post.bind h).mono fun x st1 μ1 F1 H1 e1 S1 h1 v rv => ?_⟩
    obtain ⟨z, q1, h2⟩ := h1.of
    cases q : x.view st1 with
    | none => rw [q] at q1; cases q1
    | some d =>
      rw [q] at q1
      have q1' : (if tyOk d = true then some (A.v (.bl (isTy d t))) else none) = some z := q1
      split at q1'
      case isFalse => cases q1'
      rename_i hok
      cases q1'
      obtain ⟨u, hu, hkk⟩ := ty_rep (view_rep S1 rv q) hok t
      rw [hk] at hu hkk
      exact ⟨v, .ty (tyN t), u, _, _, rfl, .ty _, hu, hkk, h2 μ1 F1 H1 (Ext.refl _ _) S1 _ Rep.bl⟩

/-! list(range(n)) -/
theorem cr_range1 : CallR X (.type "range") (fun vs H Q => ∃ j, vs = [V.int j] ∧ ∀ p, H p = none → Q (.ref p) (upd H p (.rng 0 j))) := by
  rintro pins s σ H vs us Q I r ⟨j, rfl, q⟩
  obtain ⟨u1, rfl, t, rfl⟩ := vals1 r
  refine call_range_1 ⟨.ref s.heap.objs.size, upd H s.heap.objs.size (.rng 0 j), ?_, rfl, q _ (I.hok.fresh (Nat.le_refl _))⟩
  refine I.laid (fun _ _ => Heap.get?_push_of_some _) (Nat.le_refl _) ⟨_, _, _, Heap.get?_push_size _ rfl⟩
theorem call_listR (hc : X.calm = true) : CallR X (.type "list") (fun vs H Q => ∃ p j, vs = [V.ref p] ∧ H p = some (.rng 0 j) ∧ -(2 ^ 62) ≤ j ∧ j ≤ 16777216 ∧ ∀ l, H l = none → Q (.ref l) (upd H l (.lst ((List.range j.toNat).map fun i => V.int (i : Nat))))) := by
  rintro pins s σ H vs us Q I r ⟨p, j, rfl, hp, h1, h2, q⟩
  obtain ⟨u1, rfl, ru⟩ := vals1 r
  cases ru
  obtain ⟨t, u, v, hg⟩ := I.hok p _ hp
  have hsz : Builtin.Range.rangeSize 0 j 1 = (j.toNat : Int) := by
    rw [rangeSize_one]
    split <;> omega
  refine call_list_range (n := j.toNat) (I.ok.hd hc) hg (small_one (by omega) (by omega) h1 (by omega)) hsz (by omega) fun h' tk acc c' kp hn it => ?_
  obtain ⟨i1, i2⟩ := it
  have vv : Vals ((List.range j.toNat).map fun i => V.int (i : Nat)) acc.toList := by
    have go : ∀ (m : Nat) (l : List Value) (o : Nat), l.length = m → (∀ i z, l[i]? = some z → ∃ t, z = Value.int (((o + i : Nat)) : Int) t) → Vals ((List.range' o m).map fun i => V.int (i : Nat)) l := by
      intro m
      induction m with
      | zero => intro l o hl _; cases l with
        | nil => exact .nil
        | cons _ _ => cases hl
      | succ m ih => intro l o hl hz; cases l with
        | nil => cases hl
        | cons y r =>
          rw [List.range'_succ, List.map_cons]
          refine .cons ?_ (ih r (o + 1) (by simpa using hl) fun i z hi => ?_)
          · obtain ⟨t, e⟩ := hz 0 y rfl
            exact ⟨t, e⟩
          · obtain ⟨t, e⟩ := hz (i + 1) z (by simpa using hi)
            exact ⟨t, by rw [e]; congr 2; omega⟩
    rw [List.range_eq_range']
    refine go _ _ _ (by simpa using i1) fun i z hi => ?_
    obtain ⟨t, e⟩ := i2 i z (by simpa using hi)
    exact ⟨t, by rw [e]; congr 1; omega⟩
  refine ⟨.ref s.heap.objs.size, _, I.laid (t' := tk) (o := .lst ((List.range j.toNat).map fun i => V.int (i : Nat))) kp (Nat.le_refl _) ?_, rfl, q _ (I.hok.fresh (Nat.le_refl _))⟩
  exact ⟨by rw [List.length_map, List.length_range, sizeLine_eq]; omega, acc.toList, c', vv, by simpa using hn⟩
theorem range_areps {K : KM} {μ : List Addr} {F : Hp} : ∀ (n o : Nat), AReps K μ F (rangeA (o : Nat) n) ((List.range' o n).map fun i => V.int (i : Nat))
  | 0, _ => .nil
  | n + 1, o => by
    have e : rangeA (o : Nat) (n + 1) = .v (.int o) :: rangeA ((o + 1 : Nat) : Int) n := by
      show A.v (D.int o) :: rangeA ((o : Int) + 1) n = _
      rw [show ((o : Int) + 1) = ((o + 1 : Nat) : Int) by omega]
    rw [e, List.range'_succ, List.map_cons]
    exact .cons Rep.int (range_areps n (o + 1))
theorem l_range1 (hc : X.calm = true) (hg : Gl X ("list" : Str)) (hm : X.mg ("list" : Str) = none) (hgr : Gl X ("range" : Str)) (hmr : X.mg ("range" : Str) = none) (ha : PE X e (dE k W f))
    (hs : starEach [e] X.env = (false, eval e X.env) :: starEach [] X.env := by rfl) (hpl : (backTo pos2 (starEach [] X.env)).any (·.1) = false := by rfl)
    (hs2 : starEach [.Call (.Name ("range" : Str) p2) [e] [] pos2] X.env = (false, eval (.Call (.Name ("range" : Str) p2) [e] [] pos2) X.env) :: starEach [] X.env := by rfl) (hpl2 : (backTo pos (starEach [] X.env)).any (·.1) = false := by rfl) :
    PE X (.Call (.Name ("list" : Str) p) [.Call (.Name ("range" : Str) p2) [e] [] pos2] [] pos) (dL k W (lRange1 f)) :=
  pe_weak (pe_callTy (call_listR hc) hg hm (by decide +kernel) (pa_cons (pe_callTy cr_range1 hgr hmr (by decide +kernel) (pa_cons ha pa_nil hs) (by decide) (by decide) hs hpl) pa_nil hs2) (by decide) (by decide) hs2 hpl2) fun σ H Q ⟨G, μ, F, st, σd, S, R, h⟩ => by
    refine ⟨G, μ, F, st, σd, S, R, (Post.bind h).mono fun x st1 μ1 F1 H1 e1 S1 h1 v rv => ?_⟩
    cases x with
    | ref n => exact h1.elim
    | v d =>
      cases d with
      | int j =>
        cases rv
        dsimp only at h1
        unfold gd at h1
        split at h1
        · rename_i q
          refine ⟨j, rfl, fun pp hp => ⟨pp, j, rfl, upd_same, q.1.1, q.2, fun l hl => ?_⟩⟩
          have S2 := S1.heap (o := .rng 0 j) hp
          rw [List.range_eq_range']
          exact new_run S2 (range_areps _ 0) hl h1
        · exact h1.elim
      | _ => exact h1.elim
end
end Dn

set_option linter.all false
set_option Elab.async false
set_option maxRecDepth 100000
/-! Ops3: enumerate and zip of lists and tuples, range of three, sorted pairs. -/
namespace Dn
open PySem PySem.Spec PyProof.Rows L2

/-! lists or tuples (true) -/
def SqB (K : PySem.W.Frag) (H : Hp) (b : Bool) (a : Addr) (xs : List V) : Prop := match b with
  | true => SqT K H a xs
  | false => SqL K H a xs
def ItB (h : Heap) (b : Bool) (it a : Addr) (i : Nat) : Prop := match b with
  | true => h.IsTupleIter it a i
  | false => h.IsListIter it a i
def VsB (h : Heap) (b : Bool) (a : Addr) (xs : Array Value) : Prop := match b with
  | true => h.IsTuple a xs
  | false => h.IsList a xs
theorem drawsB {prog : Program} {w : World} {A : Around} (hh : A.handled = none) (b : Bool) (it t : Addr) (hne : t ≠ it) (items : Array Value) :
    Draws prog w A it [it, t] items.size (fun i v => items[i]? = some v) (fun i h => ItB h b it t i ∧ VsB h b t items) := by
  cases b with
  | true => exact Draws.tuple hh it t hne items
  | false => exact Draws.list hh it t hne items
def objB (b : Bool) (a : Addr) : Obj := match b with
  | true => { cls := .type "tuple_iterator", data := .fields #[.ref a, .int 0 0] }
  | false => { cls := .type "list_iterator", data := .fields #[.ref a, .int 0 0] }
theorem beginsB (b : Bool) (a : Addr) (items : Array Value) : Begins (.ref a) (objB b a) fun h => VsB h b a items := by
  cases b with
  | true => exact begins_tuple a items
  | false => exact begins_list a items
theorem itB_new {h : Heap} {b : Bool} {it a : Addr} (e : h.get? it = some (objB b a)) : ItB h b it a 0 := by
  cases b with
  | true => exact ⟨_, e, rfl, rfl⟩
  | false => exact ⟨_, e, rfl, rfl⟩
theorem ItB.obj {h : Heap} {b : Bool} {it a : Addr} {i : Nat} (s : ItB h b it a i) : ∃ o, h.get? it = some o ∧ ∀ v, o.data ≠ .cell v := by
  cases b with
  | true =>
    obtain ⟨o, e, _, d⟩ := s
    exact ⟨o, e, fun v q => by rw [d] at q; cases q⟩
  | false =>
    obtain ⟨o, e, _, d⟩ := s
    exact ⟨o, e, fun v q => by rw [d] at q; cases q⟩
theorem ItB.at {h h' : Heap} {b : Bool} {it a : Addr} {i : Nat} (s : ItB h b it a i) (e : ∀ o, h.get? it = some o → h'.get? it = some o) : ItB h' b it a i := by
  cases b with
  | true => exact Heap.IsTupleIter.at s e
  | false => exact Heap.IsListIter.at s e
section
variable {X : Cx} {pins : List (Addr × Obj)} {σ : St} {H : Hp} {s : Shared}
theorem seqB (I : Inv X pins σ H s) {b : Bool} {a : Addr} {xs : List V} (h : SqB X.K H b a xs) : ∃ its : List Value, Vals xs its ∧ VsB s.heap b a its.toArray := by
  cases b with
  | true =>
    obtain ⟨its, r, p, _⟩ := I.tuple h
    exact ⟨its, r, p⟩
  | false =>
    obtain ⟨its, r, p, _⟩ := I.list h
    exact ⟨its, r, p.isList⟩
theorem seqB_inj (I : Inv X pins σ H s) {b : Bool} {a : Addr} {xs ys : List V} (h : SqB X.K H b a xs) (h' : SqB X.K H b a ys) : xs = ys := by
  cases b with
  | true => exact I.tuple_inj h h'
  | false => exact I.list_inj h h'
end
theorem VsB.lt {h : Heap} {b : Bool} {a : Addr} {xs : Array Value} (v : VsB h b a xs) : a < h.objs.size := by
  cases b with
  | true =>
    obtain ⟨o, e, _⟩ := v
    exact Heap.lt_size e
  | false =>
    obtain ⟨o, e, _⟩ := v
    exact Heap.lt_size e
theorem Same.sqB {K : PySem.W.Frag} {H H' : Hp} {b : Bool} {a : Addr} {xs : List V} (e : Same H H') (h : SqB K H b a xs) : SqB K H' b a xs := by
  cases b with
  | true => exact Same.tup e h
  | false => exact e.seq h

/-! enumerate -/
def IteB (K : PySem.W.Frag) (b : Bool) (a : Addr) : It :=
  ⟨fun i H => ∃ (xs : List V) (x : V), SqB K H b a xs ∧ xs[i]? = some x, fun i H v H' => ∃ T x, v = .ref T ∧ H T = none ∧ H' = upd H T (.tup [.int (i : Nat), x]) ∧ ∀ xs, SqB K H b a xs → xs[i]? = some x, fun i H => ∃ xs : List V, SqB K H b a xs ∧ i = xs.length⟩
theorem turn_enumB {P : Program} {w : World} {K : PySem.W.Frag} {elts : List Expr} {kk : Nat} {tpos : Pos} (b : Bool) (a e it : Addr) :
    Turn P w K (.Tuple elts kk tpos) (IteB K b a) [e, it] e (fun i h => (∃ old, IsEnum h e it ((i : Nat) : Int) old) ∧ ItB h b it a i ∧ e ≠ it ∧ e ≠ a ∧ a ≠ it) where
  mem := by simp
  obj := fun i h st c hb => by
    obtain ⟨⟨old, he⟩, hi, _⟩ := st
    have e' : c = e ∨ c = it := by simpa using hb
    rcases e' with z | z
    · rw [z]; exact ⟨_, he, fun v q => nomatch q⟩
    · rw [z]; exact hi.obj
  keep := fun i h h' st k => let ⟨⟨old, he⟩, hi, hne⟩ := st; ⟨⟨old, k e (by simp) _ he⟩, hi.at fun o q => k it (by simp) o q, hne⟩
  item := by
    intro X hP hw hK hc i pins s σ H E I hf st hg
    subst hP hw hK
    obtain ⟨⟨old, he⟩, hit, hne, hea, hai⟩ := st
    obtain ⟨xs, x, hq, hx⟩ := hg
    obtain ⟨its, rv, p⟩ := seqB I hq
    obtain ⟨u, hu, ru⟩ := rv.get hx
    have hel : e < s.heap.objs.size := Heap.lt_size he
    have hil : it < s.heap.objs.size := by obtain ⟨_, q, _⟩ := hit.obj; exact Heap.lt_size q
    have hlt : i < its.toArray.size := by
      rw [List.size_toArray]
      exact (List.getElem?_eq_some_iff.mp hu).1
    refine wpAny_pyNext_enum_itemD (drawsB (show X.A.in1.handled = none from I.ok.hd hc) b it a hai its.toArray) he ⟨hit, p⟩ hlt hne (by simp [hne, hea]) fun x' h' tk hx' ho hst' hT hsz hk => ?_
    have ex : x' = u := by
      have e1 : its[i]? = some x' := by simpa using hx'
      rw [hu] at e1; cases e1; rfl
    subst ex
    refine ⟨_, rfl, wpAny_letOwnedTupleGo_enum (s := { s with heap := h', toks := tk + 1 }) ho fun h'' he' sb => ?_⟩
    have hT2 : h''.get? s.heap.objs.size = some { cls := .type "tuple", data := .seq #[.int i tk, x'] } := (sb.2 _ (Nat.ne_of_gt hel)).trans hT
    have new : ObjOk X.prog X.w (upd H s.heap.objs.size (.tup [.int (i : Nat), x])) h'' s.heap.objs.size (.tup [.int (i : Nat), x]) :=
      ⟨by show 2 ≤ sizeLine; decide, [.int i tk, x'], .cons ⟨_, rfl⟩ (.cons ru .nil), ⟨_, hT2, rfl, _, rfl⟩⟩
    have I1 : Inv X pins σ (upd H s.heap.objs.size (.tup [.int (i : Nat), x])) { s with heap := h'', toks := tk + 1 } :=
      I.turnedNew (ch := [e, it]) (fun c ob hb q => (sb.2 c (fun z => hb (by simp [z]))).trans (hk c ob (fun z => hb (by simp [z])) (fun z => hb (by simp [z])) q)) hf (Nat.le_refl _) new
    refine ⟨.ref s.heap.objs.size, _, I1, rfl, ⟨_, x, rfl, I.hok.fresh (Nat.le_refl _), rfl, fun ys hy => by rw [seqB_inj I hy hq]; exact hx⟩, ⟨⟨x', ?_⟩, hst'.1.at fun o q => (sb.2 it (Ne.symm hne)).trans q, hne, hea, hai⟩, fun c hb => ?_⟩
    · have e1 : ((i + 1 : Nat) : Int) = (i : Int) + 1 := by omega
      rw [e1]; exact he'
    · have hb' : c < s.heap.objs.size := by
        have e' : c = e ∨ c = it := by simpa using hb
        rcases e' with z | z
        · rw [z]; exact hel
        · rw [z]; exact hil
      rw [upd_ne (Nat.ne_of_lt hb')]
      exact (hf c hb).1
  done := by
    intro X hP hw hK hc i pins s σ H E I hf st hg
    subst hP hw hK
    obtain ⟨⟨old, he⟩, hit, hne, hea, hai⟩ := st
    obtain ⟨xs, hq, hx⟩ := hg
    obtain ⟨f0, f1, f2, f3, f4, f5⟩ := hf it (by simp)
    obtain ⟨its, rv, p⟩ := seqB I hq
    have hl : i = its.toArray.size := by
      rw [List.size_toArray, ← rv.length]
      exact hx
    subst hl
    exact wpAny_pyNext_enum_endD (drawsB (show X.A.in1.handled = none from I.ok.hd hc) b it a hai its.toArray) he ⟨hit, p⟩ fun h' eb => ⟨rfl, I.turned (t' := s.toks) (fun b o hb q => eb b o hb q) f0 f1 f3 f4 f5⟩
  self := fun A i s Q E st h => let ⟨⟨_, he⟩, _⟩ := st; wpAny_pyIter_enum he h

set_option maxHeartbeats 1000000 in
theorem meets_enumB {v : Value} {o : Obj} {H : Heap → Prop} (B : Begins v o H) :
    Meets (Builtin.«enumerate.__new__» ⟨[.type "enumerate", v], []⟩) (fun _ R s => H s.heap ∧
      R (.ok (.ret (.ref (s.heap.push o).objs.size))) { s with heap := (s.heap.push o).push { cls := .type "enumerate", data := .fields #[.none, .bool false, .ref s.heap.objs.size, rawInt 0, .none, .none] } }) :=
  .of_wp fun prog w A R s h => by
    obtain ⟨hp, g, d, tk, os⟩ := s; obtain ⟨h1, h⟩ := h
    have hsub := sub_enumerate
    have q1 : ∀ {A' : Around} {E : Value → Shared → Prop} {Q : Value → Shared → Prop}, Q (.ref hp.objs.size) ⟨hp.push o, g, d, tk, os⟩ → wpAny (model prog w) A' (pyIter v) Q E ⟨hp, g, d, tk, os⟩ :=
      fun q => B.iter prog w _ _ ⟨hp, g, d, tk, os⟩ _ h1 q
    wp_walk using q1
    refine wpAny_stack_any fun st => wpAny_pure ?_
    split
    · rename_i c _ _ _ _ _
      cases (c == Value.type "enumerate")
      · wp_walk using q1
        exact ⟨_, rfl, h⟩
      · wp_walk using q1
        exact ⟨_, rfl, h⟩
    · wp_walk using q1
      exact ⟨_, rfl, h⟩
section
variable {prog : Program} {w : World} {A : Around} {E : Value → Shared → Prop} {s : Shared}
theorem call_enumB {v : Value} {o : Obj} {H : Heap → Prop} {Q : Value → Shared → Prop} (B : Begins v o H) (h1 : H s.heap)
    (h : ∀ h', IsEnum h' (s.heap.objs.size + 1) s.heap.objs.size 0 .none → h'.get? s.heap.objs.size = some o →
      (∀ b o, s.heap.get? b = some o → h'.get? b = some o) → Q (.ref (s.heap.objs.size + 1)) { s with heap := h' }) :
    wpAny (model prog w) A (call (.type "enumerate") [v]) Q E s := by
  refine callType_new F.called_enumerate (by decide) (F.typeCall_enumerate_1 _) (F.newCall_enumerate_1 _) (fun obj => F.args_object_init_2 obj _) F.entry_enumerate_new
    (meets_enumB B) ⟨h1, ?_⟩
  have hz : (s.heap.push o).objs.size = s.heap.objs.size + 1 := Heap.size_push ..
  show _ ∧ _
  rw [hz]
  have he : IsEnum ((s.heap.push o).push { cls := .type "enumerate", data := .fields #[.none, .bool false, .ref s.heap.objs.size, rawInt 0, .none, .none] }) (s.heap.objs.size + 1) s.heap.objs.size 0 .none := by
    have := Heap.get?_push_size (s.heap.push o) (o := { cls := .type "enumerate", data := .fields #[.none, .bool false, .ref s.heap.objs.size, rawInt 0, .none, .none] }) rfl
    rw [hz] at this; exact this
  refine ⟨⟨_, he, rfl⟩, h _ he (Heap.get?_push_of_some _ (Heap.get?_push_size _ B.free)) fun b o x => Heap.get?_push_of_some _ (Heap.get?_push_of_some _ x)⟩
end
def iEnumB (K : PySem.W.Frag) (ta : TA) : TI := fun σ H R => ta σ H fun vs H1 => ∃ b a xs, vs = [.ref a] ∧ SqB K H1 b a xs ∧ R (IteB K b a) H1
theorem pi_enumB {X : Cx} {e : Expr} {ta : TA} {p pos tpos : Pos} {elts : List Expr} {kk : Nat} (hg : Gl X "enumerate") (hm : X.mg "enumerate" = none) (ha : PA X [e] ta) (hs : starEach [e] X.env = [(false, eval e X.env)] := by rfl) :
    PI X (.Tuple elts kk tpos) (.Call (.Name "enumerate" p) [e] [] pos) (iEnumB X.K ta) := by
  refine ⟨fun pins s σ H R I h => ?_⟩
  refine Call_ (ld_blt I hg hm boot_enumerate (PyProof.Rows.callWith_type1 (thn (ha.run pos pins s σ H _ I h) fun us s1 ⟨vs, H1, I1, r1, q1⟩ => ?_) hs rfl))
  obtain ⟨b, a, xs, ex, hq, q⟩ := q1
  subst ex
  cases r1 with
  | cons r rr =>
    cases rr
    cases r
    obtain ⟨its, rv, p'⟩ := seqB I1 hq
    have hal := p'.lt
    refine call_enumB (beginsB b a its.toArray) p' fun h' he hit hk => wpAny_pyIter_enum he ?_
    have I2 : Inv X pins σ H1 { s1 with heap := h' } := I1.kept (t' := s1.toks) hk
    refine ⟨s1.heap.objs.size + 1, [s1.heap.objs.size + 1, s1.heap.objs.size], _, _, H1, rfl, I2, turn_enumB b a (s1.heap.objs.size + 1) s1.heap.objs.size, ⟨⟨.none, he⟩, itB_new hit, Nat.succ_ne_self _, Nat.ne_of_gt (Nat.lt_succ_of_lt hal), Nat.ne_of_lt hal⟩, fun c hb => ?_, q⟩
    have e' : c = s1.heap.objs.size + 1 ∨ c = s1.heap.objs.size := by simpa using hb
    have hle : s1.heap.objs.size ≤ c := by
      rcases e' with z | z
      · rw [z]; exact Nat.le_add_right _ _
      · rw [z]; exact Nat.le_refl _
    exact I1.fpOk hle (I1.hok.fresh hle)

/-! zip of two -/
def ItzB (K : PySem.W.Frag) (b1 b2 : Bool) (a b : Addr) : It :=
  ⟨fun i H => ∃ (xs ys : List V) (x y : V), SqB K H b1 a xs ∧ SqB K H b2 b ys ∧ xs[i]? = some x ∧ ys[i]? = some y,
    fun i H v H' => ∃ T x y, v = .ref T ∧ H T = none ∧ H' = upd H T (.tup [x, y]) ∧ (∀ xs, SqB K H b1 a xs → xs[i]? = some x) ∧ ∀ ys, SqB K H b2 b ys → ys[i]? = some y,
    fun i H => ∃ xs ys : List V, SqB K H b1 a xs ∧ SqB K H b2 b ys ∧ i ≤ xs.length ∧ i ≤ ys.length ∧ (i = xs.length ∨ i = ys.length)⟩
theorem turn_zipB {P : Program} {w : World} {K : PySem.W.Frag} {elts : List Expr} {kk : Nat} {tpos : Pos} {b1 b2 : Bool} {a b z TI TO i1 i2 : Addr} (D : ZipSep2 z TI TO i1 i2 [i1, a] [i2, b]) (n1 : a ≠ i1) (n2 : b ≠ i2) :
    Turn P w K (.Tuple elts kk tpos) (ItzB K b1 b2 a b) [z, TI, TO, i1, i2] z (fun i h => IsZip h z TI TO .none ∧ IsTupOf2 h TI (.ref i1) (.ref i2) ∧ (∃ x y, IsTupOf2 h TO x y) ∧ ItB h b1 i1 a i ∧ ItB h b2 i2 b i) where
  mem := by simp
  obj := fun i h st c hc => by
    obtain ⟨hz, hTI, ⟨x, y, hTO⟩, h1, h2⟩ := st
    have e' : c = z ∨ c = TI ∨ c = TO ∨ c = i1 ∨ c = i2 := by simpa using hc
    rcases e' with q | q | q | q | q
    · rw [q]; exact ⟨_, hz, fun v q => nomatch q⟩
    · rw [q]; exact ⟨_, hTI, fun v q => nomatch q⟩
    · rw [q]; exact ⟨_, hTO, fun v q => nomatch q⟩
    · rw [q]; exact h1.obj
    · rw [q]; exact h2.obj
  keep := fun i h h' st k => by
    obtain ⟨hz, hTI, ⟨x, y, hTO⟩, h1, h2⟩ := st
    exact ⟨k z (by simp) _ hz, k TI (by simp) _ hTI, ⟨x, y, k TO (by simp) _ hTO⟩, h1.at fun o q => k i1 (by simp) o q, h2.at fun o q => k i2 (by simp) o q⟩
  item := by
    intro X hP hw hK hc i pins s σ H E I hf st hg
    subst hP hw hK
    obtain ⟨hz, hTI, ⟨x0, y0, hTO⟩, h1, h2⟩ := st
    obtain ⟨xs, ys, x, y, hqx, hqy, hx, hy⟩ := hg
    obtain ⟨its, rv, p⟩ := seqB I hqx
    obtain ⟨its2, rv2, p2⟩ := seqB I hqy
    obtain ⟨u, hu, ru⟩ := rv.get hx
    obtain ⟨u2, hu2, ru2⟩ := rv2.get hy
    have hzl : z < s.heap.objs.size := Heap.lt_size hz
    have hh : X.A.in1.handled = none := I.ok.hd hc
    refine wpAny_pyNext_zipD2_item D (drawsB hh b1 i1 a n1 its.toArray) (drawsB hh b2 i2 b n2 its2.toArray) hz hTI hTO ⟨h1, p⟩ ⟨h2, p2⟩
      (by rw [List.size_toArray]; exact (List.getElem?_eq_some_iff.mp hu).1) (by rw [List.size_toArray]; exact (List.getElem?_eq_some_iff.mp hu2).1) fun w1 w2 h' tk hw1 hw2 z' TO' s1' s2' hT hsz hk => ?_
    have ex : w1 = u := by
      have e1 : its[i]? = some w1 := by simpa using hw1
      rw [hu] at e1; cases e1; rfl
    have ey : w2 = u2 := by
      have e1 : its2[i]? = some w2 := by simpa using hw2
      rw [hu2] at e1; cases e1; rfl
    subst ex ey
    refine ⟨_, rfl, wpAny_letOwnedTupleGo_zip (s := { s with heap := h', toks := tk }) z' fun h'' z'' sb => ?_⟩
    have hT2 : h''.get? s.heap.objs.size = some { cls := .type "tuple", data := .seq #[w1, w2] } := (sb.2 _ (Nat.ne_of_gt hzl)).trans hT
    have new : ObjOk X.prog X.w (upd H s.heap.objs.size (.tup [x, y])) h'' s.heap.objs.size (.tup [x, y]) :=
      ⟨by show 2 ≤ sizeLine; decide, [w1, w2], .cons ru (.cons ru2 .nil), ⟨_, hT2, rfl, _, rfl⟩⟩
    have I1 : Inv X pins σ (upd H s.heap.objs.size (.tup [x, y])) { s with heap := h'', toks := tk } :=
      I.turnedNew (t' := tk) (ch := [z, TI, TO, i1, i2]) (fun c o hb q => (sb.2 c (fun q' => hb (by simp [q']))).trans (hk c o (fun q' => hb (by simp [q'])) (fun q' => hb (by simp [q'])) (fun q' => hb (by simp [q'])) (fun q' => hb (by simp [q'])) q)) hf (Nat.le_refl _) new
    refine ⟨.ref s.heap.objs.size, _, I1, rfl, ⟨_, x, y, rfl, I.hok.fresh (Nat.le_refl _), rfl, fun l hl => by rw [seqB_inj I hl hqx]; exact hx, fun l hl => by rw [seqB_inj I hl hqy]; exact hy⟩, ⟨z'', ?_, ⟨w1, w2, ?_⟩, ?_, ?_⟩, fun c hcm => ?_⟩
    · exact (sb.2 _ D.TIz).trans (hk _ _ D.TIz D.TITO D.TIi1 D.TIi2 hTI)
    · exact (sb.2 _ D.TOz).trans TO'
    · exact s1'.1.at fun o q => (sb.2 _ D.zi1.symm).trans q
    · exact s2'.1.at fun o q => (sb.2 _ D.zi2.symm).trans q
    · have hlt : c < s.heap.objs.size := by
        have e' : c = z ∨ c = TI ∨ c = TO ∨ c = i1 ∨ c = i2 := by simpa using hcm
        rcases e' with q | q | q | q | q
        · rw [q]; exact hzl
        · rw [q]; exact Heap.lt_size hTI
        · rw [q]; exact Heap.lt_size hTO
        · rw [q]; obtain ⟨_, e1, _⟩ := h1.obj; exact Heap.lt_size e1
        · rw [q]; obtain ⟨_, e2, _⟩ := h2.obj; exact Heap.lt_size e2
      rw [upd_ne (Nat.ne_of_lt hlt)]
      exact (hf c hcm).1
  done := by
    intro X hP hw hK hc i pins s σ H E I hf st hg
    subst hP hw hK
    obtain ⟨hz, hTI, ⟨x0, y0, hTO⟩, h1, h2⟩ := st
    obtain ⟨xs, ys, hqx, hqy, l1, l2, hend⟩ := hg
    obtain ⟨its, rv, p⟩ := seqB I hqx
    obtain ⟨its2, rv2, p2⟩ := seqB I hqy
    have m1 := rv.length
    have m2 := rv2.length
    have hh : X.A.in1.handled = none := I.ok.hd hc
    exact wpAny_pyNext_zipD2_end D (drawsB hh b1 i1 a n1 its.toArray) (drawsB hh b2 i2 b n2 its2.toArray) hz hTI hTO ⟨h1, p⟩ ⟨h2, p2⟩ (by rw [List.size_toArray]; omega) (by rw [List.size_toArray]; omega)
      (by rw [List.size_toArray, List.size_toArray]; omega) fun h' tk hk => ⟨rfl, I.turnedL (t' := tk) (ch := [z, TI, TO, i1, i2]) (fun c o hb q =>
      hk c o (fun q' => hb (by simp [q'])) (fun q' => hb (by simp [q'])) (fun q' => hb (by simp [q'])) (fun q' => hb (by simp [q'])) q) hf⟩
  self := fun A i s Q E st h => wpAny_pyIter_zip st.1 h
def iZipB (K : PySem.W.Frag) (ta : TA) : TI := fun σ H R => ta σ H fun vs H1 => ∃ b1 b2 a b xs ys, vs = [.ref a, .ref b] ∧ SqB K H1 b1 a xs ∧ SqB K H1 b2 b ys ∧ R (ItzB K b1 b2 a b) H1
theorem pi_zipB {X : Cx} {e e2 : Expr} {ta : TA} {p pos tpos : Pos} {elts : List Expr} {kk : Nat} (hg : Gl X "zip") (hm : X.mg "zip" = none) (ha : PA X [e, e2] ta)
    (hs : starEach [e, e2] X.env = (false, eval e X.env) :: starEach [e2] X.env := by rfl) (hpl : (backTo pos (starEach [e2] X.env)).any (·.1) = false := by rfl) :
    PI X (.Tuple elts kk tpos) (.Call (.Name "zip" p) [e, e2] [] pos) (iZipB X.K ta) := by
  refine ⟨fun pins s σ H R I h => ?_⟩
  refine Call_ (ld_blt I hg hm PyProof.Rows.boot_zip (PyProof.Rows.callWith_type1 (thn (ha.run pos pins s σ H _ I h) fun us s1 ⟨vs, H1, I1, r1, q1⟩ => ?_) hs hpl))
  obtain ⟨b1, b2, a, b, xs, ys, ex, hqx, hqy, q⟩ := q1
  subst ex
  cases r1 with
  | cons r rr =>
    cases rr with
    | cons r' rr =>
      cases rr
      cases r
      cases r'
      obtain ⟨its, rv, p1⟩ := seqB I1 hqx
      obtain ⟨its2, rv2, p2⟩ := seqB I1 hqy
      have la := p1.lt
      have lb := p2.lt
      refine zip_begins2 (beginsB b1 a its.toArray) (beginsB b2 b its2.toArray) p1 p2 fun h' hz hTI hTO h1 h2 hsz hk => wpAny_pyIter_zip hz ?_
      have I2 : Inv X pins σ H1 { s1 with heap := h' } := I1.kept (t' := s1.toks) hk
      refine ⟨s1.heap.objs.size + 4, [s1.heap.objs.size + 4, s1.heap.objs.size + 2, s1.heap.objs.size + 3, s1.heap.objs.size, s1.heap.objs.size + 1], _, _, H1, rfl, I2,
        turn_zipB (zip_sep2 (fp1 := [a]) (fp2 := [b]) (by simpa using la) (by simpa using lb)) (Nat.ne_of_lt la) (Nat.ne_of_lt (Nat.lt_succ_of_lt lb)), ⟨hz, hTI, ⟨_, _, hTO⟩, itB_new h1, itB_new h2⟩, fun c hcm => ?_, q⟩
      have e' : c = s1.heap.objs.size + 4 ∨ c = s1.heap.objs.size + 2 ∨ c = s1.heap.objs.size + 3 ∨ c = s1.heap.objs.size ∨ c = s1.heap.objs.size + 1 := by simpa using hcm
      have hle : s1.heap.objs.size ≤ c := by
        rcases e' with z | z | z | z | z
        · rw [z]; exact Nat.le_add_right _ _
        · rw [z]; exact Nat.le_add_right _ _
        · rw [z]; exact Nat.le_add_right _ _
        · rw [z]; exact Nat.le_refl _
        · rw [z]; exact Nat.le_add_right _ _
      exact I1.fpOk hle (I1.hok.fresh hle)

/-! the rules -/
theorem enumA_len : ∀ (ds : List D) (o : Nat), (enumA o ds).length = ds.length
  | [], _ => rfl
  | d :: r, o => by show (enumA (o + 1) r).length + 1 = _; rw [enumA_len r]; rfl
theorem enumA_get : ∀ (ds : List D) (o i : Nat) (x : A), (enumA o ds)[i]? = some x → ∃ d, ds[i]? = some d ∧ x = .v (.tup [.int ((o + i : Nat) : Int), d])
  | [], _, i, x, h => by simp [enumA] at h
  | d :: r, o, 0, x, h => by
    have h' : some (A.v (.tup [.int (o : Nat), d])) = some x := h
    cases h'
    exact ⟨d, rfl, by simp⟩
  | d :: r, o, i + 1, x, h => by
    obtain ⟨d', h1, h2⟩ := enumA_get r (o + 1) i x h
    refine ⟨d', h1, ?_⟩
    rw [h2]
    congr 4
    omega
theorem zipA_len : ∀ (ds es : List D), (zipA ds es).length = min ds.length es.length
  | [], es => by simp [zipA]
  | d :: r, [] => by simp [zipA]
  | d :: r, e :: s => by show (zipA r s).length + 1 = _; rw [zipA_len r s]; simp
theorem zipA_get : ∀ (ds es : List D) (i : Nat) (x : A), (zipA ds es)[i]? = some x → ∃ d e, ds[i]? = some d ∧ es[i]? = some e ∧ x = .v (.tup [d, e])
  | [], es, i, x, h => by simp [zipA] at h
  | d :: r, [], i, x, h => by simp [zipA] at h
  | d :: r, e :: s, 0, x, h => by
    have h' : some (A.v (.tup [d, e])) = some x := h
    cases h'
    exact ⟨d, e, rfl, rfl, rfl⟩
  | d :: r, e :: s, i + 1, x, h => by
    obtain ⟨d', e', h1, h2, h3⟩ := zipA_get r s i x h
    exact ⟨d', e', h1, h2, h3⟩
section
variable {X : Cx} {W : WX} {k : Kx} {a b c e : Expr} {fa fb fc f : EF} {pos p : Pos}
/-- a list or tuple of data, that stands so for the walk -/
theorem seqd_rep {K : KM} {G F H : Hp} {μ : List Addr} {st : Store} (S : Sim K G μ F st H) {x : A} {v : V} {ds : List D} {g : Store → Prop} (r : ARep K μ F x v) (h : x.seqd st = some (ds, g)) :
    ∃ b ad vs, v = .ref ad ∧ SqB K H b ad vs ∧ ∀ G' μ' F' st' H', Ext μ F μ' F' → Sim K G' μ' F' st' H' → g st' → ∃ ws, SqB K H' b ad ws ∧ Reps K F' ds ws := by
  cases x with
  | v d =>
    cases d with
    | lst xs =>
      cases h
      cases r with
      | lst h1 h2 => exact ⟨false, _, _, rfl, SqL.of (S.sub _ _ h1), fun G' μ' F' st' H' e S' _ => ⟨_, SqL.of (S'.sub _ _ (e.2 _ _ h1)), h2.mono e.2⟩⟩
    | tup xs =>
      cases h
      cases r with
      | tup h1 h2 => exact ⟨true, _, _, rfl, SqT.of (S.sub _ _ h1), fun G' μ' F' st' H' e S' _ => ⟨_, SqT.of (S'.sub _ _ (e.2 _ _ h1)), h2.mono e.2⟩⟩
      | tup0 h1 => exact ⟨true, _, _, rfl, Same.tup S.sub h1, fun G' μ' F' st' H' e S' _ => ⟨_, Same.tup S'.sub (Same.tup e.2 h1), .nil⟩⟩
    | ro xs =>
      cases h
      cases r with
      | ro h1 h2 => exact ⟨false, _, _, rfl, S.sub.seq h1, fun G' μ' F' st' H' e S' _ => ⟨_, S'.sub.seq (e.2.seq h1), h2.mono e.2⟩⟩
    | _ => cases h
  | ref n =>
    obtain ⟨y, hy, rfl⟩ := r
    unfold A.seqd at h
    dsimp only at h
    split at h
    · rename_i xs q
      cases q2 : vals xs with
      | none => rw [q2] at h; cases h
      | some es =>
        rw [q2] at h; cases h
        obtain ⟨_, ⟨vs, h2, h3⟩, _⟩ := cell_of S hy q
        refine ⟨false, _, _, rfl, SqL.of h2, fun G' μ' F' st' H' e S' hg => ?_⟩
        obtain ⟨_, ⟨ws, h5, h6⟩, _⟩ := cell_of S' (e.at hy) hg
        exact ⟨ws, SqL.of h5, h6.vals q2⟩
    · rename_i es q
      cases h
      obtain ⟨vs, h2, h3⟩ := cell_of S hy q
      exact ⟨false, _, _, rfl, SqL.of (S.sub _ _ h2), fun G' μ' F' st' H' e S' _ => ⟨_, SqL.of (S'.sub _ _ (e.2 _ _ h2)), h3.mono e.2⟩⟩
    · cases h
theorem i_enum {elts : List Expr} {kk : Nat} {tpos : Pos} (hk : k.K = X.K) (hg : Gl X "enumerate") (hm : X.mg "enumerate" = none) (ha : PE X e (dE k W f)) (hs : starEach [e] X.env = [(false, eval e X.env)] := by rfl) :
    PI X (.Tuple elts kk tpos) (.Call (.Name "enumerate" p) [e] [] pos) (dI k W (iEnum f)) :=
  pi_weak (pi_enumB hg hm (pa_cons ha pa_nil hs) hs) fun σ H Q ⟨G, μ, F, st, σd, S, R, h⟩ => by
    refine ⟨G, μ, F, st, σd, S, R, (Post.bind h).mono fun x st1 μ1 F1 H1 e1 S1 h1 v rv => ?_⟩
    rw [← hk]
    split at h1
    · rename_i ds g q
      obtain ⟨b, ad, vs, rfl, hq, hw⟩ := seqd_rep S1 rv q
      refine ⟨b, ad, vs, rfl, hq, h1 μ1 F1 H1 (Ext.refl _ _) S1 _ fun G' i μ' F' st' H' e' S' hg' => ?_⟩
      obtain ⟨ws, hq', hr⟩ := hw G' μ' F' st' H' e' S' hg'
      refine ⟨fun x hx => ?_, fun hl => ⟨ws, hq', by rw [hl, ← hr.len]; exact enumA_len ds 0⟩⟩
      obtain ⟨d, hd, rfl⟩ := enumA_get ds 0 i x hx
      obtain ⟨u, h7, h8⟩ := hr.get hd
      refine ⟨⟨ws, u, hq', h7⟩, fun w H2 hy => ?_⟩
      obtain ⟨T, x2, rfl, hT, rfl, hxx⟩ := hy
      have hxx' := hxx ws hq'
      rw [h7] at hxx'; cases hxx'
      obtain ⟨S3, x3⟩ := S'.new (o := .tup [.int ((i : Nat) : Int), u]) hT
      exact ⟨_, x3, S3, Rep.tup upd_same (.cons (by rw [Nat.zero_add]; exact .int) (.cons (h8.mono x3.2) .nil))⟩
    · exact h1.elim
theorem i_zip {elts : List Expr} {kk : Nat} {tpos : Pos} (hk : k.K = X.K) (hg : Gl X "zip") (hm : X.mg "zip" = none) (ha : PE X a (dE k W fa)) (hb : PE X b (dE k W fb))
    (hs : starEach [a, b] X.env = (false, eval a X.env) :: starEach [b] X.env := by rfl) (hs2 : starEach [b] X.env = (false, eval b X.env) :: starEach [] X.env := by rfl) (hpl : (backTo pos (starEach [b] X.env)).any (·.1) = false := by rfl) :
    PI X (.Tuple elts kk tpos) (.Call (.Name "zip" p) [a, b] [] pos) (dI k W (iZip fa fb)) :=
  pi_weak (pi_zipB hg hm (pa_cons ha (pa_cons hb pa_nil hs2) hs) hs hpl) fun σ H Q ⟨G, μ, F, st, σd, S, R, h⟩ => by
    refine ⟨G, μ, F, st, σd, S, R, (Post.bind h).mono fun x st1 μ1 F1 H1 e1 S1 h1 v rv => ?_⟩
    refine ⟨G, μ1, F1, st1, σd, S1, R.ext e1, (Post.bind h1).mono fun y st2 μ2 F2 H2 e2 S2 h2 w rw' => ?_⟩
    rw [← hk]
    split at h2
    · rename_i ds g es g' q q2
      obtain ⟨b, ad, vs, rfl, hq, hw⟩ := seqd_rep S2 (rv.ext e2) q
      obtain ⟨b', ad', vs', rfl, hq2, hw2⟩ := seqd_rep S2 rw' q2
      refine ⟨b, b', ad, ad', vs, vs', rfl, hq, hq2, h2 μ2 F2 H2 (Ext.refl _ _) S2 _ fun G' i μ' F' st' H' e' S' hg' => ?_⟩
      obtain ⟨ws, hq', hr⟩ := hw G' μ' F' st' H' e' S' hg'.1
      obtain ⟨us, hq2', hr2⟩ := hw2 G' μ' F' st' H' e' S' hg'.2
      have hl1 := hr.len
      have hl2 := hr2.len
      refine ⟨fun x hx => ?_, fun hl => ⟨ws, us, hq', hq2', ?_⟩⟩
      · obtain ⟨d, d', hd, hd', rfl⟩ := zipA_get ds es i x hx
        obtain ⟨u, h7, h8⟩ := hr.get hd
        obtain ⟨u', h7', h8'⟩ := hr2.get hd'
        refine ⟨⟨ws, us, u, u', hq', hq2', h7, h7'⟩, fun w H2 hy => ?_⟩
        obtain ⟨T, x2, y2, rfl, hT, rfl, hxx, hyy⟩ := hy
        have hxx' := hxx ws hq'
        have hyy' := hyy us hq2'
        rw [h7] at hxx'; cases hxx'
        rw [h7'] at hyy'; cases hyy'
        obtain ⟨S3, x3⟩ := S'.new (o := .tup [u, u']) hT
        exact ⟨_, x3, S3, Rep.tup upd_same (.cons (h8.mono x3.2) (.cons (h8'.mono x3.2) .nil))⟩
      · rw [zipA_len] at hl
        omega
    · exact h2.elim
end

/-! sorted of ints or pairs -/
theorem CallR.or {X : Cx} {f : Value} {r r' : List V → Hp → VK → Prop} (h : CallR X f r) (h' : CallR X f r') : CallR X f fun xs H Q => r xs H Q ∨ r' xs H Q :=
  fun pins s σ H vs us Q I rv q => q.elim (h pins s σ H vs us Q I rv) (h' pins s σ H vs us Q I rv)
open Classical in
/-- the pair at a value -/
noncomputable def keyP (H : Hp) (v : V) : Int × Int := if h : ∃ p : Int × Int, ∃ t, v = .ref t ∧ H t = some (.tup [.int p.1, .int p.2]) then Classical.choose h else (0, 0)
theorem keyP_eq {H : Hp} {t : Addr} {i j : Int} (h : H t = some (.tup [.int i, .int j])) : keyP H (.ref t) = (i, j) := by
  have hx : ∃ p : Int × Int, ∃ t', V.ref t = .ref t' ∧ H t' = some (.tup [.int p.1, .int p.2]) := ⟨(i, j), t, rfl, h⟩
  unfold keyP
  rw [dif_pos hx]
  obtain ⟨t', e, h2⟩ := Classical.choose_spec hx
  cases e
  rw [h] at h2
  injection h2 with h2
  injection h2 with h2
  injection h2 with h3 h4
  injection h4 with h4 _
  injection h3 with h3
  injection h4 with h4
  exact Prod.ext h3.symm h4.symm
theorem pairs_rep {K : KM} {H : Hp} : ∀ {ds : List D} {vs : List V} {ps : List (Int × Int)}, Reps K H ds vs → pairsD ds = some ps → vs.map (keyP H) = ps ∧ ∀ v ∈ vs, ∃ t, v = .ref t ∧ H t = some (.tup [.int (keyP H v).1, .int (keyP H v).2])
  | _, _, _, .nil, h => by cases h; exact ⟨rfl, fun v hv => by cases hv⟩
  | .tup [.int i, .int j] :: r, _, ps, .cons (.tup h1 h2) t, h => by
    have h' : (pairsD r).map ((i, j) :: ·) = some ps := h
    cases q : pairsD r with
    | none => rw [q] at h'; cases h'
    | some ms =>
      rw [q] at h'; cases h'
      obtain ⟨a1, a2⟩ := pairs_rep t q
      cases h2 with
      | cons x1 x2 =>
        cases x1
        cases x2 with
        | cons y1 y2 =>
          cases y1
          cases y2
          refine ⟨by rw [List.map_cons, a1, keyP_eq h1], fun v hv => ?_⟩
          rcases List.mem_cons.mp hv with e | hv
          · subst e
            exact ⟨_, rfl, by rw [keyP_eq h1]; exact h1⟩
          · exact a2 v hv
theorem pairs_areps {K : KM} {μ : List Addr} {F : Hp} {kf : V → Int × Int} : ∀ {vs : List V}, (∀ v ∈ vs, ∃ t, v = .ref t ∧ F t = some (.tup [.int (kf v).1, .int (kf v).2])) → AReps K μ F ((vs.map kf).map fun p => .v (pairD p)) vs
  | [], _ => .nil
  | v :: r, h => by
    obtain ⟨t, e, ht⟩ := h v List.mem_cons_self
    refine .cons ?_ (pairs_areps fun z hz => h z (List.mem_cons_of_mem _ hz))
    rw [e] at ht ⊢
    exact Rep.tup ht (.cons .int (.cons .int .nil))
def rSortedU (K : PySem.W.Frag) : List V → Hp → VK → Prop := fun xs H Q => rSortedI K xs H Q ∨ rSortedPO K xs H Q
section
variable {X : Cx} {W : WX} {k : Kx} {a b c e : Expr} {fa fb fc f : EF} {pos p : Pos}
theorem l_sortedU (hk : k.K = X.K) (hg : Gl X ("sorted" : Str)) (hm : X.mg ("sorted" : Str) = none) (ha : PE X e (dE k W f)) (hs : starEach [e] X.env = (false, eval e X.env) :: starEach [] X.env := by rfl) (hpl : (backTo pos (starEach [] X.env)).any (·.1) = false := by rfl) :
    PE X (.Call (.Name ("sorted" : Str) p) [e] [] pos) (dL k W (lSortedU f)) :=
  pe_weak (pe_callB (CallR.or cr_sortedI cr_sortedPO) hg hm (by decide +kernel) (pa_cons ha pa_nil hs) (by decide) (by decide) hs hpl) fun σ H Q ⟨G, μ, F, st, σd, S, R, h⟩ => by
    refine ⟨G, μ, F, st, σd, S, R, (Post.bind h).mono fun x st1 μ1 F1 H1 e1 S1 h1 v rv => ?_⟩
    obtain ⟨xs, q1, _⟩ := h1.of
    rw [q1] at h1
    cases q : x.view st1 with
    | none => rw [q] at q1; cases q1
    | some d =>
      rw [q] at q1
      cases d with
      | lst ds =>
        obtain ⟨pp, vs, rfl, hh, hr⟩ := view_seq S1 rv q
        have q1' : (match intsD ds with
          | some ns => some ((sortI ns).map fun i => A.v (.int i))
          | none => (pairsD ds).map fun ps => (sortP ps).map fun p => A.v (pairD p)) = some xs := q1
        cases q2 : intsD ds with
        | some ns =>
          rw [q2] at q1'
          cases q1'
          obtain ⟨e1, _⟩ := ints_rep hr q2
          subst e1
          refine .inl ⟨pp, ns, rfl, SqL.of hh, fun ns' pn hpm hpw hn => ?_⟩
          have : ns' = sortI ns := sort_uniq (hpm.trans (sortI_perm ns).symm) hpw (sortI_pw ns)
          subst this
          exact new_run S1 (ints_areps _) hn h1
        | none =>
          rw [q2] at q1'
          cases q3 : pairsD ds with
          | none => rw [q3] at q1'; cases q1'
          | some ps =>
            rw [q3] at q1'
            cases q1'
            obtain ⟨e1, e2⟩ := pairs_rep hr q3
            subst e1
            refine .inr ⟨pp, vs, keyP F1, rfl, SqL.of hh, fun v hv => ?_, fun ys pn hs1 hs2 hn => ?_⟩
            · obtain ⟨t, e, ht⟩ := e2 v hv
              exact ⟨t, e, S1.sub _ _ ht⟩
            · have ey : ys.map (keyP F1) = sortP (vs.map (keyP F1)) := by
                refine pair_uniq ((hs2.perm.map _).trans (sortP_perm _).symm) ?_ (sortP_pw _)
                rw [List.pairwise_map]
                refine List.Pairwise.imp (fun {x y} hxy => ?_) hs1
                have := SrtO.lexB_no.mp hxy
                unfold lePP
                omega
              have ra := pairs_areps (K := k.K) (μ := μ1) (F := F1) (kf := keyP F1) (vs := ys) fun v hv => e2 v (hs2.perm.mem_iff.mp hv)
              rw [ey] at ra
              exact new_run S1 ra hn h1
      | _ => cases q1
theorem lexLtI_eq : ∀ ns ms : List Int, HT.lexLt ns ms = lexLtI ns ms
  | [], [] => rfl
  | [], _ :: _ => rfl
  | _ :: _, [] => rfl
  | x :: xs, y :: ys => by
    unfold lexLtI
    rw [HT.lexLt_cons, lexLtI_eq xs ys]
    by_cases h : x = y
    · rw [if_pos h, if_pos (dec_pos h)]
    · rw [if_neg h, if_neg (by rw [dec_neg h]; decide), dec_eq]
def rLtU (K : PySem.W.Frag) : R2 := fun x y H Q => rI0 (fun i j => .bl (decide (i < j))) x y H Q ∨ rLtT K x y H Q
theorem op_ltU (hu : X.A.units < cLine) : OpR X (compareOp .Lt) (rLtU X.K) := OpR.or op_lt (op_ltT hu)
theorem k_ltU {K : KM} : OpOk K (rLtU K) oLtU := by
  intro x y d e z H Q rx ry h
  cases d with
  | int i =>
    cases e <;> first
      | (obtain ⟨v, h1, h2⟩ := k_lt (K := K) x y _ _ z H Q rx ry h; exact ⟨v, h1, fun q => .inl (h2 q)⟩)
      | cases h
  | tup xs =>
    cases e with
    | tup ys =>
      obtain ⟨pp, vv, rfl, h1, h2⟩ := tup_sq rx
      · obtain ⟨pq, vq, rfl, h3, h4⟩ := tup_sq ry
        · have h' : ((intsD xs).bind fun ns => (intsD ys).map fun ms => D.bl (lexLtI ns ms)) = some z := h
          cases q1 : intsD xs with
          | none => rw [q1] at h'; cases h'
          | some ns =>
            cases q2 : intsD ys with
            | none => rw [q1, q2] at h'; cases h'
            | some ms =>
              rw [q1, q2] at h'; cases h'
              obtain ⟨e1, _⟩ := ints_rep h2 q1
              obtain ⟨e2, _⟩ := ints_rep h4 q2
              subst e1 e2
              exact ⟨_, fun _ => .bl, fun q => .inr ⟨_, _, ns, ms, rfl, rfl, h1, h3, by rw [lexLtI_eq]; exact q⟩⟩
    | _ => cases h
  | _ => cases h

/-! range(i, j, -1) -/
theorem rangeC_len : ∀ (n : Nat) (lo c : Int), (rangeC lo c n).length = n
  | 0, _, _ => rfl
  | n + 1, lo, c => by show (rangeC (lo + c) c n).length + 1 = n + 1; rw [rangeC_len n]
theorem rangeC_get : ∀ (n : Nat) (lo c : Int) (i : Nat), i < n → (rangeC lo c n)[i]? = some (.v (.int (lo + (i : Nat) * c)))
  | n + 1, lo, c, 0, _ => by show some (A.v (D.int lo)) = _; simp
  | n + 1, lo, c, i + 1, h => by
    show (rangeC (lo + c) c n)[i]? = _
    rw [rangeC_get n (lo + c) c i (by omega)]
    congr 3
    rw [show (((i + 1 : Nat) : Int)) = (i : Int) + 1 by omega, Int.add_mul]
    omega
theorem yields_c {μ : List Addr} {F : Hp} {lo c : Int} {n : Nat} : Yields k μ F ⟨rangeC lo c n, fun _ => True⟩ (Itc lo c n) := by
  intro G i μ' F' st H e S hg
  refine ⟨fun x hx => ?_, fun hl => by rw [rangeC_len] at hl; exact Nat.le_of_eq hl.symm⟩
  have hi : i < n := by
    have := (List.getElem?_eq_some_iff.mp hx).1
    rw [rangeC_len] at this; exact this
  refine ⟨hi, fun v H' hy => ?_⟩
  obtain ⟨rfl, rfl⟩ := hy
  rw [rangeC_get n lo c i hi] at hx; cases hx
  exact ⟨F', Ext.refl _ _, S, Rep.int⟩
theorem i_rangeDn {tg : Expr} {j2 : Nat} {p1 p3 : Pos} (hg : Gl X ("range" : Str)) (hm : X.mg ("range" : Str) = none) (ha : PE X a (dE k W fa)) (hb : PE X b (dE k W fb))
    (hs : starEach [a, b, .UnaryOp .USub (.Constant (.int 1) j2 p1) p3] X.env = (false, eval a X.env) :: starEach [b, .UnaryOp .USub (.Constant (.int 1) j2 p1) p3] X.env := by rfl)
    (hs2 : starEach [b, .UnaryOp .USub (.Constant (.int 1) j2 p1) p3] X.env = (false, eval b X.env) :: starEach [.UnaryOp .USub (.Constant (.int 1) j2 p1) p3] X.env := by rfl)
    (hs3 : starEach [.UnaryOp .USub (.Constant (.int 1) j2 p1) p3] X.env = (false, eval (.UnaryOp .USub (.Constant (.int 1) j2 p1) p3) X.env) :: starEach [] X.env := by rfl)
    (hpl : (backTo pos (starEach [b, .UnaryOp .USub (.Constant (.int 1) j2 p1) p3] X.env)).any (·.1) = false := by rfl) :
    PI X tg (.Call (.Name ("range" : Str) p) [a, b, .UnaryOp .USub (.Constant (.int 1) j2 p1) p3] [] pos) (dI k W (iRangeDn fa fb)) :=
  pi_weak (pi_range3 hg hm (pa_cons ha (pa_cons hb (pa_cons (e_un (k := k) (W := W) un_neg k_neg (e_int (k := k) (W := W) (i := 1))) pa_nil hs3) hs2) hs) hs hpl) fun σ H Q ⟨G, μ, F, st, σd, S, R, h⟩ => by
    refine ⟨G, μ, F, st, σd, S, R, (Post.bind h).mono fun x st1 μ1 F1 H1 e1 S1 h1 v rv => ?_⟩
    refine ⟨G, μ1, F1, st1, σd, S1, R.ext e1, (Post.bind h1).mono fun y st2 μ2 F2 H2 e2 S2 h2 w rw' => ?_⟩
    refine ⟨G, μ2, F2, st2, σd, S2, (R.ext e1).ext e2, fun μ3 F3 H3 e3 S3 u ru => ?_⟩
    cases ru
    cases x with
    | ref n => exact h2.elim
    | v d =>
      cases d with
      | int i =>
        cases y with
        | ref n => exact h2.elim
        | v d' =>
          cases d' with
          | int j =>
            cases rv; cases rw'
            dsimp only at h2
            unfold gd at h2
            split at h2
            · rename_i q
              exact ⟨i, j, _, _, rfl, RgC.neg q.1.1 q.1.2 q.2.1 q.2.2, Post.ext e3 h2 μ3 F3 H3 (Ext.refl _ _) S3 _ yields_c⟩
            · exact h2.elim
          | _ => exact h2.elim
      | _ => cases y <;> exact h2.elim
def ipM : TIp := fun x y H Q => ∃ i j, x = .int i ∧ y = .int j ∧ mulOk i j ∧ Q (.int (i * j)) H
theorem ip_mul : PIp X .Mult ipM := by
  intro pins s σ H x y v u Q I r1 r2 h
  obtain ⟨i, j, e1, e2, hc, q⟩ := h
  subst e1; subst e2
  obtain ⟨t, rfl⟩ := r1
  obtain ⟨t', rfl⟩ := r2
  exact _root_.PyProof.Rows.imul_int ⟨.int _, H, I.tok _, ⟨_, rfl⟩, q⟩ (mulOk_ok hc)
theorem ipk_mul {K : KM} : IpOk K ipM oMul := fun x y d e z H Q rx ry h => by
  cases d with
  | int i =>
    cases e with
    | int j =>
      have h3' : gd (mulOk i j) (some (D.int (i * j))) none = some z := h
      unfold gd at h3'
      split at h3'
      · rename_i q
        cases h3'
        cases rx; cases ry
        exact ⟨_, fun _ => .int, fun q' => ⟨_, _, rfl, rfl, q, q'⟩⟩
      · cases h3'
    | _ => cases h
  | _ => cases h
end

/-! sum, max, min of a list or a tuple -/
section
variable {prog : Program} {w : World} {A : Around} {E : Value → Shared → Prop} {s : Shared} {l : Addr} {xs : Array (Int × Tok)}
theorem iter_intTup {Q : Value → Shared → Prop} (hl : s.heap.IsTuple l (intItems xs))
    (h : ∀ s₂ : Shared, s₂ = { s with heap := s.heap.push { cls := .type "tuple_iterator", data := .fields #[.ref l, .int 0 0] } } →
      (s₂.heap.IsTupleIter s.heap.objs.size l 0 ∧ s₂.heap.IsTuple l (intItems xs)) → (∀ b ∈ [s.heap.objs.size, l], b < s₂.heap.objs.size) → l ≠ s.heap.objs.size → Q (.ref s.heap.objs.size) s₂) :
    wpAny (model prog w) A (pyIter (.ref l)) Q E s := by
  have hlt : l < s.heap.objs.size := by obtain ⟨_, e, _⟩ := hl; exact Heap.lt_size e
  refine wpAny_pyIter_tuple hl (h _ rfl ⟨⟨_, Heap.get?_push_size _ rfl, rfl, rfl⟩, hl.at fun o e => Heap.get?_push_of_some _ e⟩ (fun b hb => ?_) (Nat.ne_of_lt hlt))
  show b < (s.heap.push _).objs.size
  rw [Heap.size_push]
  rcases List.mem_cons.mp hb with rfl | hb
  · exact Nat.lt_succ_self _
  · rcases List.mem_cons.mp hb with rfl | hb
    · exact Nat.lt_succ_of_lt hlt
    · cases hb
theorem old_keptT {h' : Heap} (hk : ∀ b o, b ∉ [s.heap.objs.size] → (s.heap.push { cls := .type "tuple_iterator", data := .fields #[.ref l, .int 0 0] }).get? b = some o → h'.get? b = some o) :
    ∀ b o, s.heap.get? b = some o → h'.get? b = some o := fun b o e => by
  refine hk b o (fun hm => ?_) (Heap.get?_push_of_some _ e)
  rcases List.mem_cons.mp hm with e1 | hm
  · exact absurd (e1 ▸ Heap.lt_size e) (Nat.lt_irrefl _)
  · cases hm
theorem sum_intTup {Q : Value → Shared → Prop} (hh : A.handled = none) (hl : s.heap.IsTuple l (intItems xs))
    (h : ∀ h' tk t', (∀ b o, s.heap.get? b = some o → h'.get? b = some o) → Q (.int (preSum (numAt xs) xs.size) t') { s with heap := h', toks := tk }) :
    wpAny (model prog w) A (call (.builtin "sum") [.ref l]) Q E s := by
  refine call_sum_walkG (iter_intTup hl fun s₂ e st hfp hlI => ?_)
  subst e
  refine ⟨_, _, _, _, _, _, numAt xs, rfl, Walks.tuple (A := A.in1) hh _ l hlI (intItems xs), st, hfp, (fun _ _ => intItems_at), fun h' tk t' hk => ?_⟩
  have := h h' tk t' (old_keptT hk)
  simpa [intItems] using this
theorem max_intTup {Q : Value → Shared → Prop} (hh : A.handled = none) (hl : s.heap.IsTuple l (intItems xs)) (hne : 0 < xs.size)
    (h : ∀ v h' tk, (intItems xs)[argBest (fun i j => decide (numAt xs i > numAt xs j)) (xs.size - 1)]? = some v → (∀ b o, s.heap.get? b = some o → h'.get? b = some o) → Q v { s with heap := h', toks := tk }) :
    wpAny (model prog w) A (call (.builtin "max") [.ref l]) Q E s := by
  refine call_max_walk (iter_intTup hl fun s₂ e st hfp hlI => ?_)
  subst e
  refine ⟨_, _, _, _, _, _, _, rfl, Walks.tuple (A := A.in1) hh _ l hlI (intItems xs), st, hfp, by simpa [intItems] using hne, CmpOf.ints_gt (numAt xs) (fun _ _ => intItems_at), fun v h' tk hP hk => ?_⟩
  exact h v h' tk (by simpa [intItems] using hP) (old_keptT hk)
theorem min_intTup {Q : Value → Shared → Prop} (hh : A.handled = none) (hl : s.heap.IsTuple l (intItems xs)) (hne : 0 < xs.size)
    (h : ∀ v h' tk, (intItems xs)[argBest (fun i j => decide (numAt xs i < numAt xs j)) (xs.size - 1)]? = some v → (∀ b o, s.heap.get? b = some o → h'.get? b = some o) → Q v { s with heap := h', toks := tk }) :
    wpAny (model prog w) A (call (.builtin "min") [.ref l]) Q E s := by
  refine call_min_walk (iter_intTup hl fun s₂ e st hfp hlI => ?_)
  subst e
  refine ⟨_, _, _, _, _, _, _, rfl, Walks.tuple (A := A.in1) hh _ l hlI (intItems xs), st, hfp, by simpa [intItems] using hne, CmpOf.ints_lt (numAt xs) (fun _ _ => intItems_at), fun v h' tk hP hk => ?_⟩
  exact h v h' tk (by simpa [intItems] using hP) (old_keptT hk)
end
section
variable {prog : Program} {w : World} {A : Around} {E : Value → Shared → Prop} {s : Shared} {l : Addr} {its : List Value} {ns : List Int} {Q : Value → Shared → Prop}
theorem sum_rawT (hh : A.handled = none) (hl : s.heap.IsTuple l its.toArray) (hi : IntsAre its ns)
    (h : ∀ h' tk t', (∀ b o, s.heap.get? b = some o → h'.get? b = some o) → Q (.int ns.sum t') { s with heap := h', toks := tk }) : wpAny (model prog w) A (call (.builtin "sum") [.ref l]) Q E s := by
  obtain ⟨xs, e⟩ := hi.allInts.items
  have hn : numsOf (intItems xs).toList = ns := by rw [← e]; exact hi.numsOf
  rw [nums_intItems] at hn
  rw [e] at hl
  refine sum_intTup hh hl fun h' tk t' hk => ?_
  have := h h' tk t' hk
  rw [preSum_eq, List.take_of_length_le (by simp), hn]; exact this
theorem max_rawT (hh : A.handled = none) (hl : s.heap.IsTuple l its.toArray) (hi : IntsAre its ns) (hne : 0 < ns.length)
    (h : ∀ h' tk M t', (∀ b o, s.heap.get? b = some o → h'.get? b = some o) → M ∈ ns → (∀ a, a ∈ ns → a ≤ M) → Q (.int M t') { s with heap := h', toks := tk }) : wpAny (model prog w) A (call (.builtin "max") [.ref l]) Q E s := by
  obtain ⟨xs, e⟩ := hi.allInts.items
  have hn : numsOf (intItems xs).toList = ns := by rw [← e]; exact hi.numsOf
  rw [nums_intItems] at hn
  subst hn
  rw [e] at hl
  have hsz : 0 < xs.size := by simpa using hne
  refine max_intTup hh hl hsz fun v h' tk hv hk => ?_
  obtain ⟨t, rfl⟩ := intItems_at hv
  obtain ⟨h1, h2⟩ := argBest_gt (numAt xs) (xs.size - 1)
  refine h h' tk _ t hk ?_ fun a ha => ?_
  · rw [numAt_eq]; exact PySem.getD_mem (by rw [List.length_map, Array.length_toList]; omega)
  · obtain ⟨j, hj, rfl⟩ := mem_getD ha
    rw [List.length_map, Array.length_toList] at hj
    rw [← numAt_eq]; exact h2 j (by omega)
theorem min_rawT (hh : A.handled = none) (hl : s.heap.IsTuple l its.toArray) (hi : IntsAre its ns) (hne : 0 < ns.length)
    (h : ∀ h' tk M t', (∀ b o, s.heap.get? b = some o → h'.get? b = some o) → M ∈ ns → (∀ a, a ∈ ns → M ≤ a) → Q (.int M t') { s with heap := h', toks := tk }) : wpAny (model prog w) A (call (.builtin "min") [.ref l]) Q E s := by
  obtain ⟨xs, e⟩ := hi.allInts.items
  have hn : numsOf (intItems xs).toList = ns := by rw [← e]; exact hi.numsOf
  rw [nums_intItems] at hn
  subst hn
  rw [e] at hl
  have hsz : 0 < xs.size := by simpa using hne
  refine min_intTup hh hl hsz fun v h' tk hv hk => ?_
  obtain ⟨t, rfl⟩ := intItems_at hv
  obtain ⟨h1, h2⟩ := argBest_lt (numAt xs) (xs.size - 1)
  refine h h' tk _ t hk ?_ fun a ha => ?_
  · rw [numAt_eq]; exact PySem.getD_mem (by rw [List.length_map, Array.length_toList]; omega)
  · obtain ⟨j, hj, rfl⟩ := mem_getD ha
    rw [List.length_map, Array.length_toList] at hj
    rw [← numAt_eq]; exact h2 j (by omega)
end
def rSumB (K : PySem.W.Frag) : List V → Hp → VK → Prop := fun vs H Q => ∃ (b : Bool) (a : Addr) (ns : List Int), vs = [V.ref a] ∧ SqB K H b a (ns.map V.int) ∧ Q (.int ns.sum) H
def rMaxB (K : PySem.W.Frag) : List V → Hp → VK → Prop := fun vs H Q => ∃ (b : Bool) (a : Addr) (ns : List Int), vs = [V.ref a] ∧ SqB K H b a (ns.map V.int) ∧ 0 < ns.length ∧ ∀ m, m ∈ ns → (∀ y, y ∈ ns → y ≤ m) → Q (.int m) H
def rMinB (K : PySem.W.Frag) : List V → Hp → VK → Prop := fun vs H Q => ∃ (b : Bool) (a : Addr) (ns : List Int), vs = [V.ref a] ∧ SqB K H b a (ns.map V.int) ∧ 0 < ns.length ∧ ∀ m, m ∈ ns → (∀ y, y ∈ ns → m ≤ y) → Q (.int m) H
section
variable {X : Cx}
theorem cr_sumB (hc : X.calm = true) : CallR X (.builtin "sum") (rSumB X.K) := by
  intro pins s σ H vs us Q I r h
  obtain ⟨b, a, ns, rfl, hs, q⟩ := h
  cases b with
  | false => exact cr_sum hc pins s σ H _ us Q I r ⟨a, ns, rfl, hs, q⟩
  | true =>
    obtain ⟨its, rv, hl, _⟩ := I.tuple hs
    rw [Vals.ref1 r]
    exact sum_rawT (I.ok.hd hc) hl rv.ints fun h' tk t' hk => ⟨.int _, H, I.kept hk, ⟨_, rfl⟩, q⟩
theorem cr_maxB (hc : X.calm = true) : CallR X (.builtin "max") (rMaxB X.K) := by
  intro pins s σ H vs us Q I r h
  obtain ⟨b, a, ns, rfl, hs, hne, q⟩ := h
  cases b with
  | false => exact cr_max hc pins s σ H _ us Q I r ⟨a, ns, rfl, hs, hne, q⟩
  | true =>
    obtain ⟨its, rv, hl, _⟩ := I.tuple hs
    rw [Vals.ref1 r]
    exact max_rawT (I.ok.hd hc) hl rv.ints hne fun h' tk m t' hk h1 h2 => ⟨.int _, H, I.kept hk, ⟨_, rfl⟩, q m h1 h2⟩
theorem cr_minB (hc : X.calm = true) : CallR X (.builtin "min") (rMinB X.K) := by
  intro pins s σ H vs us Q I r h
  obtain ⟨b, a, ns, rfl, hs, hne, q⟩ := h
  cases b with
  | false => exact cr_min hc pins s σ H _ us Q I r ⟨a, ns, rfl, hs, hne, q⟩
  | true =>
    obtain ⟨its, rv, hl, _⟩ := I.tuple hs
    rw [Vals.ref1 r]
    exact min_rawT (I.ok.hd hc) hl rv.ints hne fun h' tk m t' hk h1 h2 => ⟨.int _, H, I.kept hk, ⟨_, rfl⟩, q m h1 h2⟩
end
theorem seqD_rep {K : KM} {H : Hp} {d : D} {v : V} {xs : List D} (r : Rep K H d v) (h : seqD d = some xs) : ∃ b a vs, v = .ref a ∧ SqB K H b a vs ∧ Reps K H xs vs := by
  cases d <;> first
    | (cases h
       cases r with
       | lst h1 h2 => exact ⟨false, _, _, rfl, SqL.of h1, h2⟩)
    | (cases h
       obtain ⟨pp, vv, rfl, h1, h2⟩ := tup_sq r
       exact ⟨true, _, _, rfl, h1, h2⟩)
    | cases h
theorem k_sumB {K : KM} : CallOk K (rSumB K) bSumU := fun vs ds z H Q r h => by
  match ds, r, h with
  | [d], .cons rd .nil, h =>
    have h' : ((seqD d).bind fun xs => (intsD xs).map fun ns => D.int ns.sum) = some z := h
    cases q0 : seqD d with
    | none => rw [q0] at h'; cases h'
    | some xs =>
      rw [q0] at h'
      have h2 : ((intsD xs).map fun ns => D.int ns.sum) = some z := h'
      cases q : intsD xs with
      | none => rw [q] at h2; cases h2
      | some ns =>
        rw [q] at h2; cases h2
        obtain ⟨b, a, us, rfl, hs, hr⟩ := seqD_rep rd q0
        obtain ⟨e1, _⟩ := ints_rep hr q
        subst e1
        exact ⟨_, fun _ => .int, fun hq => ⟨b, a, ns, rfl, hs, hq⟩⟩
theorem k_maxB {K : KM} : CallOk K (rMaxB K) bMaxU := fun vs ds z H Q r h => by
  match ds, r, h with
  | [d], .cons rd .nil, h =>
    have h' : ((seqD d).bind fun xs => (intsD xs).bind fun ns => (maxI ns).map D.int) = some z := h
    cases q0 : seqD d with
    | none => rw [q0] at h'; cases h'
    | some xs =>
      rw [q0] at h'
      have h2 : ((intsD xs).bind fun ns => (maxI ns).map D.int) = some z := h'
      cases q : intsD xs with
      | none => rw [q] at h2; cases h2
      | some ns =>
        rw [q] at h2
        have h3 : (maxI ns).map D.int = some z := h2
        cases q3 : maxI ns with
        | none => rw [q3] at h3; cases h3
        | some m =>
          rw [q3] at h3; cases h3
          obtain ⟨b, a, us, rfl, hs, hr⟩ := seqD_rep rd q0
          obtain ⟨e1, _⟩ := ints_rep hr q
          subst e1
          obtain ⟨m1, m2⟩ := maxI_spec q3
          refine ⟨_, fun _ => .int, fun hq => ⟨b, _, ns, rfl, hs, List.length_pos_of_mem m1, fun m' a1 a2 => ?_⟩⟩
          rw [Int.le_antisymm (m2 _ a1) (a2 _ m1)]
          exact hq
theorem k_minB {K : KM} : CallOk K (rMinB K) bMinU := fun vs ds z H Q r h => by
  match ds, r, h with
  | [d], .cons rd .nil, h =>
    have h' : ((seqD d).bind fun xs => (intsD xs).bind fun ns => (minI ns).map D.int) = some z := h
    cases q0 : seqD d with
    | none => rw [q0] at h'; cases h'
    | some xs =>
      rw [q0] at h'
      have h2 : ((intsD xs).bind fun ns => (minI ns).map D.int) = some z := h'
      cases q : intsD xs with
      | none => rw [q] at h2; cases h2
      | some ns =>
        rw [q] at h2
        have h3 : (minI ns).map D.int = some z := h2
        cases q3 : minI ns with
        | none => rw [q3] at h3; cases h3
        | some m =>
          rw [q3] at h3; cases h3
          obtain ⟨b, a, us, rfl, hs, hr⟩ := seqD_rep rd q0
          obtain ⟨e1, _⟩ := ints_rep hr q
          subst e1
          obtain ⟨m1, m2⟩ := minI_spec q3
          refine ⟨_, fun _ => .int, fun hq => ⟨b, _, ns, rfl, hs, List.length_pos_of_mem m1, fun m' a1 a2 => ?_⟩⟩
          rw [Int.le_antisymm (a2 _ m1) (m2 _ a1)]
          exact hq

/-! operations that make a new list -/
def OpL (K : KM) (r : R2) (o : D → D → Option (List D)) : Prop := ∀ (G : Hp) (μ : List Addr) (F : Hp) (st : Store) (H : Hp) (x y : A) (v w : V) (d e : D) (z : List D) (Q : VK), Sim K G μ F st H → ARep K μ F x v → ARep K μ F y w →
  x.view st = some d → y.view st = some e → o d e = some z → (∀ p vs, H p = none → Reps K F z vs → Q (.ref p) (upd H p (.lst vs))) → r v w H Q
section
variable {X : Cx} {W : WX} {k : Kx} {a b : Expr} {fa fb : EF} {pos : Pos}
theorem l_op {op : Operator} {r : R2} {o : D → D → Option (List D)} (ho : OpR X (binaryOp op) r) (ok : OpL k.K r o) (ha : PE X a (dE k W fa)) (hb : PE X b (dE k W fb)) : PE X (.BinOp a op b pos) (dL k W (lOp o fa fb)) :=
  pe_weak (pe_op ho ha hb) fun σ H Q ⟨G, μ, F, st, σd, S, R, h⟩ => by
    refine ⟨G, μ, F, st, σd, S, R, (Post.bind h).mono fun x st1 μ1 F1 H1 e1 S1 h1 v rv => ?_⟩
    refine ⟨G, μ1, F1, st1, σd, S1, R.ext e1, (Post.bind h1).mono fun y st2 μ2 F2 H2 e2 S2 h2 w rw' => ?_⟩
    cases q1 : x.view st2 with
    | none => rw [q1] at h2; exact h2.elim
    | some d =>
      rw [q1] at h2
      cases q2 : y.view st2 with
      | none => rw [q2] at h2; exact h2.elim
      | some e =>
        rw [q2] at h2
        dsimp only [Option.bind] at h2
        cases q3 : o d e with
        | none => rw [q3] at h2; exact h2.elim
        | some z =>
          rw [q3] at h2
          exact ok G μ2 F2 st2 H2 x y v w d e z Q S2 (rv.ext e2) rw' q1 q2 q3 fun p vs hp hr => new_run S2 (AReps.of hr) hp h2
theorem kL_rep {K : KM} : OpL K rRep oRepL := by
  intro G μ F st H x y v w d e z Q S rx ry h1 h2 h3 hQ
  have hs := sizeMax_eq
  cases d with
  | lst xs =>
    cases e with
    | int kk =>
      have h3' : gd (-(2 ^ 63) ≤ kk ∧ kk < 2 ^ 63 ∧ xs.length * kk.toNat ≤ sizeMax) (some (repD kk.toNat xs)) none = some z := h3
      unfold gd at h3'
      split at h3'
      · rename_i q
        cases h3'
        obtain ⟨p, vs, rfl, sq1, r1⟩ := view_seq S rx h1
        cases view_rep S ry h2
        have l1 := r1.length
        exact ⟨p, kk, vs, rfl, rfl, sq1, q.1, q.2.1, by rw [← l1, ← hs]; exact q.2.2, fun a ha => hQ a _ ha (r1.rep _)⟩
      · cases h3'
    | _ => cases h3
  | _ => cases h3
theorem kL_cat {K : KM} : OpL K rCat oCatL := by
  intro G μ F st H x y v w d e z Q S rx ry h1 h2 h3 hQ
  have hs := sizeMax_eq
  cases d with
  | lst xs =>
    cases e with
    | lst ys =>
      have h3' : gd (xs.length + ys.length ≤ sizeMax) (some (xs ++ ys)) none = some z := h3
      unfold gd at h3'
      split at h3'
      · rename_i hl
        cases h3'
        obtain ⟨p, vs, rfl, sq1, r1⟩ := view_seq S rx h1
        obtain ⟨q, ws, rfl, sq2, r2⟩ := view_seq S ry h2
        have l1 := r1.length
        have l2 := r2.length
        exact ⟨p, q, vs, ws, rfl, rfl, sq1, sq2, by omega, fun a ha => hQ a _ ha (r1.append r2)⟩
      · cases h3'
    | _ => cases h3
  | _ => cases h3
end

/-! == of anything -/
mutual
theorem Rep.dp {K : KM} {H : Hp} : ∀ {d : D} {v : V}, Rep K H d v → (toPy d).canLay0 = true → Dp K H v (toPy d)
  | _, _, .non, _ => .non
  | _, _, .bl, _ => .bl _
  | _, _, .int, _ => .int _
  | _, _, .str, _ => .str _
  | _, _, .tup h r, q => .tup (SqT.of h) (Reps.dp r (by simpa [toPy, PyData.canLay0] using q))
  | _, _, .lst h r, q => .lst (SqL.of h) (Reps.dp r (by simpa [toPy, PyData.canLay0] using q))
  | _, _, .ro h r, q => .lst h (Reps.dp r (by simpa [toPy, PyData.canLay0] using q))
  | _, _, .tup0 h, _ => .tup h .nil
  | _, _, .obj _ _ _ _, q => by simp [toPy, PyData.canLay0] at q
  | _, _, .dic _ _ _ _, q => by simp [toPy, PyData.canLay0] at q
  | _, _, .fn _, q => by simp [toPy, PyData.canLay0] at q
  | _, _, .exc, q => by simp [toPy, PyData.canLay0] at q
theorem Reps.dp {K : KM} {H : Hp} : ∀ {ds : List D} {vs : List V}, Reps K H ds vs → PyData.canLayAll0 (toPyL ds) = true → DpAll K H vs (toPyL ds)
  | _, _, .nil, _ => .nil
  | _, _, .cons h r, q => by
    simp only [toPyL, PyData.canLayAll0, Bool.and_eq_true] at q
    exact .cons (Rep.dp h q.1) (Reps.dp r q.2)
end
def rEqG (K : PySem.W.Frag) : R2 := fun x y H Q => rEqU x y H Q ∨ rEqD K x y H Q
def rNeG (K : PySem.W.Frag) : R2 := fun x y H Q => rNe x y H Q ∨ rNeD K x y H Q
theorem op_eqG {X : Cx} (hu : X.A.units + 64 < cLine) : OpR X (compareOp .Eq) (rEqG X.K) := OpR.or (op_eqU (by omega)) (op_eqD hu)
theorem op_neG {X : Cx} (hu : X.A.units + 64 < cLine) : OpR X (compareOp .NotEq) (rNeG X.K) := OpR.or op_ne (op_neD hu)
theorem k2_eqG {K : KM} : Op2 K (rEqG K) oEqG := by
  intro G μ F st H x y v w d e z Q S rx ry h1 h2 h3 hQ
  unfold oEqG at h3
  split at h3
  · rename_i b q
    exact .inl (k2_eqU G μ F st H x y v w d e z Q S rx ry h1 h2 (by unfold oEqU; rw [q]; exact h3) hQ)
  · unfold gd at h3
    split at h3
    · rename_i q
      cases h3
      exact .inr ⟨_, _, (view_rep S rx h1).dp (SeqAt.canLay_of_shaped q.1), (view_rep S ry h2).dp (SeqAt.canLay_of_shaped q.2), q.1, q.2, hQ F H _ (Ext.refl _ _) S .bl⟩
    · cases h3
theorem k2_neG {K : KM} : Op2 K (rNeG K) oNeG := by
  intro G μ F st H x y v w d e z Q S rx ry h1 h2 h3 hQ
  unfold oNeG at h3
  split at h3
  · rename_i b q
    refine .inl ?_
    obtain ⟨u, hu, hq⟩ := k_neS v w d e z H Q (view_rep S rx h1) (view_rep S ry h2) (by unfold oNeS; rw [q]; exact h3)
    exact hq (hQ F H u (Ext.refl _ _) S (hu F))
  · unfold gd at h3
    split at h3
    · rename_i q
      cases h3
      exact .inr ⟨_, _, (view_rep S rx h1).dp (SeqAt.canLay_of_shaped q.1), (view_rep S ry h2).dp (SeqAt.canLay_of_shaped q.2), q.1, q.2, hQ F H _ (Ext.refl _ _) S .bl⟩
    · cases h3
end Dn

set_option linter.all false
set_option Elab.async false
set_option maxRecDepth 100000
/-! Lib: short forms, the end. -/
namespace Dn
open PySem PySem.Spec PyProof.Rows L2
section
variable {X : Cx} {W : WX} {k : Kx} {x : Str} {pos : Pos}
theorem v_ (i : Nat) (hN : X.N[i]? = some x := by rfl) (hv : Vis X.env.scope x := by first | exact .inl rfl | exact .inr (.inl rfl) | exact .inr (.inr rfl)) (hd : (x == ("__debug__" : Str)) = false := by decide) (hcd : (x == ("__classdict__" : Str)) = false := by decide) :
    PE X (.Name x pos) (dE k W (fVar i)) := e_var hN hv hd hcd
theorem gn_ (i : Nat) (hN : X.N.Nodup) (hi : X.N[i]? = some x := by rfl) (hx : Loc X.env.scope x := by first | exact .inl rfl | exact .inr rfl) (hf : X.fn x = true ∨ X.env.scope.names.lookup x = some .local := by first | exact .inl rfl | exact .inr rfl) :
    PG X (.Name x pos) (dG k [i] (tgName i)) := g_name hN hi hx hf
end
/-- a def of the top, and how it is called -/
structure Fn1 (K : PySem.W.Frag) (mg : Str → Option Value) (x : Str) (st : Stmt) (ps : List Str) where
  f : Addr
  fd : FuncData
  fn : Fun K x x st f fd
  bd : Binds K fd ps []
  gm : mg x = some (.ref f)
section
variable {P : Program} {w : World} {K : PySem.W.Frag} {mg : Str → Option Value} {cs : List Nat} {base : Heap}
theorem fn_never {f : Addr} {fd : FuncData} {ps : List Str} {lv n : Nat} (hn : ps.length = n := by rfl) : FnOk P w K mg base (L2.CX P w) lv f fd ps (spV (kx K mg cs) n fun _ _ => .bad) :=
  ⟨fun vs H Q E h => by rw [h.1, hn], fun A outer s H args us vs Q E _ _ _ _ h => by
    obtain ⟨_, _, _, _, _, _, _, _, h⟩ := h
    exact h.elim⟩
end
theorem walk_of {l : PySem.W.OpenLaw} {k : Nat} {q : Program} {loose : List Str} {XP : (Str → Option Value) → Heap → Prop} {YP : World → Heap → Prop} {d : DefRec} {K : Params → PySem.W.Frag} {g : List A → Store → RE A} {cs : List Nat}
    (hn : l.most = some 63) (hdf : d.params.defaults = []) (hr : Room k callerA)
    (hY : ∀ (w : World) (h : Heap), YP w h → (K w.params).In h)
    (F : ∀ (w : World) (mg : Str → Option Value) (fa : Addr) (h : Heap), (K w.params).In h → h.Ns mainGlobals mg → mg d.name = some (.ref fa) →
      ∃ fd : FuncData, (∀ (s : Shared) (u : Value), BindsTo s fd ⟨[u], []⟩ [("script", u)]) ∧
        ∀ base : Heap, (K w.params).In base → base.Ns mainGlobals mg → FnOk l.prog w (K w.params) mg base (L2.CX l.prog w) k fa fd ["script"] (spV (kx (K w.params) mg cs) 1 g))
    (tr : ∀ ns : List Int, ns.length ≤ 63 → g [.v (.ro (ns.map D.int))] [] = .ok (.v (.bl true)) []) :
    PySem.W.WalkO q loose XP YP l.row.toRowW d [] (fun f vs => PySem.call f vs) := by
  refine L2.walk_of (l := l) (n := 63) (k := k) (x := "script") (K := K) (CX := fun w => L2.CX l.prog w) (sp := fun w vs H Q E => ∃ (a : Addr) (ns : List Int), vs = [.ref a] ∧ ns.length ≤ 63 ∧ SqL (K w.params) H a (ns.map V.int) ∧ ∀ H', Q (.bl true) H') hn (by decide) hdf hr hY (fun w mg fa h h1 h2 h3 => ?_)
    (fun w H a ns hl _ hS => ⟨a, ns, rfl, hl, hS, fun _ => rfl⟩) (fun w H s e s' h => ?_)
  · obtain ⟨fd, hb, hF⟩ := F w mg fa h h1 h2 h3
    refine ⟨fd, hb, fun base b1 b2 => (hF base b1 b2).imp fun vs H Q E hs => ?_⟩
    obtain ⟨a, ns, rfl, hl, hS, hQ⟩ := hs
    have reps : ∀ ns : List Int, Reps (⟨K w.params, mg, cs⟩ : KM) H (ns.map D.int) (ns.map V.int) := by
      intro ns
      induction ns with
      | nil => exact .nil
      | cons _ _ ih => exact .cons .int ih
    refine ⟨rfl, fun _ => none, [], H, [], [.v (.ro (ns.map D.int))], ⟨Same.refl H, (fun _ _ e => by cases e), rfl, List.Pairwise.nil, (fun n a c e => by simp at e), (fun _ _ e => by cases e), (fun _ h => by cases h)⟩, .cons (Rep.ro hS (reps ns)) .nil, ?_⟩
    show Post _ _ _ _ _ _ (g [.v (.ro (ns.map D.int))] [])
    rw [tr ns hl]
    intro μ' F' H' _ _ v rv
    cases rv
    exact hQ H'
  · obtain ⟨_, _, _, _, _, _, _, _, _, _, _, _, z⟩ := h
    exact z
end Dn

set_option linter.all false
set_option Elab.async false
set_option maxRecDepth 100000
/-! Objs: instances of own classes, their fields, calls with keywords, dicts that are only read, chains. -/
namespace Dn
open PySem PySem.Spec PyProof.Rows L2

section
variable {X : Cx} {W : WX} {k : Kx} {a b c e : Expr} {es : List Expr} {fa fb fc f : EF} {fs : List EF} {l : LF} {pos : Pos} {x : Str} {p : Pos}
/-! what is never reached -/
theorem e_bad : PE X e (dE k W fBad) := ⟨fun pins s σ H Q I h => by
  obtain ⟨G, μ, F, st, σd, S, R, h⟩ := h
  exact False.elim h⟩
theorem l_bad : PE X e (dL k W fun _ _ => .bad) := ⟨fun pins s σ H Q I h => by
  obtain ⟨G, μ, F, st, σd, S, R, h⟩ := h
  exact False.elim h⟩
theorem t_bad : PT X e (dT k W fun _ _ => .bad) := ⟨fun pins s σ H Q I h => by
  obtain ⟨G, μ, F, st, σd, S, R, h⟩ := h
  exact False.elim h⟩
theorem i_bad {tg : Expr} : PI X tg e (dI k W fun _ _ => .bad) := ⟨fun pins s σ H Q I h => by
  obtain ⟨G, μ, F, st, σd, S, R, h⟩ := h
  exact False.elim h⟩
theorem s_bad {s : Stmt} : PS X s (dS k W sBad) := ⟨fun pins s σ H Q I h => by
  obtain ⟨G, μ, F, st, σd, S, R, h⟩ := h
  exact False.elim h⟩
/-- a constant of the module -/
theorem e_glob {d : D} {v : V} {u : Value} (hg : Gl X x) (hm : X.mg x = some u) (r : RelV v u) (hr : ∀ F, Rep k.K F d v) (hd : (x == ("__debug__" : Str)) = false := by decide) : PE X (.Name x pos) (dE k W (fC d)) := e_tC (pe_glob hg hm r hd) hr
/-- a def as a value -/
theorem e_fn {y : Nat} {ad : Addr} (hg : Gl X x) (hm : X.mg x = some (.ref ad)) (hk : k.mg (nm y) = some (.ref ad)) (hd : (x == ("__debug__" : Str)) = false := by decide) : PE X (.Name x pos) (dE k W (fC (.fn y))) := e_tC (pe_glob hg hm (v := .ref ad) rfl hd) fun _ => .fn hk
theorem chain_run {r r' : R2} {o o' : D → D → Option D} (ok : OpOk k.K r o) (ok' : OpOk k.K r' o') (σ : St) (H : Hp) (Q : VK) (h : dE k W (fChain o o' fa fb fc) σ H Q) : tChain r r' (dE k W fa) (dE k W fb) (dE k W fc) σ H Q := by
  obtain ⟨G, μ, F, st, σd, S, R, h⟩ := h
  refine ⟨G, μ, F, st, σd, S, R, (Post.bind h).mono fun y st1 μ1 F1 H1 e1 S1 h1 v rv => ⟨G, μ1, F1, st1, σd, S1, R.ext e1, (Post.bind h1).mono fun z st2 μ2 F2 H2 e2 S2 h2 w rw' => ?_⟩⟩
  have h3 := Post.bind h2
  obtain ⟨kk, hkk, h4⟩ := h3.of
  cases q1 : y.view st2 with
  | none => rw [q1] at hkk; cases hkk
  | some d =>
    rw [q1] at hkk
    cases q2 : z.view st2 with
    | none => rw [q2] at hkk; cases hkk
    | some d2 =>
      rw [q2] at hkk
      have hkk' : ((o d d2).bind fun z => (A.v z).bl?) = some kk := hkk
      cases q3 : o d d2 with
      | none => rw [q3] at hkk'; cases hkk'
      | some d3 =>
        rw [q3] at hkk'
        obtain ⟨u, hu, hq⟩ := ok v w d d2 d3 H2 (fun z H3 => ∃ k_1, z = V.bl k_1 ∧ if k_1 = true then dE k W fc σ H3 fun w' H4 => r' w w' H4 Q else Q (V.bl false) H3) (view_rep S2 (rv.ext e2) q1) (view_rep S2 rw' q2) q3
        refine hq ⟨kk, bl_rep (K := k.K) (μ := μ2) (F := F2) (x := .v d3) (hu F2) hkk', ?_⟩
        have h5 := h4 μ2 F2 H2 (Ext.refl _ _) S2
        cases kk with
        | false => exact h5 μ2 F2 H2 (Ext.refl _ _) S2 _ Rep.bl
        | true =>
          refine ⟨G, μ2, F2, st2, σd, S2, (R.ext e1).ext e2, (Post.bind h5).mono fun y2 st4 μ4 F4 H4 e4 S4 h6 w4 rw4 => ?_⟩
          obtain ⟨y5, hy5, h7⟩ := h6.of
          cases q5 : z.view st4 with
          | none => rw [q5] at hy5; cases hy5
          | some d5 =>
            rw [q5] at hy5
            cases q6 : y2.view st4 with
            | none => rw [q6] at hy5; cases hy5
            | some d6 =>
              rw [q6] at hy5
              have hy6 : (o' d5 d6).map A.v = some y5 := hy5
              cases q7 : o' d5 d6 with
              | none => rw [q7] at hy6; cases hy6
              | some d7 =>
                rw [q7] at hy6; cases hy6
                obtain ⟨u2, hu2, hq2⟩ := ok' w w4 d5 d6 d7 H4 Q (view_rep S4 (rw'.ext e4) q5) (view_rep S4 rw4 q6) q7
                exact hq2 (h7 μ4 F4 H4 (Ext.refl _ _) S4 u2 (hu2 F4))
/-- a < b < c -/
theorem e_chain {op op' : CmpOp} {r r' : R2} {o o' : D → D → Option D} (ho : OpR X (compareOp op) r) (ok : OpOk k.K r o) (ho' : OpR X (compareOp op') r') (ok' : OpOk k.K r' o') (ha : PE X a (dE k W fa)) (hb : PE X b (dE k W fb)) (hc : PE X c (dE k W fc))
    (hm : lastMarks [op, op'] [b, c] = false := by with_unfolding_all rfl) : PE X (.Compare a [op, op'] [b, c] pos) (dE k W (fChain o o' fa fb fc)) :=
  pe_weak (pe_chain ho ho' ha hb hc hm) (chain_run ok ok')
theorem t_chain {op op' : CmpOp} {r r' : R2} {o o' : D → D → Option D} (ho : OpR X (compareOp op) r) (ok : OpOk k.K r o) (ho' : OpR X (compareOp op') r') (ok' : OpOk k.K r' o') (ha : PE X a (dE k W fa)) (hb : PE X b (dE k W fb)) (hc : PE X c (dE k W fc))
    (hm : lastMarks [op, op'] [b, c] = false := by with_unfolding_all rfl) : PT X (.Compare a [op, op'] [b, c] pos) (dT k W (tCmp (fChain o o' fa fb fc))) :=
  pt_weak (pt_chain ho ho' ha hb hc hm) fun σ H Q h => by
    refine chain_run ok ok' σ H (fun x H' => ∃ k, x = .bl k ∧ Q k H') ?_
    obtain ⟨G, μ, F, st, σd, S, R, h⟩ := h
    refine ⟨G, μ, F, st, σd, S, R, (Post.bind h).mono fun x st1 μ1 F1 H1 e1 S1 h1 v rv => ?_⟩
    obtain ⟨bb, hb, h2⟩ := h1.of
    exact ⟨bb, bl_rep rv hb, h2 μ1 F1 H1 (Ext.refl _ _) S1⟩
theorem t_val (ha : PE X a (dE k W fa)) (ht : ∀ whole, isTrue a X.env whole = (do let v ← whole; standAt a.pos; holding [v] (truthy v)) := by intro _; rfl) : PT X a (dT k W (tCmp fa)) :=
  pt_weak (pt_truth ha ht) fun σ H Q ⟨G, μ, F, st, σd, S, R, h⟩ => by
    refine ⟨G, μ, F, st, σd, S, R, (Post.bind h).mono fun y st1 μ1 F1 H1 e1 S1 h1 v rv => ?_⟩
    obtain ⟨bb, hb, h2⟩ := h1.of
    refine ⟨bb, ?_, h2 μ1 F1 H1 (Ext.refl _ _) S1⟩
    rw [bl_rep rv hb]
    rfl
end

/-! ### fields -/
theorem fldL_mem {α : Type} {f : Nat} : ∀ {ks : List Nat} {xs : List α} {a : α}, fldL f ks xs = some a → f ∈ ks
  | [], _, _, h => by cases h
  | _ :: _, [], _, h => by cases h
  | k :: ks, x :: xs, a, h => by
    have h' : (if k = f then some x else fldL f ks xs) = some a := h
    split at h'
    · rename_i q; rw [q]; exact List.mem_cons_self
    · exact List.mem_cons_of_mem _ (fldL_mem h')
theorem fld_look {K : KM} {μ : List Addr} {F : Hp} {f : Nat} (hf : f < nmL.length) : ∀ {ks : List Nat} {fs : List (Str × V)} {xs : List A} {a : A}, fs.map (·.1) = ks.map nm → AReps K μ F xs (fs.map (·.2)) → (∀ j ∈ ks, j < nmL.length) → fldL f ks xs = some a →
    ∃ v, fs.lookup (nm f) = some v ∧ ARep K μ F a v
  | [], _, _, _, _, _, _, h => by cases h
  | _ :: _, _, [], _, _, _, _, h => by cases h
  | k :: ks, [], x :: xs, _, h1, _, _, _ => by cases h1
  | k :: ks, (g, v) :: fs, x :: xs, a, h1, h2, h3, h => by
    have h' : (if k = f then some x else fldL f ks xs) = some a := h
    have e1 : g = nm k := by injection h1
    have e2 : fs.map (·.1) = ks.map nm := by injection h1
    cases h2 with
    | cons r rr =>
      by_cases hkf : k = f
      · rw [if_pos hkf] at h'; cases h'
        subst e1 hkf
        refine ⟨v, ?_, r⟩
        simp [List.lookup]
      · rw [if_neg hkf] at h'
        obtain ⟨w, h4, h5⟩ := fld_look hf e2 rr (fun j hj => h3 j (List.mem_cons_of_mem _ hj)) h'
        refine ⟨w, ?_, h5⟩
        have hne : (nm f == g) = false := by
          rw [beq_eq_false_iff_ne, e1]
          exact fun z => hkf (nm_inj (h3 k List.mem_cons_self) hf z.symm)
        simp only [List.lookup, hne]
        exact h4
theorem fld_rep {K : KM} {G F H : Hp} {μ : List Addr} {st : Store} (S : Sim K G μ F st H) {y z : A} {v : V} {f : Nat} (r : ARep K μ F y v) (h : y.fld st f = some z) :
    ∃ c p C dx fs w, v = .ref p ∧ H p = some (.ins C dx fs) ∧ c ∈ K.cs ∧ f ∈ fl c ∧ K.mg (nm c) = some (.ref C) ∧ fs.lookup (nm f) = some w ∧ ARep K μ F z w := by
  cases y with
  | v d =>
    cases d with
    | obj c ks ds =>
      cases r with
      | obj h1 ho he hr =>
        have h' : (fldL f ks ds).map A.v = some z := h
        cases q : fldL f ks ds with
        | none => rw [q] at h'; cases h'
        | some d =>
          rw [q] at h'; cases h'
          have hm := ho.2.2 f (fldL_mem q)
          have q' : ∀ {ks : List Nat} {ds : List D}, fldL f ks ds = some d → fldL f ks (ds.map A.v) = some (.v d) := by
            intro ks
            induction ks with
            | nil => intro ds q; cases q
            | cons k ks ih =>
              intro ds q
              cases ds with
              | nil => cases q
              | cons d0 ds =>
                have q1 : (if k = f then some d0 else fldL f ks ds) = some d := q
                show (if k = f then some (A.v d0) else fldL f ks (ds.map A.v)) = some (.v d)
                split
                · rename_i hh; rw [if_pos hh] at q1; cases q1; rfl
                · rename_i hh; rw [if_neg hh] at q1; exact ih q1
          obtain ⟨w, hw, rw'⟩ := fld_look (K := K) (μ := μ) (F := F) (fl_lt c f hm) he (AReps.of hr) (fun j hj => fl_lt c j (ho.2.2 j hj)) (q' q)
          exact ⟨c, _, _, _, _, w, rfl, S.sub _ _ h1, ho.1, hm, ho.2.1, hw, rw'⟩
    | _ => cases h
  | ref n =>
    obtain ⟨ad, hy, rfl⟩ := r
    unfold A.fld at h
    dsimp only at h
    split at h
    · rename_i c ks xs q
      obtain ⟨_, ⟨C, dx, fs, h2, ho, he, h3⟩, _⟩ := cell_of S hy q
      have hm := ho.2.2 f (fldL_mem h)
      obtain ⟨w, hw, rw'⟩ := fld_look (fl_lt c f hm) he h3 (fun j hj => fl_lt c j (ho.2.2 j hj)) h
      exact ⟨c, ad, C, dx, fs, w, rfl, h2, ho.1, hm, ho.2.1, hw, rw'⟩
    · rename_i c ks ds q
      obtain ⟨C, dx, fs, h2, ho, he, h3⟩ := cell_of S hy q
      have r1 : ARep K μ F (.v (.obj c ks ds)) (.ref ad) := Rep.obj h2 ho he h3
      cases q3 : fldL f ks ds with
      | none => rw [q3] at h; cases h
      | some d =>
        rw [q3] at h; cases h
        have hm := ho.2.2 f (fldL_mem q3)
        have q' : ∀ {ks : List Nat} {ds : List D}, fldL f ks ds = some d → fldL f ks (ds.map A.v) = some (.v d) := by
          intro ks
          induction ks with
          | nil => intro ds q; cases q
          | cons k ks ih =>
            intro ds q
            cases ds with
            | nil => cases q
            | cons d0 ds =>
              have q1 : (if k = f then some d0 else fldL f ks ds) = some d := q
              show (if k = f then some (A.v d0) else fldL f ks (ds.map A.v)) = some (.v d)
              split
              · rename_i hh; rw [if_pos hh] at q1; cases q1; rfl
              · rename_i hh; rw [if_neg hh] at q1; exact ih q1
        obtain ⟨w, hw, rw'⟩ := fld_look (K := K) (μ := μ) (F := F) (fl_lt c f hm) he (AReps.of h3) (fun j hj => fl_lt c j (ho.2.2 j hj)) (q' q3)
        exact ⟨c, ad, C, dx, fs, w, rfl, S.sub _ _ h2, ho.1, hm, ho.2.1, hw, rw'⟩
    · cases h
/-- what the written part says of the own classes -/
structure OwnT (K : KM) : Prop where
  own : ∀ c f C, c ∈ K.cs → f ∈ fl c → K.mg (nm c) = some (.ref C) → Cls K C ∧ NoAttr K C (nm f)
section
variable {X : Cx} {W : WX} {k : Kx} {a b c e o value : Expr} {es : List Expr} {fa fb fc f fo fv : EF} {fs : List EF} {l : LF} {pos pos' : Pos} {x : Str} {p : Pos}
theorem e_fld {i : Nat} (T : OwnT k.K) (hk : k.K = X.K) (hx : nm i = x) (ha : PE X a (dE k W fa)) (hb : attributeBase a x X.env (eval a X.env) = eval a X.env := by rfl) : PE X (.Attribute a x pos) (dE k W (fFld i fa)) :=
  pe_weak (pe_fld ha hb) fun σ H Q ⟨G, μ, F, st, σd, S, R, h⟩ => by
    subst hx
    refine ⟨G, μ, F, st, σd, S, R, (Post.bind h).mono fun y st1 μ1 F1 H1 e1 S1 h1 v rv => ?_⟩
    obtain ⟨z, hz, h2⟩ := h1.of
    obtain ⟨c, p, C, dx, fs, w, rfl, hp, hc, hf, hm, hl, rw'⟩ := fld_rep S1 rv hz
    obtain ⟨c1, c2⟩ := T.own c i C hc hf hm
    rw [hk] at c1 c2
    exact ⟨p, C, dx, fs, w, rfl, hp, c1, c2, hl, h2 μ1 F1 H1 (Ext.refl _ _) S1 w rw'⟩
theorem fsK_mem {f : Nat} : ∀ {ks : List Nat} {j : Nat}, j ∈ fsK f ks → j = f ∨ j ∈ ks
  | [], j, h => by
    have h' : j ∈ [f] := h
    exact .inl (List.mem_singleton.mp h')
  | k :: ks, j, h => by
    have h' : j ∈ (if k = f then k :: ks else k :: fsK f ks) := h
    split at h'
    · exact .inr h'
    · rcases List.mem_cons.mp h' with z | z
      · rw [z]; exact .inr List.mem_cons_self
      · exact (fsK_mem z).imp id (List.mem_cons_of_mem _)
theorem fs_put {K : KM} {μ : List Addr} {F : Hp} {f : Nat} {a : A} {v : V} (hf : f < nmL.length) (r : ARep K μ F a v) : ∀ {ks : List Nat} {fs : List (Str × V)} {xs : List A}, fs.map (·.1) = ks.map nm → AReps K μ F xs (fs.map (·.2)) → (∀ j ∈ ks, j < nmL.length) →
    (putF (nm f) v fs).map (·.1) = (fsK f ks).map nm ∧ AReps K μ F (fsX f a ks xs) ((putF (nm f) v fs).map (·.2))
  | [], [], xs, _, h2, _ => by
    cases h2
    exact ⟨rfl, .cons r .nil⟩
  | [], _ :: _, _, h1, _, _ => by cases h1
  | _ :: _, [], _, h1, _, _ => by cases h1
  | k :: ks, (g, w) :: fs, [], _, h2, _ => by cases h2
  | k :: ks, (g, w) :: fs, x :: xs, h1, h2, h3 => by
    have e1 : g = nm k := by injection h1
    have e2 : fs.map (·.1) = ks.map nm := by injection h1
    cases h2 with
    | cons r1 rr =>
      by_cases hkf : k = f
      · subst hkf
        have p1 : putF (nm k) v ((g, w) :: fs) = (g, v) :: fs := if_pos e1
        have p2 : fsK k (k :: ks) = k :: ks := if_pos rfl
        have p3 : fsX k a (k :: ks) (x :: xs) = a :: xs := if_pos rfl
        rw [p1, p2, p3]
        exact ⟨by rw [List.map_cons, List.map_cons, e2, e1], .cons r rr⟩
      · have hne : ¬ g = nm f := fun z => hkf (nm_inj (h3 k List.mem_cons_self) hf (e1.symm.trans z))
        have p1 : putF (nm f) v ((g, w) :: fs) = (g, w) :: putF (nm f) v fs := if_neg hne
        have p2 : fsK f (k :: ks) = k :: fsK f ks := if_neg hkf
        have p3 : fsX f a (k :: ks) (x :: xs) = x :: fsX f a ks xs := if_neg hkf
        rw [p1, p2, p3]
        obtain ⟨q1, q2⟩ := fs_put hf r e2 rr fun j hj => h3 j (List.mem_cons_of_mem _ hj)
        exact ⟨by rw [List.map_cons, List.map_cons, q1, e1], .cons r1 q2⟩
theorem fsX_all {n f : Nat} {b : A} (hb : b.below n = true) : ∀ {ks : List Nat} {xs : List A}, xs.all (A.below n) = true → (fsX f b ks xs).all (A.below n) = true
  | [], xs, h => by show ([b] : List A).all (A.below n) = true; simp [hb]
  | _ :: _, [], h => by show ([b] : List A).all (A.below n) = true; simp [hb]
  | k :: ks, x :: xs, h => by
    simp only [List.all_cons, Bool.and_eq_true] at h
    show (if k = f then b :: xs else x :: fsX f b ks xs).all (A.below n) = true
    split
    · simp only [List.all_cons, Bool.and_eq_true]; exact ⟨hb, h.2⟩
    · simp only [List.all_cons, Bool.and_eq_true]; exact ⟨h.1, fsX_all hb h.2⟩
theorem s_fld {cc i : Nat} (T : OwnT k.K) (hk : k.K = X.K) (hx : nm i = x) (hf : i ∈ fl cc) (ho : PE X o (dE k W fo)) (hv : PE X value (dE k W fv)) (hs : swapsWith value (some (.Attribute o x pos')) pos.line X.env = pure false := by rfl) :
    PS X (.Assign [.Attribute o x pos'] value pos) (dS k W (sFldSet cc i fo fv)) :=
  ps_weak (ps_fld ho hv hs) fun D σ H ⟨G, μ, F, st, σd, S, R, h⟩ => by
    subst hx
    refine ⟨G, μ, F, st, σd, S, R, (PostS.st R h).mono fun y st1 μ1 F1 H1 e1 S1 h1 v rv => ⟨G, μ1, F1, st1, σd, S1, R.ext e1, (PostS.st (R.ext e1) h1).mono fun u st2 μ2 F2 H2 e2 S2 h2 w rw' => ?_⟩⟩
    cases u with
    | v d => exact h2.elim
    | ref n =>
      obtain ⟨ad, hy, rfl⟩ := rw'
      dsimp only at h2
      split at h2
      · rename_i bb st3 q
        obtain ⟨F3, S3, x3, r3, hb⟩ := put_ok S2 (rv.ext e2) q
        split at h2
        · rename_i c' ks xs q2
          unfold gd at h2
          split at h2
          · rename_i hh
            obtain ⟨rfl, hlen⟩ := hh
            obtain ⟨hF, ⟨C, dx, fs, hH, ho', he, hr⟩, hall⟩ := cell_of S3 hy q2
            have hi : i < nmL.length := fl_lt _ _ hf
            obtain ⟨p1, p2⟩ := fs_put hi r3 he hr fun j hj => fl_lt _ j (ho'.2.2 j hj)
            obtain ⟨c1, c2⟩ := T.own _ i C ho'.1 hf ho'.2.1
            rw [hk] at c1 c2
            refine ⟨ad, C, dx, fs, rfl, hH, c1, c2, ?_, ?_⟩
            · have : fs.length = ks.length := by
                have := congrArg List.length he
                simpa using this
              omega
            · refine h2 μ2 F3 _ σ x3 (S3.writeC hy hF ⟨hF, ⟨C, dx, _, upd_same, ⟨ho'.1, ho'.2.1, fun j hj => ?_⟩, p1, p2⟩, fsX_all hb hall⟩) (((R.ext e1).ext e2).ext x3)
              rcases fsK_mem hj with z | z
              · rw [z]; exact hf
              · exact ho'.2.2 j z
          · exact h2.elim
        · exact h2.elim
      · exact h2.elim
end
end Dn

set_option linter.all false
set_option Elab.async false
set_option maxRecDepth 100000
/-! Objs2: new instances, calls with keywords, methods, defs held by names, written dicts. -/
namespace Dn
open PySem PySem.Spec PyProof.Rows L2

theorem fArgs_append : ∀ (as bs : List EF) (σ : Env) (st : Store), fArgs (as ++ bs) σ st = (fArgs as σ st).bind fun x st1 => (fArgs bs σ st1).bind fun y st2 => .ok (x ++ y) st2
  | [], bs, σ, st => by
    show fArgs bs σ st = (fArgs bs σ st).bind fun y st2 => .ok y st2
    cases fArgs bs σ st <;> rfl
  | a :: as, bs, σ, st => by
    show ((a σ st).bind fun x st1 => (fArgs (as ++ bs) σ st1).bind fun r st2 => .ok (x :: r) st2) = (((a σ st).bind fun x st1 => (fArgs as σ st1).bind fun r st2 => .ok (x :: r) st2)).bind fun x st1 => (fArgs bs σ st1).bind fun y st2 => .ok (x ++ y) st2
    cases a σ st with
    | bad => rfl
    | err x s => rfl
    | ok x st1 =>
      show ((fArgs (as ++ bs) σ st1).bind fun r st2 => RE.ok (x :: r) st2) = ((fArgs as σ st1).bind fun r st2 => .ok (x :: r) st2).bind fun x st1 => (fArgs bs σ st1).bind fun y st2 => .ok (x ++ y) st2
      rw [fArgs_append as bs σ st1]
      cases fArgs as σ st1 with
      | bad => rfl
      | err x s => rfl
      | ok r st2 =>
        show ((fArgs bs σ st2).bind fun y st2 => RE.ok (r ++ y) st2).bind (fun r st2 => RE.ok (x :: r) st2) = (fArgs bs σ st2).bind fun y st2 => .ok (x :: r ++ y) st2
        cases fArgs bs σ st2 <;> rfl
theorem AReps.append {K : KM} {μ : List Addr} {F : Hp} : ∀ {xs ys : List A} {vs ws : List V}, AReps K μ F xs vs → AReps K μ F ys ws → AReps K μ F (xs ++ ys) (vs ++ ws)
  | _, _, _, _, .nil, r => r
  | _, _, _, _, .cons h t, r => .cons h (AReps.append t r)
theorem g3_rep {K : KM} {μ : List Addr} {F : Hp} {us ms ws : List A} {vs mv zs : List V} (r1 : AReps K μ F us vs) (r2 : AReps K μ F ms mv) (r3 : AReps K μ F ws zs) : ∀ o : List Arg3, AReps K μ F (g3 o us ms ws) (g3 o vs mv zs) := by
  have look : ∀ {xs : List A} {ys : List V}, AReps K μ F xs ys → ∀ i : Nat, (xs[i]? = none ∧ ys[i]? = none) ∨ ∃ a v, xs[i]? = some a ∧ ys[i]? = some v ∧ ARep K μ F a v := by
    intro xs ys r i
    cases q : xs[i]? with
    | none => exact .inl ⟨rfl, List.getElem?_eq_none (by rw [← r.len]; exact List.getElem?_eq_none_iff.mp q)⟩
    | some a =>
      obtain ⟨v, h1, h2⟩ := r.get q
      exact .inr ⟨a, v, rfl, h1, h2⟩
  intro o
  induction o with
  | nil => exact .nil
  | cons x o ih =>
    unfold g3 at ih ⊢
    cases x with
    | u i =>
      rcases look r1 i with ⟨h1, h2⟩ | ⟨a, v, h1, h2, h3⟩
      · rw [List.filterMap_cons_none (by exact h1), List.filterMap_cons_none (by exact h2)]; exact ih
      · rw [List.filterMap_cons_some (by exact h1), List.filterMap_cons_some (by exact h2)]; exact .cons h3 ih
    | m i =>
      rcases look r2 i with ⟨h1, h2⟩ | ⟨a, v, h1, h2, h3⟩
      · rw [List.filterMap_cons_none (by exact h1), List.filterMap_cons_none (by exact h2)]; exact ih
      · rw [List.filterMap_cons_some (by exact h1), List.filterMap_cons_some (by exact h2)]; exact .cons h3 ih
    | w i =>
      rcases look r3 i with ⟨h1, h2⟩ | ⟨a, v, h1, h2, h3⟩
      · rw [List.filterMap_cons_none (by exact h1), List.filterMap_cons_none (by exact h2)]; exact ih
      · rw [List.filterMap_cons_some (by exact h1), List.filterMap_cons_some (by exact h2)]; exact .cons h3 ih
theorem g3_vals {us ms ws : List V} {vs mv zs : List Value} (r1 : Vals us vs) (r2 : Vals ms mv) (r3 : Vals ws zs) : ∀ o : List Arg3, Vals (g3 o us ms ws) (g3 o vs mv zs) := by
  have look : ∀ {xs : List V} {ys : List Value}, Vals xs ys → ∀ i : Nat, (xs[i]? = none ∧ ys[i]? = none) ∨ ∃ a v, xs[i]? = some a ∧ ys[i]? = some v ∧ RelV a v := by
    intro xs ys r i
    cases q : xs[i]? with
    | none => exact .inl ⟨rfl, Vals.none_of r q⟩
    | some a =>
      obtain ⟨v, h1, h2⟩ := r.get q
      exact .inr ⟨a, v, rfl, h1, h2⟩
  intro o
  induction o with
  | nil => exact .nil
  | cons x o ih =>
    unfold g3 at ih ⊢
    cases x with
    | u i =>
      rcases look r1 i with ⟨h1, h2⟩ | ⟨a, v, h1, h2, h3⟩
      · rw [List.filterMap_cons_none (by exact h1), List.filterMap_cons_none (by exact h2)]; exact ih
      · rw [List.filterMap_cons_some (by exact h1), List.filterMap_cons_some (by exact h2)]; exact .cons h3 ih
    | m i =>
      rcases look r2 i with ⟨h1, h2⟩ | ⟨a, v, h1, h2, h3⟩
      · rw [List.filterMap_cons_none (by exact h1), List.filterMap_cons_none (by exact h2)]; exact ih
      · rw [List.filterMap_cons_some (by exact h1), List.filterMap_cons_some (by exact h2)]; exact .cons h3 ih
    | w i =>
      rcases look r3 i with ⟨h1, h2⟩ | ⟨a, v, h1, h2, h3⟩
      · rw [List.filterMap_cons_none (by exact h1), List.filterMap_cons_none (by exact h2)]; exact ih
      · rw [List.filterMap_cons_some (by exact h1), List.filterMap_cons_some (by exact h2)]; exact .cons h3 ih

section
variable {X : Cx} {W : WX} {k : Kx} {a b c e o : Expr} {es : List Expr} {fa fb fc f fo : EF} {fs gs : List EF} {pos pos' : Pos} {x : Str} {p kpos : Pos} {kws : List Keyword} {nk : Option Str}
/-! keywords -/
theorem k_nil : PK X [] (dA k W (fArgs [])) := ⟨fun pos pins s σ H Q I h => by
  obtain ⟨G, μ, F, st, σd, S, R, h⟩ := h
  exact pk_nil.run pos pins s σ H Q I (h μ F H (Ext.refl _ _) S [] .nil)⟩
theorem k_cons (ha : PE X e (dE k W f)) (hr : PK X kws (dA k W (fArgs gs))) : PK X (⟨nk, e, kpos⟩ :: kws) (dA k W (fArgs (f :: gs))) := ⟨fun pos pins s σ H Q I hh => (pk_cons ha hr).run pos pins s σ H Q I (by
  obtain ⟨G, μ, F, st, σd, S, R, h⟩ := hh
  refine ⟨G, μ, F, st, σd, S, R, (Post.bind (show Post k G μ F _ _ ((f σd st).bind fun a st1 => (fArgs gs σd st1).bind fun r st2 => .ok (a :: r) st2) from h)).mono fun x st1 μ1 F1 H1 e1 S1 h1 v rv => ?_⟩
  refine ⟨G, μ1, F1, st1, σd, S1, R.ext e1, h1.bind.mono fun r st2 μ2 F2 H2 e2 S2 h2 ws rws => ?_⟩
  exact h2 μ2 F2 H2 (Ext.refl _ _) S2 (v :: ws) (.cons (rv.ext e2) rws))⟩
/-- positional arguments, then keywords -/
theorem args2 {r : List V → List V → Hp → VK → Prop} {g : List A → List A → Store → RE A} (σ : St) (H : Hp) (Q : VK) (hr : ∀ G μ F st H (xs ys : List A) (vs zs : List V), Sim k.K G μ F st H → AReps k.K μ F xs vs → AReps k.K μ F ys zs → xs.length = fs.length → ys.length = gs.length →
      Post k G μ F (fun c d H' => W c d σ H') (fun a _ μ' F' H' => ∀ v, ARep k.K μ' F' a v → Q v H') (g xs ys st) → r vs zs H Q)
    (h : dE k W (fun σ st => (fArgs (fs ++ gs) σ st).bind fun xs st1 => g (xs.take fs.length) (xs.drop fs.length) st1) σ H Q) :
    dA k W (fArgs fs) σ H fun vs H1 => dA k W (fArgs gs) σ H1 fun zs H2 => r vs zs H2 Q := by
  obtain ⟨G, μ, F, st, σd, S, R, h⟩ := h
  have h1 : Post k G μ F (fun c d H' => W c d σ H') (fun a _ μ' F' H' => ∀ v, ARep k.K μ' F' a v → Q v H') ((fArgs fs σd st).bind fun x st1 => (fArgs gs σd st1).bind fun y st2 => g ((x ++ y).take fs.length) ((x ++ y).drop fs.length) st2) := by
    have h' : Post k G μ F (fun c d H' => W c d σ H') (fun a _ μ' F' H' => ∀ v, ARep k.K μ' F' a v → Q v H') ((fArgs (fs ++ gs) σd st).bind fun xs st1 => g (xs.take fs.length) (xs.drop fs.length) st1) := h
    rw [fArgs_append] at h'
    cases q : fArgs fs σd st with
    | bad => rw [q] at h'; exact h'
    | err x s => rw [q] at h'; exact h'
    | ok xs st1 =>
      rw [q] at h'
      show Post k G μ F _ _ ((fArgs gs σd st1).bind fun y st2 => g ((xs ++ y).take fs.length) ((xs ++ y).drop fs.length) st2)
      have h2 : Post k G μ F (fun c d H' => W c d σ H') (fun a _ μ' F' H' => ∀ v, ARep k.K μ' F' a v → Q v H') (((fArgs gs σd st1).bind fun y st2 => .ok (xs ++ y) st2).bind fun xs st1 => g (xs.take fs.length) (xs.drop fs.length) st1) := h'
      cases q2 : fArgs gs σd st1 with
      | bad => rw [q2] at h2; exact h2
      | err x s => rw [q2] at h2; exact h2
      | ok ys st2 => rw [q2] at h2; exact h2
  refine ⟨G, μ, F, st, σd, S, R, h1.bindE.mono fun xs st1 μ1 F1 H1 e1 S1 ⟨q1, h2⟩ vs rv => ?_⟩
  refine ⟨G, μ1, F1, st1, σd, S1, R.ext e1, h2.bindE.mono fun ys st2 μ2 F2 H2 e2 S2 ⟨q2, h3⟩ zs rz => ?_⟩
  have l1 := fArgs_len _ _ _ _ _ q1
  have l2 := fArgs_len _ _ _ _ _ q2
  rw [List.take_left' l1, List.drop_left' l1] at h3
  exact hr G μ2 F2 st2 H2 xs ys vs zs S2 (AReps.ext e2 rv) rz l1 l2 h3

/-! ### new instances -/
/-- C(..), what is raised wished for at the caller's slots -/
def tNewS (C : Addr) (n m : Nat) (sp : Sp) (gV : List V → List V → List V) (E : St → XK) (t tk : TA) : TE := fun σ H Q => t σ H fun vs H1 => tk σ H1 fun zs H2 => vs.length = n ∧ zs.length = m ∧ ∀ x dx, H2 x = none → H2 dx = none → dx ≠ x →
  sp (gV (.ref x :: vs) zs) (upd (upd H2 dx (.own x)) x (.ins C dx [])) (fun v H3 => v = .non ∧ Q (.ref x) H3) (E σ)
theorem run_new {CX : CXT} {lv n : Nat} {ad C : Addr} {fd : FuncData} {ps ks : List Str} {sp : Sp} {E : XK} {g : List Value → List Value → List Value} {gV : List V → List V → List V} {pins : List (Addr × Obj)} {σ : St} {H : Hp} {s : Shared} {Q : VK} {us ws : List Value} {vs zs : List V}
    (M : Mk X.K C ad) (F : FnOk X.prog X.w X.K X.mg X.base CX lv ad fd ps sp) (hr : Room (lv + 1) X.A) (hb : KBn X.K fd ps (n + 1) ks g gV) (hx : PassesAt CX X σ E) (I : Inv X pins σ H s) (r : Vals vs us) (rz : Vals zs ws) (l1 : vs.length = n) (l2 : zs.length = ks.length)
    (h : ∀ x dx, H x = none → H dx = none → dx ≠ x → sp (gV (.ref x :: vs) zs) (upd (upd H dx (.own x)) x (.ins C dx [])) (fun v H2 => v = .non ∧ Q (.ref x) H2) E) :
    wpAny (model X.prog X.w) X.A (call (.ref C) us (ks.zip ws)) (EP X pins σ Q) X.xe s := by
  have sz := Nat.lt_succ_self s.heap.objs.size
  have hq := h (s.heap.objs.size + 1) s.heap.objs.size (I.hok.fresh (Nat.le_succ _)) (I.hok.fresh (Nat.le_refl _)) (Nat.ne_of_lt sz)
  have J := Inv.made (C := C) I
  have ra : Vals (V.ref (s.heap.objs.size + 1) :: vs) (Value.ref (s.heap.objs.size + 1) :: us) := .cons rfl r
  have la : (Value.ref (s.heap.objs.size + 1) :: us).length = n + 1 := by rw [List.length_cons, ← r.length, l1]
  refine wpAny_call (make_map (f := ad) I.kIn M.makes M.init (beq_iff_eq.mp M.fn) (codeAny_mono (F.run _ X.stack _ _ ⟨Value.ref (s.heap.objs.size + 1) :: us, ks.zip ws⟩ _ _ _ E (hr.make C us (ks.zip ws)) (J.env0.make C us (ks.zip ws))
    (hb.to _ _ ws J.kIn la (rz.length.symm.trans l2)) (hb.rel ra rz) hq) fun res s' hres => ?_))
  match res, hres with
  | .error e, hres => exact hx pins _ _ e s' J hres
  | .ok (.ret u), hres =>
    obtain ⟨v, H', J3, rv, ev, q3⟩ := J.after hres
    cases ev
    exact ⟨rv, V.ref (s.heap.objs.size + 1), H', J3, rfl, q3⟩
  | .ok .next, hres => exact hres.elim
  | .ok .brk, hres => exact hres.elim
  | .ok .cont, hres => exact hres.elim
section
variable {CX : CXT} {lv n : Nat} {ad C : Addr} {fd : FuncData} {ps ks : List Str} {sp : Sp} {E : St → XK} {g : List Value → List Value → List Value} {gV : List V → List V → List V} {t tk : TA}
theorem pe_new0 (M : Mk X.K C ad) (F : FnOk X.prog X.w X.K X.mg X.base CX lv ad fd ps sp) (hr : Room (lv + 1) X.A) (hg : Gl X x) (hm : X.mg x = some (.ref C)) (hb : KBn X.K fd ps 1 ks g gV) (hx : ∀ σ, PassesAt CX X σ (E σ)) (hkw : PK X kws tk)
    (hall : (backToKw pos (keywordEach kws X.env)).all (·.1.isSome) = true := by rfl) (hks : (backToKw pos (keywordEach kws X.env)).filterMap (·.1) = ks := by rfl) (hdb : (x == ("__debug__" : Str)) = false := by decide)
    (hpl : ((backTo pos (starEach [] X.env)).any (·.1) || (backToKw pos (keywordEach kws X.env)).any (·.1.isNone)) = false := by rfl) :
    PE X (.Call (.Name x p) [] kws pos) (tNewS C 0 ks.length sp gV E tNil tk) := ⟨fun pins s σ H Q I h =>
  wpAny_Call_Name_kw (ld_glob I hg hm (PySem.W.callWith_KW0 (h₀ := X.base) I.ok.mod.kin M.kp hall (thn (hkw.run pos pins s σ H _ I h) fun ws s2 ⟨zs, H2, I2, rz, l1, l2, q2⟩ => ⟨I2.kIn, by
    rw [hks]
    exact run_new (us := []) (vs := []) M F hr hb (hx σ) I2 .nil rz rfl l2 q2⟩) hpl) hdb)⟩
theorem pe_newK (M : Mk X.K C ad) (F : FnOk X.prog X.w X.K X.mg X.base CX lv ad fd ps sp) (hr : Room (lv + 1) X.A) (hg : Gl X x) (hm : X.mg x = some (.ref C)) (hb : KBn X.K fd ps (n + 1) ks g gV) (hx : ∀ σ, PassesAt CX X σ (E σ)) (ha : PA X (e :: es) t) (hkw : PK X kws tk)
    (hall : (backToKw pos (keywordEach kws X.env)).all (·.1.isSome) = true := by rfl) (hks : (backToKw pos (keywordEach kws X.env)).filterMap (·.1) = ks := by rfl) (hdb : (x == ("__debug__" : Str)) = false := by decide)
    (he : starEach (e :: es) X.env = (false, eval e X.env) :: starEach es X.env := by rfl) (hpl : ((backTo pos (starEach (e :: es) X.env)).any (·.1) || (backToKw pos (keywordEach kws X.env)).any (·.1.isNone)) = false := by rfl) :
    PE X (.Call (.Name x p) (e :: es) kws pos) (tNewS C n ks.length sp gV E t tk) := ⟨fun pins s σ H Q I h =>
  wpAny_Call_Name_kw (ld_glob I hg hm (PySem.W.callWith_KW (h₀ := X.base) I.ok.mod.kin M.kp hall (thn (ha.run pos pins s σ H _ I h) fun us s1 ⟨vs, H1, I1, r, q⟩ =>
    thn (hkw.run pos pins s1 σ H1 _ I1 q) fun ws s2 ⟨zs, H2, I2, rz, l1, l2, q2⟩ => ⟨I2.kIn, by
      rw [hks]
      exact run_new M F hr hb (hx σ) I2 r rz l1 l2 q2⟩) hpl he) hdb)⟩
/-- positional arguments alone -/
theorem pe_newP (M : Mk X.K C ad) (F : FnOk X.prog X.w X.K X.mg X.base CX lv ad fd ps sp) (hr : Room (lv + 1) X.A) (hg : Gl X x) (hm : X.mg x = some (.ref C)) (hb : KBn X.K fd ps (n + 1) [] g gV) (hx : ∀ σ, PassesAt CX X σ (E σ)) (ha : PA X (e :: es) t)
    (hdb : (x == ("__debug__" : Str)) = false := by decide) (he : starEach (e :: es) X.env = (false, eval e X.env) :: starEach es X.env := by rfl) (hpl : (backTo pos (starEach es X.env)).any (·.1) = false := by rfl) :
    PE X (.Call (.Name x p) (e :: es) [] pos) (tNewS C n 0 sp gV E t tNil) := ⟨fun pins s σ H Q I h =>
  wpAny_Call_Name_kw (ld_glob I hg hm (PySem.W.callWith_K (h₀ := X.base) I.ok.mod.kin M.kp (thn (ha.run pos pins s σ H _ I h) fun us s1 ⟨vs, H1, I1, r, q⟩ => ⟨I1.kIn, run_new (ws := []) (zs := []) M F hr hb (hx σ) I1 r .nil q.1 rfl q.2.2⟩) he hpl) hdb)⟩
end
theorem isSome_len {α β : Type} {u : List α} {u' : List β} (q : u.length = u'.length) (i : Nat) : (u[i]?).isSome = (u'[i]?).isSome := by
  cases e1 : u[i]? with
  | none => rw [List.getElem?_eq_none (by rw [← q]; exact List.getElem?_eq_none_iff.mp e1)]; rfl
  | some z =>
    have hi := (List.getElem?_eq_some_iff.mp e1).1
    rw [List.getElem?_eq_getElem (by rw [← q]; exact hi)]; rfl
/-- what __init__ promises at the new instance -/
theorem new_obj {lv N n m : Nat} {cc : Nat} {C : Addr} {ms : List D} {mv : List V} {o : List Arg3} {g : List A → Store → RE A} {G F H : Hp} {μ : List Addr} {st : Store} {xs ys : List A} {vs zs : List V} {Q : VK} {E : XK}
    (ow : OwnC k.K cc C []) (hms : Reps k.K (fun _ => none) ms mv) (hl : (g3 o (List.replicate (n + 1) ()) (List.replicate ms.length ()) (List.replicate m ())).length = N) (S : Sim k.K G μ F st H) (r1 : AReps k.K μ F xs vs) (r2 : AReps k.K μ F ys zs) (l1 : xs.length = n) (l2 : ys.length = m)
    (h : Post k G μ F E (fun a _ μ' F' H' => ∀ v, ARep k.K μ' F' a v → Q v H') (newObj cc g (fun s => g3 o (s :: xs) (ms.map .v) ys) st)) (ad dx : Addr) (h1 : H ad = none) (h2 : H dx = none) (hne : dx ≠ ad) :
    spV k N g (g3 o (.ref ad :: vs) mv zs) (upd (upd H dx (.own ad)) ad (.ins C dx [])) (fun v H3 => v = .non ∧ Q (.ref ad) H3) E := by
  have hF := S.freeF h1
  have hG := S.freeG h1
  have hμ := S.notin h1
  have S1 := S.heap (o := .own ad) h2
  have h1' : (upd H dx (.own ad)) ad = none := by rw [upd_ne (Ne.symm hne)]; exact h1
  have S2 := S1.heap (o := .ins C dx []) h1'
  obtain ⟨S3, x3⟩ := S2.pushO (c := cc) upd_same hF hG hμ ow
  have rs : ARep k.K (μ ++ [ad]) F (.ref st.length) (.ref ad) := ⟨ad, by rw [← S.len]; simp, rfl⟩
  have rm : AReps k.K (μ ++ [ad]) F (ms.map .v) mv := AReps.of (hms.mono fun b o z => by cases z)
  have ra := g3_rep (AReps.snoc .nil rs |> fun q => (q : AReps k.K (μ ++ [ad]) F [.ref st.length] [.ref ad]) |> fun q => AReps.append q (AReps.ext x3 r1)) rm (AReps.ext x3 r2) o
  have gl : ∀ {α β : Type} (o : List Arg3) (a b c : List α) (a' b' c' : List β), a.length = a'.length → b.length = b'.length → c.length = c'.length → (g3 o a b c).length = (g3 o a' b' c').length := by
    intro α β o a b c a' b' c' q1 q2 q3
    have lk : ∀ (u : List α) (u' : List β), u.length = u'.length → ∀ i : Nat, (u[i]?).isSome = (u'[i]?).isSome := fun u u' q i => isSome_len q i
    induction o with
    | nil => rfl
    | cons z o ih =>
      unfold g3 at ih ⊢
      cases z with
      | u i =>
        have w := lk a a' q1 i
        cases e1 : a[i]? with
        | none =>
          cases e2 : a'[i]? with
          | none => rw [List.filterMap_cons_none (by exact e1), List.filterMap_cons_none (by exact e2)]; exact ih
          | some _ => rw [e1, e2] at w; cases w
        | some _ =>
          cases e2 : a'[i]? with
          | none => rw [e1, e2] at w; cases w
          | some _ => rw [List.filterMap_cons_some (by exact e1), List.filterMap_cons_some (by exact e2), List.length_cons, List.length_cons, ih]
      | m i =>
        have w := lk b b' q2 i
        cases e1 : b[i]? with
        | none =>
          cases e2 : b'[i]? with
          | none => rw [List.filterMap_cons_none (by exact e1), List.filterMap_cons_none (by exact e2)]; exact ih
          | some _ => rw [e1, e2] at w; cases w
        | some _ =>
          cases e2 : b'[i]? with
          | none => rw [e1, e2] at w; cases w
          | some _ => rw [List.filterMap_cons_some (by exact e1), List.filterMap_cons_some (by exact e2), List.length_cons, List.length_cons, ih]
      | w i =>
        have w := lk c c' q3 i
        cases e1 : c[i]? with
        | none =>
          cases e2 : c'[i]? with
          | none => rw [List.filterMap_cons_none (by exact e1), List.filterMap_cons_none (by exact e2)]; exact ih
          | some _ => rw [e1, e2] at w; cases w
        | some _ =>
          cases e2 : c'[i]? with
          | none => rw [e1, e2] at w; cases w
          | some _ => rw [List.filterMap_cons_some (by exact e1), List.filterMap_cons_some (by exact e2), List.length_cons, List.length_cons, ih]
  refine ⟨?_, G, μ ++ [ad], F, st ++ [.obj cc [] []], _, S3, ra, ?_⟩
  · rw [← hl]
    refine gl o _ _ _ _ _ _ ?_ ?_ ?_
    · rw [List.length_cons, List.length_replicate, ← r1.len, l1]
    · rw [List.length_replicate, ← hms.length]
    · rw [List.length_replicate, ← r2.len, l2]
  unfold newObj at h
  show Post k G (μ ++ [ad]) F E _ (g (g3 o (.ref st.length :: xs) (ms.map .v) ys) (st ++ [.obj cc [] []]))
  cases q : g (g3 o (.ref st.length :: xs) (ms.map .v) ys) (st ++ [.obj cc [] []]) with
  | bad => rw [q] at h; exact h
  | err xx st2 =>
    rw [q] at h
    intro μ5 F5 H5 cls d e5 S5 X5
    have S6 := S5.take μ.length
    have e6 := x3.trans e5
    rw [take_ext e6, S.len] at S6
    exact h μ F5 H5 cls d ⟨⟨[], by simp⟩, e6.2⟩ S6 X5
  | ok z st2 =>
    rw [q] at h
    cases z with
    | ref _ => exact h.elim
    | v d =>
      cases d with
      | non =>
        intro μ5 F5 H5 e5 S5 v rv
        cases rv
        refine ⟨rfl, ?_⟩
        dsimp only at h
        split at h
        · rename_i d st3 q3
          have rr : ARep k.K μ5 F5 (.ref st.length) (.ref ad) := rs.ext e5
          obtain ⟨F6, S6, x6, r6, _⟩ := frz_ok S5 rr q3
          have S7 := S6.take μ.length
          have e7 := (x3.trans e5).trans x6
          rw [take_ext e7, S.len] at S7
          exact h μ F6 H5 ⟨⟨[], by simp⟩, e7.2⟩ S7 _ r6
        · exact h.elim
      | _ => exact h.elim
section
variable {lv n N m cc : Nat} {ad C : Addr} {fd : FuncData} {ps ks : List Str} {g : List A → Store → RE A} {gU : List Value → List Value → List Value} {ms : List D} {mv : List V} {oo : List Arg3}
theorem e_new0 (M : Mk X.K C ad) (Fn : FnOk X.prog X.w X.K X.mg X.base (L2.CX X.prog X.w) lv ad fd ps (spV k N g)) (hr : Room (lv + 1) X.A) (tk : Takes X W) (hg : Gl X x) (hm : X.mg x = some (.ref C)) (hb : KBn X.K fd ps 1 ks gU (fun vs zs => g3 oo vs mv zs)) (ow : OwnC k.K cc C []) (hms : Reps k.K (fun _ => none) ms mv)
    (hkw : PK X kws (dA k W (fArgs gs))) (hl : (g3 oo (List.replicate 1 ()) (List.replicate ms.length ()) (List.replicate ks.length ())).length = N := by rfl) (hn : gs.length = ks.length := by rfl)
    (hall : (backToKw pos (keywordEach kws X.env)).all (·.1.isSome) = true := by rfl) (hks : (backToKw pos (keywordEach kws X.env)).filterMap (·.1) = ks := by rfl) (hdb : (x == ("__debug__" : Str)) = false := by decide)
    (hpl : ((backTo pos (starEach [] X.env)).any (·.1) || (backToKw pos (keywordEach kws X.env)).any (·.1.isNone)) = false := by rfl) :
    PE X (.Call (.Name x p) [] kws pos) (dE k W (fNew cc 0 oo ms g gs)) :=
  pe_weak (pe_new0 M Fn hr hg hm hb (E := WE W) (fun σ => passAt tk σ) hkw hall hks hdb hpl) fun σ H Q h => by
    obtain ⟨G, μ, F, st, σd, S, R, h⟩ := h
    refine ⟨G, μ, F, st, σd, S, R, (Post.bindE (show Post k G μ F _ _ ((fArgs gs σd st).bind fun xs st1 => newObj cc g (fun s => g3 oo (s :: xs.take 0) (ms.map .v) (xs.drop 0)) st1) from h)).mono fun xs st1 μ1 F1 H1 e1 S1 ⟨hq, h1⟩ vs rv => ?_⟩
    have l1 := fArgs_len _ _ _ _ _ hq
    exact ⟨rfl, by rw [← rv.len, l1, hn], fun a dx => new_obj (n := 0) (m := ks.length) (lv := lv) ow hms hl S1 .nil rv rfl (by rw [l1, hn]) h1 a dx⟩
theorem e_newK (M : Mk X.K C ad) (Fn : FnOk X.prog X.w X.K X.mg X.base (L2.CX X.prog X.w) lv ad fd ps (spV k N g)) (hr : Room (lv + 1) X.A) (tk : Takes X W) (hg : Gl X x) (hm : X.mg x = some (.ref C)) (hb : KBn X.K fd ps (n + 1) ks gU (fun vs zs => g3 oo vs mv zs)) (ow : OwnC k.K cc C []) (hms : Reps k.K (fun _ => none) ms mv)
    (ha : PA X (e :: es) (dA k W (fArgs fs))) (hkw : PK X kws (dA k W (fArgs gs))) (hl : (g3 oo (List.replicate (n + 1) ()) (List.replicate ms.length ()) (List.replicate ks.length ())).length = N := by rfl) (hn : fs.length = n := by rfl) (hn2 : gs.length = ks.length := by rfl)
    (hall : (backToKw pos (keywordEach kws X.env)).all (·.1.isSome) = true := by rfl) (hks : (backToKw pos (keywordEach kws X.env)).filterMap (·.1) = ks := by rfl) (hdb : (x == ("__debug__" : Str)) = false := by decide)
    (he : starEach (e :: es) X.env = (false, eval e X.env) :: starEach es X.env := by rfl) (hpl : ((backTo pos (starEach (e :: es) X.env)).any (·.1) || (backToKw pos (keywordEach kws X.env)).any (·.1.isNone)) = false := by rfl) :
    PE X (.Call (.Name x p) (e :: es) kws pos) (dE k W (fNew cc n oo ms g (fs ++ gs))) :=
  pe_weak (pe_newK M Fn hr hg hm hb (E := WE W) (fun σ => passAt tk σ) ha hkw hall hks hdb he hpl) fun σ H Q h => by
    subst hn
    refine args2 (k := k) (W := W) (fs := fs) (gs := gs) σ H Q (r := fun vs zs H2 Q => vs.length = fs.length ∧ zs.length = ks.length ∧ ∀ a dx, H2 a = none → H2 dx = none → dx ≠ a → spV k N g (g3 oo (.ref a :: vs) mv zs) (upd (upd H2 dx (.own a)) a (.ins C dx [])) (fun v H3 => v = .non ∧ Q (.ref a) H3) (WE W σ))
      (g := fun xs ys st1 => newObj cc g (fun s => g3 oo (s :: xs) (ms.map .v) ys) st1) ?_ h
    intro G μ F st H xs ys vs zs S r1 r2 l1 l2 h1
    exact ⟨by rw [← r1.len, l1], by rw [← r2.len, l2, hn2], fun a dx => new_obj (n := fs.length) (m := ks.length) (lv := lv) ow hms hl S r1 r2 l1 (by rw [l2, hn2]) h1 a dx⟩
theorem e_newP (M : Mk X.K C ad) (Fn : FnOk X.prog X.w X.K X.mg X.base (L2.CX X.prog X.w) lv ad fd ps (spV k N g)) (hr : Room (lv + 1) X.A) (tk : Takes X W) (hg : Gl X x) (hm : X.mg x = some (.ref C)) (hb : KBn X.K fd ps (n + 1) [] gU (fun vs zs => g3 oo vs mv zs)) (ow : OwnC k.K cc C []) (hms : Reps k.K (fun _ => none) ms mv)
    (ha : PA X (e :: es) (dA k W (fArgs fs))) (hl : (g3 oo (List.replicate (n + 1) ()) (List.replicate ms.length ()) (List.replicate 0 ())).length = N := by rfl) (hn : fs.length = n := by rfl)
    (hdb : (x == ("__debug__" : Str)) = false := by decide) (he : starEach (e :: es) X.env = (false, eval e X.env) :: starEach es X.env := by rfl) (hpl : (backTo pos (starEach es X.env)).any (·.1) = false := by rfl) :
    PE X (.Call (.Name x p) (e :: es) [] pos) (dE k W (fNew cc n oo ms g fs)) :=
  pe_weak (pe_newP M Fn hr hg hm hb (E := WE W) (fun σ => passAt tk σ) ha hdb he hpl) fun σ H Q h => by
    obtain ⟨G, μ, F, st, σd, S, R, h⟩ := h
    refine ⟨G, μ, F, st, σd, S, R, (Post.bindE (show Post k G μ F _ _ ((fArgs fs σd st).bind fun xs st1 => newObj cc g (fun s => g3 oo (s :: xs.take n) (ms.map .v) (xs.drop n)) st1) from h)).mono fun xs st1 μ1 F1 H1 e1 S1 ⟨hq, h1⟩ vs rv => ?_⟩
    have l1 := fArgs_len _ _ _ _ _ hq
    have l2 : xs.length = n := by rw [l1, hn]
    rw [List.take_of_length_le (by omega), List.drop_eq_nil_of_le (by omega)] at h1
    exact ⟨by rw [← rv.len, l2], rfl, fun a dx => new_obj (n := n) (m := 0) (lv := lv) ow hms hl S1 rv .nil l2 rfl h1 a dx⟩
/-! ### defs called with keywords or defaults -/
theorem e_callK (Fn : FnOk X.prog X.w X.K X.mg X.base (L2.CX X.prog X.w) lv ad fd ps (spV k N g)) (hr : Room lv X.A) (tk : Takes X W) (hg : Gl X x) (hm : X.mg x = some (.ref ad)) (hkp : PySem.W.keepIn X.K (.ref ad) = true) (hb : KBn X.K fd ps n ks gU (fun vs zs => g3 oo vs mv zs)) (hms : Reps k.K (fun _ => none) ms mv)
    (ha : PA X (e :: es) (dA k W (fArgs fs))) (hkw : PK X kws (dA k W (fArgs gs))) (hlen : ∀ vs zs : List V, vs.length = n → zs.length = ks.length → (g3 oo vs mv zs).length = N) (hn : fs.length = n := by rfl) (hn2 : gs.length = ks.length := by rfl)
    (hall : (backToKw pos (keywordEach kws X.env)).all (·.1.isSome) = true := by rfl) (hks : (backToKw pos (keywordEach kws X.env)).filterMap (·.1) = ks := by rfl) (hdb : (x == ("__debug__" : Str)) = false := by decide)
    (he : starEach (e :: es) X.env = (false, eval e X.env) :: starEach es X.env := by rfl) (hpl : ((backTo pos (starEach (e :: es) X.env)).any (·.1) || (backToKw pos (keywordEach kws X.env)).any (·.1.isNone)) = false := by rfl) :
    PE X (.Call (.Name x p) (e :: es) kws pos) (dE k W (fCallK n oo ms g (fs ++ gs))) := by
  subst hn
  have run : PE X (.Call (.Name x p) (e :: es) kws pos) fun σ H Q => dA k W (fArgs fs) σ H fun vs H1 => dA k W (fArgs gs) σ H1 fun zs H2 => vs.length = fs.length ∧ zs.length = ks.length ∧ spV k N g (g3 oo vs mv zs) H2 Q (WE W σ) := by
    refine ⟨fun pins s σ H Q I h => wpAny_Call_Name_kw (ld_glob I hg hm (PySem.W.callWith_KW (h₀ := X.base) I.ok.mod.kin hkp hall (thn (ha.run pos pins s σ H _ I h) fun us s1 ⟨vs, H1, I1, r, q⟩ =>
      thn (hkw.run pos pins s1 σ H1 _ I1 q) fun ws s2 ⟨zs, H2, I2, rz, l1, l2, q2⟩ => ⟨I2.kIn, ?_⟩) hpl he) hdb)⟩
    rw [hks]
    have rr := hb.rel r rz
    refine wpAny_call (codeAny_mono (Fn.run X.A X.stack s2 H2 ⟨us, ks.zip ws⟩ _ _ Q (WE W σ) hr I2.env0 (hb.to s2 us ws I2.kIn (r.length.symm.trans l1) (rz.length.symm.trans l2)) rr q2) fun res s' hres => ?_)
    match res, hres with
    | .error e, hres => exact passAt tk σ pins H2 s2 e s' I2 hres
    | .ok (.ret u), hres => exact I2.after hres
    | .ok .next, hres => exact hres.elim
    | .ok .brk, hres => exact hres.elim
    | .ok .cont, hres => exact hres.elim
  refine pe_weak run fun σ H Q h => ?_
  refine args2 (k := k) (W := W) (fs := fs) (gs := gs) σ H Q (r := fun vs zs H2 Q => vs.length = fs.length ∧ zs.length = ks.length ∧ spV k N g (g3 oo vs mv zs) H2 Q (WE W σ))
    (g := fun xs ys st1 => g (g3 oo xs (ms.map .v) ys) st1) ?_ h
  intro G μ F st H xs ys vs zs S r1 r2 l1 l2 h1
  have e1 : vs.length = fs.length := by rw [← r1.len, l1]
  have e2 : zs.length = ks.length := by rw [← r2.len, l2, hn2]
  exact ⟨e1, e2, hlen vs zs e1 e2, G, μ, F, st, _, S, g3_rep r1 (AReps.of (hms.mono fun b o z => by cases z)) r2 oo, h1⟩
end
/-! ### defs held by a name -/
/-- what a table of defs says -/
inductive TbOk (X : Cx) (k : Kx) (n : Nat) : List (Nat × (List A → Store → RE A)) → Prop
  | nil : TbOk X k n []
  | cons {c lv : Nat} {g : List A → Store → RE A} {tb : List (Nat × (List A → Store → RE A))} {ad : Addr} {fd : FuncData} {ps : List Str} : k.mg (nm c) = some (.ref ad) → FnOk X.prog X.w X.K X.mg X.base (L2.CX X.prog X.w) lv ad fd ps (spV k n g) → Room lv X.A → PySem.W.keepIn X.K (.ref ad) = true → Binds X.K fd ps [] →
      TbOk X k n tb → TbOk X k n ((c, g) :: tb)
theorem TbOk.find {n : Nat} {y : Nat} {q : Nat × (List A → Store → RE A)} : ∀ {tb : List (Nat × (List A → Store → RE A))}, TbOk X k n tb → tb.find? (fun p => p.1 = y) = some q → q.1 = y ∧
    ∃ ad fd ps lv, k.mg (nm y) = some (.ref ad) ∧ FnOk X.prog X.w X.K X.mg X.base (L2.CX X.prog X.w) lv ad fd ps (spV k n q.2) ∧ Room lv X.A ∧ PySem.W.keepIn X.K (.ref ad) = true ∧ Binds X.K fd ps []
  | [], _, h => by cases h
  | (c, g) :: tb, .cons h1 h2 h3 h4 h5 t, h => by
    rw [List.find?_cons] at h
    split at h
    · rename_i hc
      cases h
      have hc' : c = y := by simpa using hc
      exact ⟨hc', _, _, _, _, by rw [← hc']; exact h1, h2, h3, h4, h5⟩
    · exact TbOk.find t h
theorem e_callV {i n : Nat} {tb : List (Nat × (List A → Store → RE A))} (hT : TbOk X k n tb) (tk : Takes X W) (hN : X.N[i]? = some x) (hv : Vis X.env.scope x) (ha : PA X (e :: es) (dA k W (fArgs fs))) (hl : fs.length = n := by rfl)
    (hd : (x == ("__debug__" : Str)) = false := by decide) (hcd : (x == ("__classdict__" : Str)) = false := by decide) (he : starEach (e :: es) X.env = (false, eval e X.env) :: starEach es X.env := by rfl) (hpl : (backTo pos (starEach es X.env)).any (·.1) = false := by rfl) :
    PE X (.Call (.Name x p) (e :: es) [] pos) (dE k W (fCallV i tb fs)) := by
  have run : PE X (.Call (.Name x p) (e :: es) [] pos) fun σ H Q => ∃ ad lv sp fd ps, σ[i]? = some (some (.ref ad)) ∧ FnOk X.prog X.w X.K X.mg X.base (L2.CX X.prog X.w) lv ad fd ps sp ∧ Room lv X.A ∧ PySem.W.keepIn X.K (.ref ad) = true ∧ Binds X.K fd ps [] ∧ dA k W (fArgs fs) σ H fun vs H1 => sp vs H1 Q (WE W σ) := by
    refine ⟨fun pins s σ H Q I ⟨ad, lv, sp, fd, ps, hs, Fn, hr, hkp, hb, h⟩ => ?_⟩
    refine wpAny_Call_Name_kw (thn ((pe_var (pos := p) (i := i) hN hv hd hcd).run pins s σ H (fun v H1 => v = .ref ad ∧ H1 = H) I ⟨.ref ad, hs, rfl, rfl⟩) fun u s1 ⟨v, H1, I1, r1, ev, eH⟩ => ?_)
    cases ev
    cases r1
    rw [eH] at I1
    refine PySem.W.callWith_K (h₀ := X.base) I.ok.mod.kin hkp (thn (ha.run pos pins s1 σ H _ I1 h) fun us s2 ⟨vs, H2, I2, r, q⟩ => ⟨I2.kIn, ?_⟩) he hpl
    exact run_fnSD Fn hr hb .nil (passAt tk σ) I2 r (by rw [List.append_nil]; exact q)
  refine pe_weak run fun σ H Q h => ?_
  obtain ⟨G, μ, F, st, σd, S, R, h⟩ := h
  unfold fCallV at h
  split at h
  · rename_i y q
    obtain ⟨v, h1, h2⟩ := R.at_ _ _ q
    split at h
    · rename_i pr q2
      obtain ⟨_, ad, fd, ps, lv, e1, Fn, hr, hkp, hb⟩ := hT.find q2
      cases h2 with
      | fn h3 =>
        have e3 := e1.symm.trans h3
        cases e3
        refine ⟨ad, lv, _, fd, ps, h1, Fn, hr, hkp, hb, G, μ, F, st, σd, S, R, (Post.bindE h).mono fun xs st1 μ1 F1 H1 e1 S1 ⟨hq, h5⟩ vs rv => ?_⟩
        exact ⟨by rw [← rv.len, fArgs_len _ _ _ _ _ hq, hl], G, μ1, F1, st1, xs, S1, rv, h5⟩
    · exact h.elim
  · exact h.elim
/-! ### written dicts -/
theorem pairs_run {ks : List Str} : ∀ {fs : List EF} {σ : St} {H : Hp} {Q : List (V × V) → Hp → Prop}, ks.length = fs.length → (dA k W (fArgs fs) σ H fun vs H' => Q ((ks.map V.str).zip vs) H') → tPairs ((ks.zip fs).map fun p => (tC (.str p.1), dE k W p.2)) σ H Q := by
  induction ks with
  | nil =>
    intro fs σ H Q hl h
    cases fs with
    | cons _ _ => cases hl
    | nil =>
      obtain ⟨G, μ, F, st, σd, S, R, h⟩ := h
      exact h μ F H (Ext.refl _ _) S [] .nil
  | cons x ks ih =>
    intro fs σ H Q hl h
    cases fs with
    | nil => cases hl
    | cons f fs =>
      obtain ⟨G, μ, F, st, σd, S, R, h⟩ := h
      show dE k W f σ H fun y H2 => tPairs ((ks.zip fs).map fun p => (tC (.str p.1), dE k W p.2)) σ H2 fun ps H3 => Q ((.str x, y) :: ps) H3
      refine ⟨G, μ, F, st, σd, S, R, (Post.bind (show Post k G μ F _ _ ((f σd st).bind fun a st1 => (fArgs fs σd st1).bind fun r st2 => .ok (a :: r) st2) from h)).mono fun z st1 μ1 F1 H1 e1 S1 h1 v rv => ?_⟩
      refine ih (by simpa using hl) ⟨G, μ1, F1, st1, σd, S1, R.ext e1, (Post.bind h1).mono fun r st2 μ2 F2 H2 e2 S2 h2 ws rws => ?_⟩
      exact h2 μ2 F2 H2 (Ext.refl _ _) S2 (v :: ws) (.cons (rv.ext e2) rws)
theorem merge_new : ∀ (more acc : List (Key × V)), ((acc ++ more).map (·.1)).Nodup → mergeK acc more = acc ++ more
  | [], acc, _ => by show acc = _; rw [List.append_nil]
  | (q, v) :: more, acc, h => by
    show mergeK (putK acc q v) more = _
    have hn : valV acc q = none := by
      rw [List.map_append, List.nodup_append] at h
      unfold valV
      cases e : acc.find? (fun kv => decide (kv.1 = q)) with
      | none => simp [e]
      | some z =>
        exfalso
        have h1 := List.find?_some e
        have h2 := List.mem_of_find?_eq_some e
        exact h.2.2 z.1 (List.mem_map_of_mem h2) q (by simp) (of_decide_eq_true h1)
    rw [putK_new v hn, merge_new more (acc ++ [(q, v)]) (by rw [List.append_assoc]; exact h), List.append_assoc]
    rfl
theorem e_dic {keys : List (Option Expr)} {values : List Expr} {ks : List Str} (h : PPs X pos keys values ((ks.zip fs).map fun p => (tC (.str p.1), dE k W p.2))) (hnd : ks.Nodup) (hl : ks.length = fs.length := by rfl) (h15 : ks.length ≤ 15 := by decide)
    (hall : keys.all (·.isSome) = true := by rfl) (hkl : keys.length = values.length := by rfl) (h0 : keys ≠ [] := by intro z; cases z) (hk15 : keys.length ≤ 15 := by decide) : PE X (.Dict keys values pos) (dE k W (fDic ks fs)) :=
  pe_weak (pe_disp h hall hkl h0 hk15) fun σ H Q ⟨G, μ, F, st, σd, S, R, h⟩ => by
    intro ad had
    have hF := S.freeF had
    have hG := S.freeG had
    have hμ := S.notin had
    have S1 := (S.heap (o := .dK []) had).aside upd_same hF hG hμ
    refine pairs_run hl ⟨upd G ad (.dK []), μ, F, st, σd, S1, R, ?_⟩
    have h' : Post k G μ F (fun c d H' => W c d σ H') (fun a _ μ' F' H' => ∀ v, ARep k.K μ' F' a v → Q v H') ((fArgs fs σd st).bind fun xs st1 => match frzL st1 xs with
      | some (ds, st2) => .ok (.v (.dic ks ds)) st2
      | none => .bad) := h
    cases q : fArgs fs σd st with
    | bad => rw [q] at h'; exact h'
    | err x st1 =>
      rw [q] at h'
      intro μ1 F1 H1 cls d e1 S2 X2
      exact h' μ1 F1 H1 cls d e1 (S2.back hG).1 X2
    | ok xs st1 =>
      rw [q] at h'
      intro μ1 F1 H1 e1 S2 vs rv
      obtain ⟨S3, hp, hF1, hμ1⟩ := S2.back hG
      have lxs := fArgs_len _ _ _ _ _ q
      have lvs : vs.length = ks.length := by rw [← rv.len, lxs, hl]
      dsimp only [bind_ok] at h'
      refine ⟨hp, (ks.zip vs).map fun p => (Sum.inr p.1, p.2), ?_, ?_, ?_⟩
      · rw [List.map_map]
        have : ∀ (ks : List Str) (vs : List V), (ks.map V.str).zip vs = (ks.zip vs).map ((fun kv : Key × V => (kV kv.1, kv.2)) ∘ fun p => (Sum.inr p.1, p.2)) := by
          intro ks
          induction ks with
          | nil => intro vs; rfl
          | cons a ks ih =>
            intro vs
            cases vs with
            | nil => rfl
            | cons b vs => show (V.str a, b) :: (ks.map V.str).zip vs = _; rw [ih]; rfl
        exact this ks vs
      · rw [List.length_map, List.length_zip]; omega
      · have hk1 : ((ks.zip vs).map fun p => ((Sum.inr p.1 : Key), p.2)).map (·.1) = ks.map Sum.inr := by
          rw [List.map_map]
          have : ∀ (ks : List Str) (vs : List V), vs.length = ks.length → (ks.zip vs).map ((fun kv : Key × V => kv.1) ∘ fun p => ((Sum.inr p.1 : Key), p.2)) = ks.map Sum.inr := by
            intro ks
            induction ks with
            | nil => intro vs _; rfl
            | cons a ks ih =>
              intro vs hh
              cases vs with
              | nil => cases hh
              | cons b vs => show Sum.inr a :: (ks.zip vs).map _ = _; rw [ih vs (by simpa using hh)]; rfl
          exact this ks vs lvs
        have hk2 : ((ks.zip vs).map fun p => ((Sum.inr p.1 : Key), p.2)).map (·.2) = vs := by
          rw [List.map_map]
          have : ∀ (ks : List Str) (vs : List V), vs.length = ks.length → (ks.zip vs).map ((fun kv : Key × V => kv.2) ∘ fun p => ((Sum.inr p.1 : Key), p.2)) = vs := by
            intro ks
            induction ks with
            | nil => intro vs hh; cases vs with
              | nil => rfl
              | cons _ _ => cases hh
            | cons a ks ih =>
              intro vs hh
              cases vs with
              | nil => cases hh
              | cons b vs => show b :: (ks.zip vs).map _ = _; rw [ih vs (by simpa using hh)]
          exact this ks vs lvs
        have hnd2 : ((([] : List (Key × V)) ++ (ks.zip vs).map fun p => ((Sum.inr p.1 : Key), p.2)).map (·.1)).Nodup := by
          rw [List.nil_append, hk1]
          exact List.Pairwise.map _ (fun a b z e => z (Sum.inr.inj e)) hnd
        rw [merge_new _ _ hnd2, List.nil_append]
        split at h'
        · rename_i ds st2 q2
          obtain ⟨F2, S4, x4, r4, n4⟩ := frzL_ok S3 rv q2
          have hF2 := n4 ad hμ1 hF1
          have S5 := (S4.other (p := ad) (o := .dK ((ks.zip vs).map fun p => ((Sum.inr p.1 : Key), p.2))) hF2 hG hμ1)
          obtain ⟨S6, x6⟩ := S5.keep upd_same hF2 hG hμ1
          exact h' μ1 _ _ ((e1.trans x4).trans x6) S6 _ (Rep.dic upd_same hk1 hnd (by rw [hk2]; exact r4.mono x6.2))
        · exact h'.elim
end
end Dn

set_option linter.all false
set_option Elab.async false
set_option maxRecDepth 100000
/-! Zip3: zip of three. -/
namespace Dn
open PySem PySem.Spec PyProof.Rows L2
def Itz3 (K : PySem.W.Frag) (b1 b2 b3 : Bool) (a b c : Addr) : It :=
  ⟨fun i H => ∃ (xs ys zs : List V) (x y z : V), SqB K H b1 a xs ∧ SqB K H b2 b ys ∧ SqB K H b3 c zs ∧ xs[i]? = some x ∧ ys[i]? = some y ∧ zs[i]? = some z,
    fun i H v H' => ∃ T x y z, v = .ref T ∧ H T = none ∧ H' = upd H T (.tup [x, y, z]) ∧ (∀ xs, SqB K H b1 a xs → xs[i]? = some x) ∧ (∀ ys, SqB K H b2 b ys → ys[i]? = some y) ∧ ∀ zs, SqB K H b3 c zs → zs[i]? = some z,
    fun i H => ∃ xs ys zs : List V, SqB K H b1 a xs ∧ SqB K H b2 b ys ∧ SqB K H b3 c zs ∧ i ≤ xs.length ∧ i ≤ ys.length ∧ i ≤ zs.length ∧ (i = xs.length ∨ i = ys.length ∨ i = zs.length)⟩
theorem turn_zip3 {P : Program} {w : World} {K : PySem.W.Frag} {elts : List Expr} {kk : Nat} {tpos : Pos} {b1 b2 b3 : Bool} {a b c z TI TO i1 i2 i3 : Addr} (D : ZipSep3 z TI TO i1 i2 i3 [i1, a] [i2, b] [i3, c]) (n1 : a ≠ i1) (n2 : b ≠ i2) (n3 : c ≠ i3) :
    Turn P w K (.Tuple elts kk tpos) (Itz3 K b1 b2 b3 a b c) [z, TI, TO, i1, i2, i3] z (fun i h => IsZip h z TI TO .none ∧ IsTupOf3 h TI (.ref i1) (.ref i2) (.ref i3) ∧ (∃ x y u, IsTupOf3 h TO x y u) ∧ ItB h b1 i1 a i ∧ ItB h b2 i2 b i ∧ ItB h b3 i3 c i) where
  mem := by simp
  obj := fun i h st q hc => by
    obtain ⟨hz, hTI, ⟨x, y, u, hTO⟩, h1, h2, h3⟩ := st
    have e' : q = z ∨ q = TI ∨ q = TO ∨ q = i1 ∨ q = i2 ∨ q = i3 := by simpa using hc
    rcases e' with q | q | q | q | q | q
    · rw [q]; exact ⟨_, hz, fun v q => nomatch q⟩
    · rw [q]; exact ⟨_, hTI, fun v q => nomatch q⟩
    · rw [q]; exact ⟨_, hTO, fun v q => nomatch q⟩
    · rw [q]; exact h1.obj
    · rw [q]; exact h2.obj
    · rw [q]; exact h3.obj
  keep := fun i h h' st k => by
    obtain ⟨hz, hTI, ⟨x, y, u, hTO⟩, h1, h2, h3⟩ := st
    exact ⟨k z (by simp) _ hz, k TI (by simp) _ hTI, ⟨x, y, u, k TO (by simp) _ hTO⟩, h1.at fun o q => k i1 (by simp) o q, h2.at fun o q => k i2 (by simp) o q, h3.at fun o q => k i3 (by simp) o q⟩
  item := by
    intro X hP hw hK hc i pins s σ H E I hf st hg
    subst hP hw hK
    obtain ⟨hz, hTI, ⟨x0, y0, u0, hTO⟩, h1, h2, h3⟩ := st
    obtain ⟨xs, ys, zs, x, y, v, hqx, hqy, hqz, hx, hy, hv⟩ := hg
    obtain ⟨its, rv, p⟩ := seqB I hqx
    obtain ⟨its2, rv2, p2⟩ := seqB I hqy
    obtain ⟨its3, rv3, p3⟩ := seqB I hqz
    obtain ⟨u, hu, ru⟩ := rv.get hx
    obtain ⟨u2, hu2, ru2⟩ := rv2.get hy
    obtain ⟨u3, hu3, ru3⟩ := rv3.get hv
    have hzl : z < s.heap.objs.size := Heap.lt_size hz
    have hh : X.A.in1.handled = none := I.ok.hd hc
    have len : ∀ {us : List Value} {w : Value}, us[i]? = some w → i < us.toArray.size := fun e => by rw [List.size_toArray]; exact (List.getElem?_eq_some_iff.mp e).1
    refine wpAny_pyNext_zipD3_item D (drawsB hh b1 i1 a n1 its.toArray) (drawsB hh b2 i2 b n2 its2.toArray) (drawsB hh b3 i3 c n3 its3.toArray) hz hTI hTO ⟨h1, p⟩ ⟨h2, p2⟩ ⟨h3, p3⟩
      (len hu) (len hu2) (len hu3) fun w1 w2 w3 h' tk hw1 hw2 hw3 z' TO' s1' s2' s3' hT hsz hk => ?_
    have same : ∀ {us : List Value} {w w' : Value}, us.toArray[i]? = some w → us[i]? = some w' → w = w' := fun e e' => by
      have e1 := e
      rw [List.getElem?_toArray, e'] at e1
      exact (Option.some.inj e1).symm
    have e1 : w1 = u := same hw1 hu
    have e2 : w2 = u2 := same hw2 hu2
    have e3 : w3 = u3 := same hw3 hu3
    subst e1 e2 e3
    refine ⟨_, rfl, wpAny_letOwnedTupleGo_zip (s := { s with heap := h', toks := tk }) z' fun h'' z'' sb => ?_⟩
    have hT2 : h''.get? s.heap.objs.size = some { cls := .type "tuple", data := .seq #[w1, w2, w3] } := (sb.2 _ (Nat.ne_of_gt hzl)).trans hT
    have new : ObjOk X.prog X.w (upd H s.heap.objs.size (.tup [x, y, v])) h'' s.heap.objs.size (.tup [x, y, v]) :=
      ⟨by show 3 ≤ sizeLine; decide, [w1, w2, w3], .cons ru (.cons ru2 (.cons ru3 .nil)), ⟨_, hT2, rfl, _, rfl⟩⟩
    have I1 : Inv X pins σ (upd H s.heap.objs.size (.tup [x, y, v])) { s with heap := h'', toks := tk } :=
      I.turnedNew (t' := tk) (ch := [z, TI, TO, i1, i2, i3]) (fun q o hb e => (sb.2 q (fun q' => hb (by simp [q']))).trans (hk q o (fun q' => hb (by simp [q'])) (fun q' => hb (by simp [q'])) (fun q' => hb (by simp [q'])) (fun q' => hb (by simp [q'])) (fun q' => hb (by simp [q'])) e)) hf (Nat.le_refl _) new
    refine ⟨.ref s.heap.objs.size, _, I1, rfl, ⟨_, x, y, v, rfl, I.hok.fresh (Nat.le_refl _), rfl, fun l hl => by rw [seqB_inj I hl hqx]; exact hx, fun l hl => by rw [seqB_inj I hl hqy]; exact hy, fun l hl => by rw [seqB_inj I hl hqz]; exact hv⟩,
      ⟨z'', ?_, ⟨w1, w2, w3, ?_⟩, ?_, ?_, ?_⟩, fun q hcm => ?_⟩
    · exact (sb.2 _ D.TIz).trans (hk _ _ D.TIz D.TITO D.TIi1 D.TIi2 D.TIi3 hTI)
    · exact (sb.2 _ D.TOz).trans TO'
    · exact s1'.1.at fun o e => (sb.2 _ D.zi1.symm).trans e
    · exact s2'.1.at fun o e => (sb.2 _ D.zi2.symm).trans e
    · exact s3'.1.at fun o e => (sb.2 _ D.zi3.symm).trans e
    · have hlt : q < s.heap.objs.size := by
        have e' : q = z ∨ q = TI ∨ q = TO ∨ q = i1 ∨ q = i2 ∨ q = i3 := by simpa using hcm
        rcases e' with e | e | e | e | e | e
        · rw [e]; exact hzl
        · rw [e]; exact Heap.lt_size hTI
        · rw [e]; exact Heap.lt_size hTO
        · rw [e]; obtain ⟨_, e1, _⟩ := h1.obj; exact Heap.lt_size e1
        · rw [e]; obtain ⟨_, e2, _⟩ := h2.obj; exact Heap.lt_size e2
        · rw [e]; obtain ⟨_, e2, _⟩ := h3.obj; exact Heap.lt_size e2
      rw [upd_ne (Nat.ne_of_lt hlt)]
      exact (hf q hcm).1
  done := by
    intro X hP hw hK hc i pins s σ H E I hf st hg
    subst hP hw hK
    obtain ⟨hz, hTI, ⟨x0, y0, u0, hTO⟩, h1, h2, h3⟩ := st
    obtain ⟨xs, ys, zs, hqx, hqy, hqz, l1, l2, l3, hend⟩ := hg
    obtain ⟨its, rv, p⟩ := seqB I hqx
    obtain ⟨its2, rv2, p2⟩ := seqB I hqy
    obtain ⟨its3, rv3, p3⟩ := seqB I hqz
    have m1 := rv.length
    have m2 := rv2.length
    have m3 := rv3.length
    have hh : X.A.in1.handled = none := I.ok.hd hc
    exact wpAny_pyNext_zipD3_end D (drawsB hh b1 i1 a n1 its.toArray) (drawsB hh b2 i2 b n2 its2.toArray) (drawsB hh b3 i3 c n3 its3.toArray) hz hTI hTO ⟨h1, p⟩ ⟨h2, p2⟩ ⟨h3, p3⟩ (by rw [List.size_toArray]; omega) (by rw [List.size_toArray]; omega) (by rw [List.size_toArray]; omega)
      (by rw [List.size_toArray, List.size_toArray, List.size_toArray]; omega) fun h' tk hk => ⟨rfl, I.turnedL (t' := tk) (ch := [z, TI, TO, i1, i2, i3]) (fun q o hb e =>
      hk q o (fun q' => hb (by simp [q'])) (fun q' => hb (by simp [q'])) (fun q' => hb (by simp [q'])) (fun q' => hb (by simp [q'])) (fun q' => hb (by simp [q'])) e) hf⟩
  self := fun A i s Q E st h => wpAny_pyIter_zip st.1 h
def iZipB3 (K : PySem.W.Frag) (ta : TA) : TI := fun σ H R => ta σ H fun vs H1 => ∃ b1 b2 b3 a b c xs ys zs, vs = [.ref a, .ref b, .ref c] ∧ SqB K H1 b1 a xs ∧ SqB K H1 b2 b ys ∧ SqB K H1 b3 c zs ∧ R (Itz3 K b1 b2 b3 a b c) H1
theorem pi_zipB3 {X : Cx} {e e2 e3 : Expr} {ta : TA} {p pos tpos : Pos} {elts : List Expr} {kk : Nat} (hg : Gl X "zip") (hm : X.mg "zip" = none) (ha : PA X [e, e2, e3] ta)
    (hs : starEach [e, e2, e3] X.env = (false, eval e X.env) :: starEach [e2, e3] X.env := by rfl) (hpl : (backTo pos (starEach [e2, e3] X.env)).any (·.1) = false := by rfl) :
    PI X (.Tuple elts kk tpos) (.Call (.Name "zip" p) [e, e2, e3] [] pos) (iZipB3 X.K ta) := by
  refine ⟨fun pins s σ H R I h => ?_⟩
  refine Call_ (ld_blt I hg hm PyProof.Rows.boot_zip (PyProof.Rows.callWith_type1 (thn (ha.run pos pins s σ H _ I h) fun us s1 ⟨vs, H1, I1, r1, q1⟩ => ?_) hs hpl))
  obtain ⟨b1, b2, b3, a, b, c, xs, ys, zs, ex, hqx, hqy, hqz, q⟩ := q1
  subst ex
  cases r1 with
  | cons r rr =>
    cases rr with
    | cons r' rr =>
     cases rr with
     | cons r'' rr =>
      cases rr
      cases r
      cases r'
      cases r''
      obtain ⟨its, rv, p1⟩ := seqB I1 hqx
      obtain ⟨its2, rv2, p2⟩ := seqB I1 hqy
      obtain ⟨its3, rv3, p3⟩ := seqB I1 hqz
      have la := p1.lt
      have lb := p2.lt
      have lc := p3.lt
      refine zip_begins3 (beginsB b1 a its.toArray) (beginsB b2 b its2.toArray) (beginsB b3 c its3.toArray) p1 p2 p3 fun h' hz hTI hTO h1 h2 h3 hsz hk => wpAny_pyIter_zip hz ?_
      have I2 : Inv X pins σ H1 { s1 with heap := h' } := I1.kept (t' := s1.toks) hk
      refine ⟨s1.heap.objs.size + 5, [s1.heap.objs.size + 5, s1.heap.objs.size + 3, s1.heap.objs.size + 4, s1.heap.objs.size, s1.heap.objs.size + 1, s1.heap.objs.size + 2], _, _, H1, rfl, I2,
        turn_zip3 (zip_sep3 (fp1 := [a]) (fp2 := [b]) (fp3 := [c]) (by simpa using la) (by simpa using lb) (by simpa using lc)) (Nat.ne_of_lt la) (Nat.ne_of_lt (Nat.lt_succ_of_lt lb)) (Nat.ne_of_lt (Nat.lt_succ_of_lt (Nat.lt_succ_of_lt lc))),
        ⟨hz, hTI, ⟨_, _, _, hTO⟩, itB_new h1, itB_new h2, itB_new h3⟩, fun q hcm => ?_, q⟩
      have hle : s1.heap.objs.size ≤ q := by
        simp at hcm
        rcases hcm with z | z | z | z | z | z <;> (rw [z]; omega)
      exact I1.fpOk hle (I1.hok.fresh hle)
theorem zipA3_len : ∀ (ds es fs : List D), (zipA3 ds es fs).length = min ds.length (min es.length fs.length)
  | [], _, _ => by simp [zipA3]
  | _ :: _, [], _ => by simp [zipA3]
  | _ :: _, _ :: _, [] => by simp [zipA3]
  | d :: r, e :: s, f :: t => by
    show (zipA3 r s t).length + 1 = _
    rw [zipA3_len r s t]
    simp only [List.length_cons]
    omega
theorem zipA3_get : ∀ (ds es fs : List D) (i : Nat) (x : A), (zipA3 ds es fs)[i]? = some x → ∃ d e f, ds[i]? = some d ∧ es[i]? = some e ∧ fs[i]? = some f ∧ x = .v (.tup [d, e, f])
  | [], _, _, i, x, h => by simp [zipA3] at h
  | _ :: _, [], _, i, x, h => by simp [zipA3] at h
  | _ :: _, _ :: _, [], i, x, h => by simp [zipA3] at h
  | d :: r, e :: s, f :: t, 0, x, h => by
    have h' : some (A.v (.tup [d, e, f])) = some x := h
    cases h'
    exact ⟨d, e, f, rfl, rfl, rfl, rfl⟩
  | d :: r, e :: s, f :: t, i + 1, x, h => by
    obtain ⟨d', e', f', h1, h2, h3, h4⟩ := zipA3_get r s t i x h
    exact ⟨d', e', f', h1, h2, h3, h4⟩
section
variable {X : Cx} {W : WX} {k : Kx} {a b c e : Expr} {fa fb fc f : EF} {pos p : Pos}
theorem i_zip3 {elts : List Expr} {kk : Nat} {tpos : Pos} (hk : k.K = X.K) (hg : Gl X "zip") (hm : X.mg "zip" = none) (ha : PE X a (dE k W fa)) (hb : PE X b (dE k W fb)) (hc : PE X c (dE k W fc))
    (hs : starEach [a, b, c] X.env = (false, eval a X.env) :: starEach [b, c] X.env := by rfl) (hs2 : starEach [b, c] X.env = (false, eval b X.env) :: starEach [c] X.env := by rfl) (hs3 : starEach [c] X.env = (false, eval c X.env) :: starEach [] X.env := by rfl) (hpl : (backTo pos (starEach [b, c] X.env)).any (·.1) = false := by rfl) :
    PI X (.Tuple elts kk tpos) (.Call (.Name "zip" p) [a, b, c] [] pos) (dI k W (iZip3 fa fb fc)) :=
  pi_weak (pi_zipB3 hg hm (pa_cons ha (pa_cons hb (pa_cons hc pa_nil hs3) hs2) hs) hs hpl) fun σ H Q ⟨G, μ, F, st, σd, S, R, h⟩ => by
    refine ⟨G, μ, F, st, σd, S, R, (Post.bind h).mono fun x st1 μ1 F1 H1 e1 S1 h1 v rv => ?_⟩
    refine ⟨G, μ1, F1, st1, σd, S1, R.ext e1, (Post.bind h1).mono fun y st2 μ2 F2 H2 e2 S2 h2 w rw' => ?_⟩
    refine ⟨G, μ2, F2, st2, σd, S2, (R.ext e1).ext e2, (Post.bind h2).mono fun z st3 μ3 F3 H3 e3 S3 h3 u ru => ?_⟩
    rw [← hk]
    split at h3
    · rename_i ds g es g' fs g'' q q2 q3
      obtain ⟨b, ad, vs, rfl, hq, hw⟩ := seqd_rep S3 (rv.ext (e2.trans e3)) q
      obtain ⟨b', ad', vs', rfl, hq2, hw2⟩ := seqd_rep S3 (rw'.ext e3) q2
      obtain ⟨b'', ad'', vs'', rfl, hq3, hw3⟩ := seqd_rep S3 ru q3
      refine ⟨b, b', b'', ad, ad', ad'', vs, vs', vs'', rfl, hq, hq2, hq3, h3 μ3 F3 H3 (Ext.refl _ _) S3 _ fun G' i μ' F' st' H' e' S' hg' => ?_⟩
      obtain ⟨ws, hq', hr⟩ := hw G' μ' F' st' H' e' S' hg'.1
      obtain ⟨us, hq2', hr2⟩ := hw2 G' μ' F' st' H' e' S' hg'.2.1
      obtain ⟨ts, hq3', hr3⟩ := hw3 G' μ' F' st' H' e' S' hg'.2.2
      have hl1 := hr.len
      have hl2 := hr2.len
      have hl3 := hr3.len
      refine ⟨fun x hx => ?_, fun hl => ⟨ws, us, ts, hq', hq2', hq3', ?_⟩⟩
      · obtain ⟨d, d', d'', hd, hd', hd'', rfl⟩ := zipA3_get ds es fs i x hx
        obtain ⟨u, h7, h8⟩ := hr.get hd
        obtain ⟨u', h7', h8'⟩ := hr2.get hd'
        obtain ⟨u'', h7'', h8''⟩ := hr3.get hd''
        refine ⟨⟨ws, us, ts, u, u', u'', hq', hq2', hq3', h7, h7', h7''⟩, fun w H2 hy => ?_⟩
        obtain ⟨T, x2, y2, z2, rfl, hT, rfl, hxx, hyy, hzz⟩ := hy
        have hxx' := hxx ws hq'
        have hyy' := hyy us hq2'
        have hzz' := hzz ts hq3'
        rw [h7] at hxx'; cases hxx'
        rw [h7'] at hyy'; cases hyy'
        rw [h7''] at hzz'; cases hzz'
        obtain ⟨S3, x3⟩ := S'.new (o := .tup [u, u', u'']) hT
        exact ⟨_, x3, S3, Rep.tup upd_same (.cons (h8.mono x3.2) (.cons (h8'.mono x3.2) (.cons (h8''.mono x3.2) .nil)))⟩
      · rw [zipA3_len] at hl
        omega
    · exact h3.elim
end
end Dn

set_option linter.all false
set_option Elab.async false
set_option maxRecDepth 100000
/-! Objs3: slices, dicts read, own classes asked for. -/
namespace Dn
open PySem PySem.Spec PyProof.Rows L2
theorem sI_eq (n d : Nat) (o : Option Int) : sI n d o = HT.sIx n d o := by
  cases o with
  | none => rfl
  | some i =>
    show gd (i < 0) (i + n).toNat (min i.toNat n) = if i < 0 then (i + (n : Int)).toNat else min i.toNat n
    by_cases h : i < 0
    · rw [gd_pos h, if_pos h]
    · rw [gd_neg h, if_neg h]
theorem Reps.cut {K : KM} {H : Hp} {ds : List D} {vs : List V} (r : Reps K H ds vs) (lo hi : Option Int) : Reps K H (cutD ds lo hi) (cutV vs lo hi) := by
  have tk : ∀ {ds : List D} {vs : List V} (n : Nat), Reps K H ds vs → Reps K H (ds.take n) (vs.take n) := by
    intro ds
    induction ds with
    | nil => intro vs n r; cases r; simp; exact .nil
    | cons d ds ih =>
      intro vs n r
      cases r with
      | cons h t =>
        cases n with
        | zero => exact .nil
        | succ n => exact .cons h (ih n t)
  have dr : ∀ {ds : List D} {vs : List V} (n : Nat), Reps K H ds vs → Reps K H (ds.drop n) (vs.drop n) := by
    intro ds
    induction ds with
    | nil => intro vs n r; cases r; simp; exact .nil
    | cons d ds ih =>
      intro vs n r
      cases r with
      | cons h t =>
        cases n with
        | zero => exact .cons h t
        | succ n => exact ih n t
  unfold cutD cutV
  rw [← sI_eq, ← sI_eq, ← r.length]
  exact tk _ (dr _ r)
section
variable {X : Cx} {W : WX} {k : Kx} {a b c e o : Expr} {es : List Expr} {fa fb fc f fo fi : EF} {fs : List EF} {l : LF} {pos p2 : Pos} {lo hi : Option Expr} {fl' fh : Option EF}
/-- a slice's bound -/
structure OptOk (X : Cx) (k : Kx) (W : WX) (e : Option Expr) (f : Option EF) : Prop where
  ok : ∃ t, PO X e t ∧ ∀ σ H (Q : Option Int → Hp → Prop), (∃ G μ F st σd, Sim k.K G μ F st H ∧ ERep k μ F σd σ ∧ Post k G μ F (fun c d H' => W c d σ H') (fun o _ _ _ H' => Q o H') (optI f σd st)) → t σ H Q
theorem oo_none : OptOk X k W none none := ⟨_, po_none, fun σ H Q ⟨G, μ, F, st, σd, S, R, h⟩ => h μ F H (Ext.refl _ _) S⟩
theorem oo_some (h : PE X e (dE k W f)) : OptOk X k W (some e) (some f) := ⟨_, po_some h, fun σ H Q ⟨G, μ, F, st, σd, S, R, h⟩ => by
  refine ⟨G, μ, F, st, σd, S, R, (Post.bind h).mono fun x st1 μ1 F1 H1 e1 S1 h1 v rv => ?_⟩
  cases x with
  | ref n => exact h1.elim
  | v d =>
    cases d with
    | int i => cases rv; exact ⟨i, rfl, h1 μ1 F1 H1 (Ext.refl _ _) S1⟩
    | _ => exact h1.elim⟩
theorem slice_run {r : V → Option Int → Option Int → Hp → VK → Prop} {g : A → Option Int → Option Int → Store → RE A} (h1 : OptOk X k W lo fl') (h2 : OptOk X k W hi fh)
    (hr : ∀ G μ F st H (x : A) (v : V) l u (Q : VK) (E : XK), Sim k.K G μ F st H → ARep k.K μ F x v → Post k G μ F E (fun a _ μ' F' H' => ∀ v, ARep k.K μ' F' a v → Q v H') (g x l u st) → r v l u H Q) :
    ∃ tl th, PO X lo tl ∧ PO X hi th ∧ ∀ σ H Q, dE k W (fun σ st => (fa σ st).bind fun x st1 => (optI fl' σ st1).bind fun l st2 => (optI fh σ st2).bind fun u st3 => g x l u st3) σ H Q → tSl r (dE k W fa) tl th σ H Q := by
  obtain ⟨tl, pl, ql⟩ := h1.ok
  obtain ⟨th, ph, qh⟩ := h2.ok
  refine ⟨tl, th, pl, ph, fun σ H Q ⟨G, μ, F, st, σd, S, R, h⟩ => ?_⟩
  refine ⟨G, μ, F, st, σd, S, R, (Post.bind h).mono fun x st1 μ1 F1 H1 e1 S1 h1 v rv => ?_⟩
  refine ql σ H1 _ ⟨G, μ1, F1, st1, σd, S1, R.ext e1, (Post.bind h1).mono fun l st2 μ2 F2 H2 e2 S2 h2 => ?_⟩
  refine qh σ H2 _ ⟨G, μ2, F2, st2, σd, S2, (R.ext e1).ext e2, (Post.bind h2).mono fun u st3 μ3 F3 H3 e3 S3 h3 => ?_⟩
  exact hr G μ3 F3 st3 H3 x v l u Q _ S3 (rv.ext (e2.trans e3)) h3
theorem e_slice (hk : k.K = X.K) (ha : PE X a (dE k W fa)) (h1 : OptOk X k W lo fl') (h2 : OptOk X k W hi fh) : PE X (.Subscript a (.Slice lo hi none p2) pos) (dE k W (fSlice fa fl' fh)) := by
  obtain ⟨tl, th, pl, ph, hrun⟩ := slice_run (fa := fa) (r := fun x l u H Q => rSlA X.K x l u H Q ∨ rSlL X.K x l u H Q) (g := fun x l u st3 => match x.view st3 with
    | some (.tup ds) => .ok (.v (.tup (cutD ds l u))) st3
    | some (.lst ds) => .ok (.v (.lst (cutD ds l u))) st3
    | _ => .bad) h1 h2 (fun G μ F st H x v l u Q E S rv h => by
      split at h
      · rename_i ds q
        obtain ⟨p, vs, rfl, sq, r, rr⟩ := view_tup S rv q
        rw [hk] at sq
        refine .inl ⟨p, vs, rfl, sq, fun hw => ?_, fun hw p' hp' => ?_⟩
        · have e1 : cutD ds l u = ds := by
            unfold cutD
            rw [sI_eq, sI_eq, r.length, hw.1, hw.2]
            rw [List.drop_zero, Nat.sub_zero, ← r.length, List.take_length]
          rw [e1] at h
          exact h μ F H (Ext.refl _ _) S _ rr
        · obtain ⟨S3, x3⟩ := S.new (o := .tup (cutV vs l u)) hp'
          exact h μ _ _ x3 S3 _ (Rep.tup upd_same ((r.cut l u).mono x3.2))
      · rename_i ds q
        obtain ⟨p, vs, rfl, sq, r⟩ := view_seq S rv q
        refine .inr ⟨p, vs, rfl, SqL.of sq, fun p' hp' => ?_⟩
        obtain ⟨S3, x3⟩ := S.new (o := .lst (cutV vs l u)) hp'
        exact h μ _ _ x3 S3 _ (Rep.lst upd_same ((r.cut l u).mono x3.2))
      · exact h.elim)
  exact pe_weak (pe_slice (SlR.or sl_tupA sl_list) ha pl ph) hrun
theorem l_slice (hk : k.K = X.K) (ha : PE X a (dE k W fa)) (h1 : OptOk X k W lo fl') (h2 : OptOk X k W hi fh) : PE X (.Subscript a (.Slice lo hi none p2) pos) (dL k W (lSlice fa fl' fh)) := by
  obtain ⟨tl, pl, ql⟩ := h1.ok
  obtain ⟨th, ph, qh⟩ := h2.ok
  refine pe_weak (pe_slice sl_list ha pl ph) fun σ H Q ⟨G, μ, F, st, σd, S, R, h⟩ => ?_
  refine ⟨G, μ, F, st, σd, S, R, (Post.bind h).mono fun x st1 μ1 F1 H1 e1 S1 h1 v rv => ?_⟩
  refine ql σ H1 _ ⟨G, μ1, F1, st1, σd, S1, R.ext e1, (Post.bind h1).mono fun l st2 μ2 F2 H2 e2 S2 h2 => ?_⟩
  refine qh σ H2 _ ⟨G, μ2, F2, st2, σd, S2, (R.ext e1).ext e2, (Post.bind h2).mono fun u st3 μ3 F3 H3 e3 S3 h3 => ?_⟩
  split at h3
  · rename_i ds q
    obtain ⟨p, vs, rfl, sq, r⟩ := view_seq S3 (rv.ext (e2.trans e3)) q
    refine ⟨p, vs, rfl, SqL.of sq, fun p' hp' => ?_⟩
    exact h3 μ3 F3 _ (Ext.refl _ _) (S3.heap hp') p' _ upd_same (S3.freeF hp') (S3.notin hp') (S3.freeG hp') (AReps.of (r.cut l u))
  · exact h3.elim
/-! dicts -/
theorem valV_dic {K : KM} {H : Hp} {x : Str} : ∀ {ks : List Str} {kvs : List (Key × V)} {ds : List D}, kvs.map (·.1) = ks.map Sum.inr → Reps K H ds (kvs.map (·.2)) → (valV kvs (Sum.inr x)).isSome = hasK x ks ∧ ∀ d, dicGet x ks ds = some d → ∃ v, valV kvs (Sum.inr x) = some v ∧ Rep K H d v
  | [], [], _, _, _ => ⟨rfl, fun d h => by cases h⟩
  | [], _ :: _, _, h, _ => by cases h
  | _ :: _, [], _, h, _ => by cases h
  | k :: ks, (q, w) :: kvs, [], _, r => by cases r
  | k :: ks, (q, w) :: kvs, d :: ds, h, .cons r rr => by
    have e1 : q = Sum.inr k := by injection h
    have e2 : kvs.map (·.1) = ks.map Sum.inr := by injection h
    obtain ⟨i1, i2⟩ := valV_dic (x := x) e2 rr
    by_cases hx : k = x
    · have v1 : valV ((q, w) :: kvs) (Sum.inr x) = some w := valV_pos (by rw [e1, hx])
      refine ⟨by rw [v1]; simp [hasK, hx, dec_pos], fun d' h' => ?_⟩
      have h2 : (if dec (k = x) = true then some d else dicGet x ks ds) = some d' := h'
      rw [if_pos (dec_pos hx)] at h2
      cases h2
      exact ⟨w, v1, r⟩
    · have v1 : valV ((q, w) :: kvs) (Sum.inr x) = valV kvs (Sum.inr x) := valV_neg (by rw [e1]; exact fun z => hx (Sum.inr.inj z))
      refine ⟨by rw [v1, i1]; simp [hasK, dec_neg hx], fun d' h' => ?_⟩
      have h2 : (if dec (k = x) = true then some d else dicGet x ks ds) = some d' := h'
      rw [dec_neg hx, if_neg (by decide)] at h2
      rw [v1]
      exact i2 d' h2
theorem e_dget (hu : X.A.units + 1 < cLine) (ho : PE X o (dE k W fo)) (hi : PE X b (dE k W fi)) (hs : NoSl b := by intro _ _; rfl) : PE X (.Subscript o b pos) (dE k W (fDget fo fi)) :=
  pe_weak (pe_dget hu ho hi hs) fun σ H Q ⟨G, μ, F, st, σd, S, R, h⟩ => by
    refine ⟨G, μ, F, st, σd, S, R, (Post.bind h).mono fun x st1 μ1 F1 H1 e1 S1 h1 v rv => ⟨G, μ1, F1, st1, σd, S1, R.ext e1, (Post.bind h1).mono fun y st2 μ2 F2 H2 e2 S2 h2 w rw' => ?_⟩⟩
    split at h2
    · rename_i ks ds z
      cases rw'
      have rv' : ARep k.K μ2 F2 (.v (.dic ks ds)) v := rv.ext e2
      cases rv' with
      | dic q1 q2 q3 q4 =>
        obtain ⟨zz, hz, h3⟩ := h2.of
        cases q5 : dicGet z ks ds with
        | none => rw [q5] at hz; cases hz
        | some d =>
          rw [q5] at hz; cases hz
          obtain ⟨u, hu1, hu2⟩ := (valV_dic (x := z) q2 q4).2 d q5
          exact ⟨_, u, rfl, by rw [← hu1]; exact DGet.k (k := Sum.inr z) (S2.sub _ _ q1), h3 μ2 F2 H2 (Ext.refl _ _) S2 u hu2⟩
    · exact h2.elim
def rDIn (neg : Bool) : R2 := fun y x H Q => ∃ a ov, x = .ref a ∧ DGet H a y ov ∧ Q (.bl (neg ^^ ov.isSome)) H
theorem op_din (hu : X.A.units + 1 < cLine) : OpR X (compareOp .In) (rDIn false) := by
  rintro pins s σ H y x v u Q I ry rx ⟨a, ov, rfl, g, q⟩
  cases rx
  exact d_in hu I g ry fun s3 I3 => ⟨.bl ov.isSome, H, I3, rfl, by simpa using q⟩
theorem op_dnotin (hu : X.A.units + 1 < cLine) : OpR X (compareOp .NotIn) (rDIn true) := by
  rintro pins s σ H y x v u Q I ry rx ⟨a, ov, rfl, g, q⟩
  cases rx
  exact d_notIn hu I g ry fun s3 I3 => ⟨.bl (!ov.isSome), H, I3, rfl, by simpa using q⟩
theorem op_inU (hu : X.A.units + 1 < cLine) : OpR X (compareOp .In) (fun x y H Q => rIn X.K false x y H Q ∨ rDIn false x y H Q) := OpR.or op_in_seq (op_din hu)
theorem op_notInU (hu : X.A.units + 1 < cLine) : OpR X (compareOp .NotIn) (fun x y H Q => rIn X.K true x y H Q ∨ rDIn true x y H Q) := OpR.or op_notIn_seq (op_dnotin hu)
theorem k_inU {K : KM} : OpOk K (fun x y H Q => rIn K false x y H Q ∨ rDIn false x y H Q) oInU := by
  intro x y d e z H Q rx ry h
  have gen : oIn d e = some z → ∃ v, (∀ F, Rep K F z v) ∧ (Q v H → rIn K false x y H Q ∨ rDIn false x y H Q) := fun q => by
    obtain ⟨v, h1, h2⟩ := k_in x y d e z H Q rx ry q
    exact ⟨v, h1, fun w => .inl (h2 w)⟩
  cases d with
  | str s =>
    cases e with
    | dic ks ds =>
      cases h
      cases rx
      cases ry with
      | dic q1 q2 q3 q4 =>
        refine ⟨.bl (hasK s ks), fun _ => .bl, fun q => .inr ⟨_, _, rfl, DGet.k (k := Sum.inr s) q1, ?_⟩⟩
        rw [(valV_dic (x := s) q2 q4).1]
        simpa using q
    | _ => exact gen h
  | _ => exact gen (by cases e <;> exact h)
theorem k_notInU {K : KM} : OpOk K (fun x y H Q => rIn K true x y H Q ∨ rDIn true x y H Q) oNotInU := by
  intro x y d e z H Q rx ry h
  have gen : oNotIn d e = some z → ∃ v, (∀ F, Rep K F z v) ∧ (Q v H → rIn K true x y H Q ∨ rDIn true x y H Q) := fun q => by
    obtain ⟨v, h1, h2⟩ := k_notIn x y d e z H Q rx ry q
    exact ⟨v, h1, fun w => .inl (h2 w)⟩
  cases d with
  | str s =>
    cases e with
    | dic ks ds =>
      cases h
      cases rx
      cases ry with
      | dic q1 q2 q3 q4 =>
        refine ⟨.bl (!hasK s ks), fun _ => .bl, fun q => .inr ⟨_, _, rfl, DGet.k (k := Sum.inr s) q1, ?_⟩⟩
        rw [(valV_dic (x := s) q2 q4).1]
        simpa using q
    | _ => exact gen h
  | _ => exact gen (by cases e <;> exact h)
end
end Dn

set_option linter.all false
set_option Elab.async false
set_option maxRecDepth 100000
/-! Lib2: classes, methods and defs with defaults of the top. -/
namespace Dn
open PySem PySem.Spec PyProof.Rows L2
/-- a class of the top -/
structure Cl1 (K : PySem.W.Frag) (mg : Str → Option Value) (c : Nat) where
  C : Addr
  gm : mg (nm c) = some (.ref C)
  cl : Cls K C
  na : ∀ f ∈ fl c, NoAttr K C (nm f)
/-- a def with defaults -/
structure FnD (K : PySem.W.Frag) (x qual : Str) (st : Stmt) (dvs : List V) (kws : List (Str × V)) where
  f : Addr
  fd : FuncData
  fn : FunD K x qual (defArgs st) (defBody st) (defScope st) dvs kws f fd
/-- an empty tuple that is a default -/
structure Tup0 (K : PySem.W.Frag) where
  a : Addr
  is : ∀ H, SqT K H a []
theorem tup0_mk {K : PySem.W.Frag} {a : Addr} {od : Option Addr} {n : Nat} {sl : Array (Option Value)} (h : K.lookup a = some ⟨.type "tuple", od, .seq #[] n, sl⟩) : ∀ H, SqT K H a [] :=
  fun H => .inr ⟨_, #[], n, h, rfl, rfl, Nat.zero_le _, .nil⟩
theorem own_of {K : PySem.W.Frag} {mg : Str → Option Value} {cs : List Nat} (h : ∀ c ∈ cs, Nonempty (Cl1 K mg c)) : OwnT ⟨K, mg, cs⟩ := ⟨fun c f C hc hf hm => by
  obtain ⟨q⟩ := h c hc
  have e : mg (nm c) = some (.ref C) := hm
  rw [q.gm] at e
  cases e
  exact ⟨q.cl, q.na f hf⟩⟩
theorem na_nil {K : PySem.W.Frag} {C : Addr} : ∀ f ∈ ([] : List Nat), NoAttr K C (nm f) := fun f h => by cases h
theorem na_cons {K : PySem.W.Frag} {C : Addr} {f : Nat} {l : List Nat} (h : NoAttr K C (nm f)) (t : ∀ f ∈ l, NoAttr K C (nm f)) : ∀ g ∈ f :: l, NoAttr K C (nm g) := fun g hg => by
  rcases List.mem_cons.mp hg with z | z
  · rw [z]; exact h
  · exact t g z
theorem kw_nil {K : PySem.W.Frag} {D : Addr} : ∀ q ∈ ([] : List (Str × V)), ∃ u, PySem.W.nsIn K D q.1 = some (some u) ∧ RelV q.2 u := fun q h => by cases h
theorem kw_cons {K : PySem.W.Frag} {D : Addr} {x : Str} {v : V} {u : Value} {l : List (Str × V)} (h : PySem.W.nsIn K D x = some (some u)) (r : RelV v u) (t : ∀ q ∈ l, ∃ u, PySem.W.nsIn K D q.1 = some (some u) ∧ RelV q.2 u) : ∀ q ∈ (x, v) :: l, ∃ u, PySem.W.nsIn K D q.1 = some (some u) ∧ RelV q.2 u := fun q hq => by
  rcases List.mem_cons.mp hq with z | z
  · rw [z]; exact ⟨u, h, r⟩
  · exact t q z
theorem all_nil {P : Nat → Prop} : ∀ c ∈ ([] : List Nat), P c := fun c h => by cases h
theorem all_cons {P : Nat → Prop} {c : Nat} {l : List Nat} (h : P c) (t : ∀ c ∈ l, P c) : ∀ d ∈ c :: l, P d := fun d hd => by
  rcases List.mem_cons.mp hd with z | z
  · rw [z]; exact h
  · exact t d z
section
variable {P : Program} {w : World} {K : PySem.W.Frag} {mg : Str → Option Value} {cs : List Nat} {base : Heap}
/-- what a def's body does, as its promise says -/
theorem fnV_core {N : List Str} {n : Nat} {sb : SF} {vs : List V} {H : Hp} {Q : VK} {E : XK} (h : spV (kx K mg cs) n (fnV N.length sb) vs H Q E) :
    dS (kx K mg cs) (fun cls d _ H => E cls d H) sb { nx := fun _ H' => Q .non H', rt := Q } (start N vs) H := by
  obtain ⟨hl, G, μ, F, st, as, S, r, h⟩ := h
  refine ⟨G, μ, F, st, _, S, ERep.start (k := kx K mg cs) (n := N.length) r trivial, ?_⟩
  unfold fnV at h
  split at h
  · rename_i σd' st' q
    rw [q]
    intro μ1 F1 H1 σ1 e1 S1 R1
    have S2 := S1.take μ.length
    rw [take_ext e1, S.len] at S2
    exact h μ F1 H1 ⟨⟨[], by simp⟩, e1.2⟩ S2 _ Rep.non
  · rename_i a st' q
    rw [q]
    intro μ1 F1 H1 v e1 S1 rv
    unfold retA at h
    split at h
    · rename_i hb
      have S2 := S1.take μ.length
      have r2 := rv.low (n := μ.length) (by rw [S.len]; exact hb)
      rw [take_ext e1] at S2 r2
      rw [S.len] at S2
      exact h μ F1 H1 ⟨⟨[], by simp⟩, e1.2⟩ S2 _ r2
    · split at h
      · rename_i d st2 q2
        obtain ⟨F2, S2, x2, r2, _⟩ := frz_ok S1 rv q2
        have S3 := S2.take μ.length
        rw [take_ext e1, S.len] at S3
        exact h μ F2 H1 ⟨⟨[], by simp⟩, (e1.trans x2).2⟩ S3 _ r2
      · exact h.elim
  · rename_i xx σd' st' q
    rw [q]
    intro μ1 F1 H1 σ1 cls d e1 S1 R1 X1
    have S2 := S1.take μ.length
    rw [take_ext e1, S.len] at S2
    exact h μ F1 H1 cls d ⟨⟨[], by simp⟩, e1.2⟩ S2 X1
  · exact h.elim
theorem fnVD_ok {x qual : Str} {st : Stmt} {dvs : List V} {kws : List (Str × V)} {f : Addr} {fd : FuncData} {N ps : List Str} {lv n m : Nat} {sb : SF} (Fn : FunD K x qual (defArgs st) (defBody st) (defScope st) dvs kws f fd) (Sc : FnScope N ps (defScope st)) (hn : ps.length = n) (hm : N.length = m)
    (hb : ∀ (cdv : Value) (A : Around) (outer : List PySem.Env) (s : Shared) (H : Hp) (E : XK), Room lv (A.deeper (envOfC qual (defScope st) s.heap.objs.size f cdv)) →
      PSs (bodyX P w K mg base N qual st f cdv A outer s H E) (defBody st) (dS (kx K mg cs) (fun cls d _ H => E cls d H) sb)) :
    FnOk P w K mg base (L2.CX P w) (lv + 1) f fd ps (spV (kx K mg cs) n (fnV m sb)) := by
  subst hm
  exact Fn.ok (CX := L2.CX P w) Sc (fun vs H Q E h => by rw [h.1, hn]) fun cdv A outer s H vs Q E hr h => ⟨_, hb cdv A outer s H E hr, fnV_core h⟩
/-- a method whose body does not matter here: it is never called -/
theorem kb_of {fd : FuncData} {ps ks : List Str} {n : Nat} {o : List Arg3} {mz : List V} {mv : List Value} (h : KBn K fd ps n ks (fun us ws => g3 o us mv ws) (fun vs zs => g3 o vs mz zs)) : ∃ gU, KBn K fd ps n ks gU (fun vs zs => g3 o vs mz zs) := ⟨_, h⟩
end
end Dn

set_option linter.all false
set_option Elab.async false
set_option maxRecDepth 100000
/-! BindK: how a call with keywords binds, by a plain function. -/
namespace Dn
open PySem PySem.Spec PyProof.Rows L2
def bindA (ns kn : List Str) : List (Str × Value) → List (Str × Value) → Option (List (Str × Value))
  | [], sl => some sl
  | p :: r, sl => if (ns.contains p.1 || kn.contains p.1) = true then (if (sl.lookup p.1).isSome = true then none else bindA ns kn r (sl ++ [(p.1, p.2)])) else none
def bindD (md : List (Str × Value)) : List Str → List (Str × Value) → Option (List (Str × Value))
  | [], sl => some sl
  | n :: r, sl => if (sl.lookup n).isNone = true then (match md.lookup n with
    | some v => bindD md r (sl ++ [(n, v)])
    | none => none) else bindD md r sl
def bindP (ns kn : List Str) (us : List Value) (kw md : List (Str × Value)) : Option (List (Str × Value)) :=
  if us.length = ns.length then (match bindA ns kn kw (ns.zip us) with
    | some sl => if (ns.filter fun n => (sl.lookup n).isNone).isEmpty = true then (match bindD md kn sl with
      | some sl2 => some ((ns ++ kn).filterMap fun n => (sl2.lookup n).map fun v => (n, v))
      | none => none) else none
    | none => none) else none
theorem forIn_A {ns kn : List Str} {f : Str × Value → List (Str × Value) × List (Str × Value) → Sem (ForInStep (List (Str × Value) × List (Str × Value)))}
    (hf : ∀ p sl t, (ns.contains p.1 || kn.contains p.1) = true → (sl.lookup p.1).isSome = false → f p (sl, t) = pure (.yield (sl ++ [(p.1, p.2)], t))) : ∀ (kw sl sl' t : List (Str × Value)), bindA ns kn kw sl = some sl' → forIn kw (sl, t) f = (pure (sl', t) : Sem _)
  | [], sl, sl', t, h => by
    cases h
    rfl
  | p :: r, sl, sl', t, h => by
    have h' : (if (ns.contains p.1 || kn.contains p.1) = true then (if (sl.lookup p.1).isSome = true then none else bindA ns kn r (sl ++ [(p.1, p.2)])) else none) = some sl' := h
    split at h'
    · rename_i c1
      split at h'
      · cases h'
      · rename_i c2
        rw [List.forIn_cons, hf p sl t c1 (Bool.not_eq_true _ ▸ c2), pure_bind]
        exact forIn_A hf r _ _ _ h'
    · cases h'
theorem forIn_D {M : Model} {h : Heap} {K : PySem.W.Frag} {D : Addr} {md : List (Str × Value)} (X : K.In h) (hm : ∀ q ∈ md, PySem.W.nsIn K D q.1 = some (some q.2)) {f : Str → List (Str × Value) × List Str → Sem (ForInStep (List (Str × Value) × List Str))}
    (hf1 : ∀ n sl t, (sl.lookup n).isNone = true → f n (sl, t) = nsGet D n >>= fun d => match d with
      | some v => pure (.yield (sl ++ [(n, v)], t))
      | none => pure (.yield (sl, t ++ [n]))) (hf2 : ∀ n sl t, (sl.lookup n).isNone = false → f n (sl, t) = pure (.yield (sl, t))) :
    ∀ (kn : List Str) (sl sl' : List (Str × Value)) (t : List Str), bindD md kn sl = some sl' → PySem.W.Looks M h (forIn kn (sl, t) f) (sl', t)
  | [], sl, sl', t, e => by
    cases e
    exact .of_pure rfl
  | n :: r, sl, sl', t, e => by
    have e' : (if (sl.lookup n).isNone = true then (match md.lookup n with
      | some v => bindD md r (sl ++ [(n, v)])
      | none => none) else bindD md r sl) = some sl' := e
    rw [List.forIn_cons]
    split at e'
    · rename_i c
      rw [hf1 n sl t c, bind_assoc]
      split at e'
      · rename_i v q
        have hv : (n, v) ∈ md := by
          have lk : ∀ (l : List (Str × Value)), l.lookup n = some v → (n, v) ∈ l := by
            intro l
            induction l with
            | nil => intro q; cases q
            | cons p l ih =>
              intro q
              simp only [List.lookup] at q
              split at q
              · rename_i hb
                cases q
                rw [eq_of_beq hb]
                exact List.mem_cons_self
              · exact List.mem_cons_of_mem _ (ih q)
          exact lk md q
        refine (PySem.W.looks_nsIn X (hm _ hv)).andThen ?_
        show PySem.W.Looks M h ((pure (ForInStep.yield (sl ++ [(n, v)], t)) : Sem _) >>= _) _
        rw [pure_bind]
        exact forIn_D X hm hf1 hf2 r _ _ _ e'
      · cases e'
    · rename_i c
      rw [hf2 n sl t (by simpa using c), pure_bind]
      exact forIn_D X hm hf1 hf2 r _ _ _ e'
theorem bind_looks {M : Model} {h : Heap} {K : PySem.W.Frag} {x qual : Str} {params : Arguments} {body : List Stmt} {scope : Scope} {D : Addr} {doc pm cdv ct : Value} {an : Option Addr} {us : List Value} {kw md r : List (Str × Value)} {ns kn : List Str} (X : K.In h)
    (h1 : params.posonlyargs = []) (h2 : params.vararg = none) (h3 : params.kwarg = none) (e1 : params.args.map (·.arg) = ns) (e2 : params.kwonlyargs.map (·.arg) = kn) (hm : ∀ q ∈ md, PySem.W.nsIn K D q.1 = some (some q.2)) (hb : bindP ns kn us kw md = some r) :
    PySem.W.Looks M h (bindArgs (PySem.W.fnOf x qual params body scope .none (.ref D) doc pm an cdv ct) ⟨us, kw⟩) r := by
  subst e1 e2
  unfold bindP at hb
  split at hb
  case isFalse => cases hb
  rename_i hn
  split at hb
  case h_2 => cases hb
  rename_i sl q1
  split at hb
  case isFalse => cases hb
  rename_i hmiss
  split at hb
  case h_2 => cases hb
  rename_i sl2 q2
  cases hb
  have L1 : ∀ f : Str × Value → List (Str × Value) × List (Str × Value) → Sem (ForInStep (List (Str × Value) × List (Str × Value))),
      (∀ p sl t, ((params.args.map (·.arg)).contains p.1 || (params.kwonlyargs.map (·.arg)).contains p.1) = true → (sl.lookup p.1).isSome = false → f p (sl, t) = pure (.yield (sl ++ [(p.1, p.2)], t))) →
      forIn kw ((params.args.map (·.arg)).zip us, ([] : List (Str × Value))) f = (pure (sl, []) : Sem _) := fun f hf => forIn_A hf kw _ _ _ q1
  unfold bindArgs
  have hs : seqItems? Value.none = (pure none : Sem _) := rfl
  have hd : decide (us.length > (params.args.map (·.arg)).length) = false := decide_eq_false (by omega)
  simp only [PySem.W.fnOf, h1, h2, h3, List.map_nil, List.nil_append, hs]
  rw [L1]
  · simp only [pure_bind, hd, Option.isNone_none, Bool.false_and, Bool.false_eq_true, if_false, Option.getD_none, List.drop_nil, List.length_nil, Nat.sub_zero, List.take_length, List.drop_length, List.zip_nil_left, List.forIn_nil, List.zip_nil_right, Nat.zero_sub, hmiss, Bool.not_true]
    refine (forIn_D X hm (fun n sl t c => ?_) (fun n sl t c => ?_) _ _ _ [] q2).andThen ?_
    · simp only [c, if_true]
      all_goals rfl
    · simp only [c, Bool.false_eq_true, if_false]
    · simp only [List.isEmpty_nil, Bool.not_true, Bool.false_eq_true, if_false]
      exact .of_pure rfl
  · intro p sl t c1 c2
    simp only [c1, c2, if_true, Bool.false_eq_true, if_false]
theorem kbn_mk {K : PySem.W.Frag} {x qual : Str} {st : Stmt} {kws : List (Str × V)} {f : Addr} {fd : FuncData} {ps ks ns kn : List Str} (Fn : FunD K x qual (defArgs st) (defBody st) (defScope st) [] kws f fd) (n : Nat) (ms : List (Str × V)) (o : List Arg3) (hk : kws ≠ []) (hms : ∀ q ∈ ms, q ∈ kws)
    (h1 : (defArgs st).posonlyargs = []) (h2 : (defArgs st).vararg = none) (h3 : (defArgs st).kwarg = none) (e1 : (defArgs st).args.map (·.arg) = ns) (e2 : (defArgs st).kwonlyargs.map (·.arg) = kn)
    (hb : ∀ us mv ws : List Value, us.length = n → mv.length = ms.length → ws.length = ks.length → bindP ns kn us (ks.zip ws) ((ms.map (·.1)).zip mv) = some (ps.zip (g3 o us mv ws))) :
    ∃ gU, KBn K fd ps n ks gU (fun vs zs => g3 o vs (ms.map (·.2)) zs) := by
  obtain ⟨oc, od, dV, kV, doc, pm, an, cdv, ct, osl, rfl, lk, hcd, hD, hK⟩ := Fn.ex
  rcases hD with ⟨_, rfl⟩ | ⟨e, _⟩
  · rcases hK with e | ⟨D, rfl, hq⟩
    · exact absurd e hk
    · obtain ⟨mv, hl, rk, hks⟩ := kwd_vals (ms := ms) fun q hm => hq q (hms q hm)
      exact ⟨fun us ws => g3 o us mv ws, fun s us ws X l1 l2 => BindsTo.of_looks fun M => bind_looks X h1 h2 h3 e1 e2 hks (hb us mv ws l1 hl l2), fun r1 r2 => g3_vals r1 rk r2 o⟩
  · exact absurd rfl e
end Dn

set_option linter.all false
set_option Elab.async false
/-! Wp: what is left to show of a piece of a program, step by step. -/
namespace Dn
open PySem
def okE {α : Type} (r : RE α) (Q : α → Store → Prop) (E : Exc → Store → Prop) : Prop := match r with
  | .ok a st => Q a st
  | .err x st => E x st
  | .bad => False
structure Out where
  nx : Env → Store → Prop
  rt : A → Store → Prop
  bk : Env → Store → Prop
  ct : Env → Store → Prop
  er : Exc → Env → Store → Prop
def okS (r : RS) (O : Out) : Prop := match r with
  | .nx σ st => O.nx σ st
  | .rt a st => O.rt a st
  | .bk σ st => O.bk σ st
  | .ct σ st => O.ct σ st
  | .err x σ st => O.er x σ st
  | .bad => False
theorem okE_eq {α : Type} {r : RE α} {a : α} {st : Store} (h : okE r (fun x s => x = a ∧ s = st) (fun _ _ => False)) : r = .ok a st := by
  cases r with
  | ok x s => obtain ⟨rfl, rfl⟩ := h; rfl
  | err x s => exact h.elim
  | bad => exact h.elim
theorem okE_ex {α : Type} {r : RE α} {Q : α → Store → Prop} (h : okE r Q (fun _ _ => False)) : ∃ a st, r = .ok a st ∧ Q a st := by
  cases r with
  | ok x s => exact ⟨x, s, rfl, h⟩
  | err x s => exact h.elim
  | bad => exact h.elim
theorem okE_of_eq {α : Type} {r : RE α} {a : α} {st : Store} {Q : α → Store → Prop} {E : Exc → Store → Prop} (h : r = .ok a st) (q : Q a st) : okE r Q E := by rw [h]; exact q
theorem okE_mono {α : Type} {r : RE α} {Q Q' : α → Store → Prop} {E : Exc → Store → Prop} (h : okE r Q E) (i : ∀ a st, Q a st → Q' a st) : okE r Q' E := by
  cases r with
  | ok x s => exact i _ _ h
  | err x s => exact h
  | bad => exact h
theorem okE_bind {α β : Type} {r : RE α} {f : α → Store → RE β} {Q : β → Store → Prop} {E : Exc → Store → Prop} (h : okE r (fun a st => okE (f a st) Q E) E) : okE (r.bind f) Q E := by
  cases r with
  | ok x s => exact h
  | err x s => exact h
  | bad => exact h
theorem okS_st {α : Type} {σ : Env} {r : RE α} {f : α → Store → RS} {O : Out} (h : okE r (fun a st => okS (f a st) O) (fun x st => O.er x σ st)) : okS (r.st σ f) O := by
  cases r with
  | ok x s => exact h
  | err x s => exact h
  | bad => exact h
abbrev Frz (st : Store) (xs : List A) (Q : List D → Store → Prop) : Prop := ∃ ds st2, frzL st xs = some (ds, st2) ∧ Q ds st2
abbrev Els (st : Store) (x : A) (Q : List A → Prop) : Prop := ∃ xs, x.elems st = some xs ∧ Q xs
abbrev Boo (x : A) (Q : Bool → Prop) : Prop := ∃ c, x.bl? = some c ∧ Q c
abbrev Tgt (t : TgF) (x : A) (σ : Env) (st : Store) (Q : Env → Store → Prop) : Prop := ∃ σ2 st2, t x σ st = some (σ2, st2) ∧ Q σ2 st2
abbrev Vie (st : Store) (x : A) (Q : D → Prop) : Prop := ∃ d, x.view st = some d ∧ Q d
theorem frz_i {st st2 : Store} {xs : List A} {Q : List D → Store → Prop} {ds : List D} (h : frzL st xs = some (ds, st2)) (q : Q ds st2) : Frz st xs Q := ⟨_, _, h, q⟩
theorem els_i {st : Store} {x : A} {Q : List A → Prop} {xs : List A} (h : x.elems st = some xs) (q : Q xs) : Els st x Q := ⟨_, h, q⟩
theorem boo_i {x : A} {Q : Bool → Prop} {c : Bool} (h : x.bl? = some c) (q : Q c) : Boo x Q := ⟨_, h, q⟩
theorem tgt_i {t : TgF} {x : A} {σ σ2 : Env} {st st2 : Store} {Q : Env → Store → Prop} (h : t x σ st = some (σ2, st2)) (q : Q σ2 st2) : Tgt t x σ st Q := ⟨_, _, h, q⟩
theorem vie_i {st : Store} {x : A} {Q : D → Prop} {d : D} (h : x.view st = some d) (q : Q d) : Vie st x Q := ⟨_, h, q⟩
abbrev Isq (x : A) (st1 : Store) (R : List D → Prop) : Prop := ∃ ds, (x = .v (.lst ds) ∨ x = .v (.tup ds) ∨ x = .v (.ro ds) ∨ ∃ n, x = .ref n ∧ st1[n]? = some (.frz ds)) ∧ R ds
theorem isq_l {ds : List D} {st1 : Store} {R : List D → Prop} (r : R ds) : Isq (.v (.lst ds)) st1 R := ⟨_, .inl rfl, r⟩
theorem isq_t {ds : List D} {st1 : Store} {R : List D → Prop} (r : R ds) : Isq (.v (.tup ds)) st1 R := ⟨_, .inr (.inl rfl), r⟩
theorem isq_r {ds : List D} {st1 : Store} {R : List D → Prop} (r : R ds) : Isq (.v (.ro ds)) st1 R := ⟨_, .inr (.inr (.inl rfl)), r⟩
abbrev Sqd (st : Store) (x : A) (R : List D → (Store → Prop) → Prop) : Prop := ∃ ds g, x.seqd st = some (ds, g) ∧ R ds g
theorem sqd_i {st : Store} {x : A} {R : List D → (Store → Prop) → Prop} {ds : List D} {g : Store → Prop} (h : x.seqd st = some (ds, g)) (r : R ds g) : Sqd st x R := ⟨_, _, h, r⟩
abbrev Rg1 (x : A) (R : Int → Prop) : Prop := ∃ n : Int, x = .v (.int n) ∧ okR n ∧ R n
theorem rg1_i {n : Int} {R : Int → Prop} (h : -4611686018427387904 ≤ n ∧ n < 4611686018427387904) (r : R n) : Rg1 (.v (.int n)) R := ⟨_, rfl, ⟨by omega, by omega⟩, r⟩
abbrev Rg2 (x y : A) (R : Int → Int → Prop) : Prop := ∃ i j : Int, x = .v (.int i) ∧ y = .v (.int j) ∧ (okR i ∧ okR j) ∧ R i j
theorem rg2_i {i j : Int} {R : Int → Int → Prop} (h : (-4611686018427387904 ≤ i ∧ i < 4611686018427387904) ∧ (-4611686018427387904 ≤ j ∧ j < 4611686018427387904)) (r : R i j) : Rg2 (.v (.int i)) (.v (.int j)) R := ⟨_, _, rfl, rfl, ⟨⟨by omega, by omega⟩, ⟨by omega, by omega⟩⟩, r⟩
theorem enumW_get : ∀ (ds : List D) (o i : Nat) (x : A), (enumA o ds)[i]? = some x → ∃ d, ds[i]? = some d ∧ x = .v (.tup [.int ((o + i : Nat) : Int), d])
  | [], _, i, x, h => by simp [enumA] at h
  | d :: r, o, 0, x, h => by
    have h' : some (A.v (.tup [.int (o : Nat), d])) = some x := h
    cases h'
    exact ⟨d, rfl, by simp⟩
  | d :: r, o, i + 1, x, h => by
    obtain ⟨d', h1, h2⟩ := enumW_get r (o + 1) i x h
    refine ⟨d', h1, ?_⟩
    rw [h2]
    congr 4
    omega
theorem enumW_len : ∀ (ds : List D) (o : Nat), (enumA o ds).length = ds.length
  | [], _ => rfl
  | d :: r, o => by show (enumA (o + 1) r).length + 1 = _; rw [enumW_len r]; rfl
theorem enum0_get {ds : List D} {i : Nat} {x : A} (h : (enumA 0 ds)[i]? = some x) : ∃ d, ds[i]? = some d ∧ x = .v (.tup [.int (i : Int), d]) := by
  obtain ⟨d, h1, h2⟩ := enumW_get ds 0 i x h
  exact ⟨d, h1, by rw [h2, Nat.zero_add]⟩
theorem zipW_get : ∀ (ds es : List D) (i : Nat) (x : A), (zipA ds es)[i]? = some x → ∃ d e, ds[i]? = some d ∧ es[i]? = some e ∧ x = .v (.tup [d, e])
  | [], es, i, x, h => by simp [zipA] at h
  | d :: r, [], i, x, h => by simp [zipA] at h
  | d :: r, e :: s, 0, x, h => by
    have h' : some (A.v (.tup [d, e])) = some x := h
    cases h'
    exact ⟨d, e, rfl, rfl, rfl⟩
  | d :: r, e :: s, i + 1, x, h => by
    obtain ⟨d', e', h1, h2, h3⟩ := zipW_get r s i x h
    exact ⟨d', e', h1, h2, h3⟩
theorem zipW_len : ∀ (ds es : List D), (zipA ds es).length = min ds.length es.length
  | [], es => by simp [zipA]
  | d :: r, [] => by simp [zipA]
  | d :: r, e :: s => by show (zipA r s).length + 1 = _; rw [zipW_len r s]; simp
theorem zip3W_get : ∀ (ds es fs : List D) (i : Nat) (x : A), (zipA3 ds es fs)[i]? = some x → ∃ d e f, ds[i]? = some d ∧ es[i]? = some e ∧ fs[i]? = some f ∧ x = .v (.tup [d, e, f])
  | [], _, _, i, x, h => by simp [zipA3] at h
  | _ :: _, [], _, i, x, h => by simp [zipA3] at h
  | _ :: _, _ :: _, [], i, x, h => by simp [zipA3] at h
  | d :: r, e :: s, f :: t, 0, x, h => by
    have h' : some (A.v (.tup [d, e, f])) = some x := h
    cases h'
    exact ⟨d, e, f, rfl, rfl, rfl, rfl⟩
  | d :: r, e :: s, f :: t, i + 1, x, h => by
    obtain ⟨d', e', f', h1, h2, h3, h4⟩ := zip3W_get r s t i x h
    exact ⟨d', e', f', h1, h2, h3, h4⟩
theorem zip3W_len : ∀ (ds es fs : List D), (zipA3 ds es fs).length = min ds.length (min es.length fs.length)
  | [], _, _ => by simp [zipA3]
  | _ :: _, [], _ => by simp [zipA3]
  | _ :: _, _ :: _, [] => by simp [zipA3]
  | d :: r, e :: s, f :: t => by
    show (zipA3 r s t).length + 1 = _
    rw [zip3W_len r s t]
    simp only [List.length_cons]
    omega
theorem rangeW_get {lo : Int} {n j : Nat} {x : A} (h : (rangeA lo n)[j]? = some x) : j < n ∧ x = .v (.int (lo + j)) := by
  rw [rangeA_eq, List.getElem?_map] at h
  cases q : (List.range n)[j]? with
  | none => rw [q] at h; cases h
  | some k =>
    rw [q] at h
    have h1 := (List.getElem?_eq_some_iff.mp q)
    obtain ⟨h2, h3⟩ := h1
    rw [List.length_range] at h2
    rw [List.getElem_range] at h3
    subst h3
    cases h
    exact ⟨h2, rfl⟩
theorem rangeW_len (lo : Int) (n : Nat) : (rangeA lo n).length = n := by rw [rangeA_eq]; simp
theorem range0_get {n j : Nat} {x : A} (h : (rangeA 0 n)[j]? = some x) : j < n ∧ x = .v (.int (j : Int)) := by
  obtain ⟨h1, h2⟩ := rangeW_get h
  exact ⟨h1, by rw [h2, Int.zero_add]⟩
theorem map_get {β : Type} {f : β → D} {ys : List β} {j : Nat} {x : A} (h : ((ys.map f).map A.v)[j]? = some x) : ∃ y, ys[j]? = some y ∧ x = .v (f y) := by
  rw [List.getElem?_map, List.getElem?_map] at h
  cases q : ys[j]? with
  | none => rw [q] at h; cases h
  | some y => rw [q] at h; cases h; exact ⟨y, rfl, rfl⟩
theorem mapD_get {β : Type} {f : β → D} {ys : List β} {j : Nat} {d : D} (h : (ys.map f)[j]? = some d) : ∃ y, ys[j]? = some y ∧ d = f y := by
  rw [List.getElem?_map] at h
  cases q : ys[j]? with
  | none => rw [q] at h; cases h
  | some y => rw [q] at h; cases h; exact ⟨y, rfl, rfl⟩
theorem dat_get {ds : List D} {j : Nat} {x : A} (h : (ds.map A.v)[j]? = some x) : ∃ d, ds[j]? = some d ∧ x = .v d := by
  rw [List.getElem?_map] at h
  cases q : ds[j]? with
  | none => rw [q] at h; cases h
  | some y => rw [q] at h; cases h; exact ⟨y, rfl, rfl⟩
def Br (c : Bool) (x y : Prop) : Prop := (c = true → x) ∧ (c = false → y)
theorem br_dec {p x y : Prop} (h1 : p → x) (h2 : ¬p → y) : Br (dec p) x y := ⟨fun h => h1 (by rw [dec_iff] at h; exact h), fun h => h2 fun q => by rw [dec_pos q] at h; cases h⟩
theorem br_t {x y : Prop} (h : x) : Br true x y := ⟨fun _ => h, fun h => by cases h⟩
theorem br_f {x y : Prop} (h : y) : Br false x y := ⟨fun h => (by cases h), fun _ => h⟩
theorem br_not {c : Bool} {x y : Prop} (h : Br c y x) : Br (!c) x y := ⟨fun q => h.2 (by simpa using q), fun q => h.1 (by simpa using q)⟩
theorem br_eqt {c : Bool} {x y : Prop} (e : c = true) (h : x) : Br c x y := by rw [e]; exact br_t h
theorem br_eqf {c : Bool} {x y : Prop} (e : c = false) (h : y) : Br c x y := by rw [e]; exact br_f h
theorem br_any {c : Bool} {x y : Prop} (h1 : c = true → x) (h2 : c = false → y) : Br c x y := ⟨h1, h2⟩
section
variable {α : Type} {σ : Env} {st : Store} {Q : A → Store → Prop} {E : Exc → Store → Prop} {QL : List A → Store → Prop} {QT : Bool → Store → Prop} {QI : Src → Store → Prop} {O : Out} {N : Env → Store → Prop} {R : A → Store → Prop} {B C : Env → Store → Prop} {X : Exc → Env → Store → Prop} {a b c e : EF} {as : List EF} {l : LF} {t ta tb : TF} {sa sb : SF}
theorem w_var {i : Nat} {x : A} (h : σ[i]? = some (some x)) (q : Q x st) : okE (fVar i σ st) Q E := by unfold fVar; rw [h]; exact q
theorem w_C {d : D} (q : Q (.v d) st) : okE (fC d σ st) Q E := q
theorem w_of {o : Option α} {z : α} {Q : α → Store → Prop} (h : o = some z) (q : Q z st) : okE (RE.of o st) Q E := by rw [h]; exact q
theorem w_op {o : D → D → Option D} (h : okE (a σ st) (fun x st1 => okE (b σ st1) (fun y st2 => okE (RE.of ((x.view st2).bind fun d => (y.view st2).bind fun e => (o d e).map .v) st2) Q E) E) E) : okE (fOp o a b σ st) Q E :=
  okE_bind (okE_mono h fun _ _ q => okE_bind q)
theorem w_un {o : D → Option D} (h : okE (a σ st) (fun x st1 => okE (RE.of ((x.view st1).bind fun d => (o d).map .v) st1) Q E) E) : okE (fUn o a σ st) Q E := okE_bind h
theorem w_mul {i j : Int} (h : mulOk i j) (q : Q (.v (.int (i * j))) st) : okE (RE.of (((A.v (.int i)).view st).bind fun d => ((A.v (.int j)).view st).bind fun e => (oMulU d e).map .v) st) Q E := by
  show okE (RE.of ((gd (mulOk i j) (some (D.int (i * j))) none).map A.v) st) Q E
  rw [gd_pos h]
  exact q
theorem w_mod {i j : Int} (h : j ≠ 0) (q : Q (.v (.int (i.fmod j))) st) : okE (RE.of (((A.v (.int i)).view st).bind fun d => ((A.v (.int j)).view st).bind fun e => (oMod d e).map .v) st) Q E := by
  show okE (RE.of ((gd (j ≠ 0) (some (D.int (i.fmod j))) none).map A.v) st) Q E
  rw [gd_pos h]
  exact q
theorem w_div {i j : Int} (h : divOk j) (q : Q (.v (.int (i.fdiv j))) st) : okE (RE.of (((A.v (.int i)).view st).bind fun d => ((A.v (.int j)).view st).bind fun e => (oDiv d e).map .v) st) Q E := by
  show okE (RE.of ((gd (divOk j) (some (D.int (i.fdiv j))) none).map A.v) st) Q E
  rw [gd_pos h]
  exact q
theorem w_pow {i j : Int} (h : 0 ≤ j ∧ j ≤ 1000000 ∧ i.natAbs < 2 ^ 64) (q : Q (.v (.int (i ^ j.toNat))) st) : okE (RE.of (((A.v (.int i)).view st).bind fun d => ((A.v (.int j)).view st).bind fun e => (oPow d e).map .v) st) Q E := by
  show okE (RE.of ((gd (0 ≤ j ∧ j ≤ 1000000 ∧ i.natAbs < 2 ^ 64) (some (D.int (i ^ j.toNat))) none).map A.v) st) Q E
  rw [gd_pos h]
  exact q
theorem w_catT {xs ys : List D} (h : xs.length + ys.length ≤ sizeMax) (q : Q (.v (.tup (xs ++ ys))) st) : okE (RE.of (((A.v (.tup xs)).view st).bind fun d => ((A.v (.tup ys)).view st).bind fun e => (oAddU d e).map .v) st) Q E := by
  show okE (RE.of ((gd (xs.length + ys.length ≤ sizeMax) (some (D.tup (xs ++ ys))) none).map A.v) st) Q E
  rw [gd_pos h]
  exact q
theorem w_catL {xs ys : List D} (h : xs.length + ys.length ≤ sizeMax) (q : Q (.v (.lst (xs ++ ys))) st) : okE (RE.of (((A.v (.lst xs)).view st).bind fun d => ((A.v (.lst ys)).view st).bind fun e => (oAddU d e).map .v) st) Q E := by
  show okE (RE.of ((gd (xs.length + ys.length ≤ sizeMax) (some (D.lst (xs ++ ys))) none).map A.v) st) Q E
  rw [gd_pos h]
  exact q
theorem w_chain {o o' : D → D → Option D} (h : okE (a σ st) (fun x st1 => okE (b σ st1) (fun y st2 => okE (RE.of ((x.view st2).bind fun d => (y.view st2).bind fun e => (o d e).bind fun z => (A.v z).bl?) st2 : RE Bool) (fun k st3 =>
    Br k (okE (c σ st3) (fun w st4 => okE (RE.of ((y.view st4).bind fun d => (w.view st4).bind fun e => (o' d e).map .v) st4) Q E) E) (Q (.v (.bl false)) st3)) E) E) E) : okE (fChain o o' a b c σ st) Q E := by
  refine okE_bind (okE_mono h fun x st1 q => okE_bind (okE_mono q fun y st2 q => okE_bind (okE_mono q fun k st3 q => ?_)))
  cases k with
  | true => exact okE_bind (q.1 rfl)
  | false => exact q.2 rfl
theorem w_nil (q : QL [] st) : okE (fArgs [] σ st) QL E := q
theorem w_cons (h : okE (a σ st) (fun x st1 => okE (fArgs as σ st1) (fun r st2 => QL (x :: r) st2) E) E) : okE (fArgs (a :: as) σ st) QL E := okE_bind (okE_mono h fun _ _ q => okE_bind q)
theorem w_B {o : List D → Option D} (h : okE (fArgs as σ st) (fun xs st1 => okE (RE.of ((viewL st1 xs).bind fun ds => (o ds).map .v) st1) Q E) E) : okE (fB o as σ st) Q E := okE_bind h
theorem w_max2 {i j : Int} (h : ∀ m, (m = i ∨ m = j) → i ≤ m → j ≤ m → Q (.v (.int m)) st) : okE (RE.of ((viewL st [.v (.int i), .v (.int j)]).bind fun ds => (bMax2 ds).map .v) st) Q E := by
  show Q (.v (.int (if j > i then j else i))) st
  exact h _ (by split <;> omega) (by split <;> omega) (by split <;> omega)
theorem w_min2 {i j : Int} (h : ∀ m, (m = i ∨ m = j) → m ≤ i → m ≤ j → Q (.v (.int m)) st) : okE (RE.of ((viewL st [.v (.int i), .v (.int j)]).bind fun ds => (bMin2 ds).map .v) st) Q E := by
  show Q (.v (.int (if j < i then j else i))) st
  exact h _ (by split <;> omega) (by split <;> omega) (by split <;> omega)
theorem w_abs {i : Int} (h : ∀ m, (m = i ∨ m = -i) → 0 ≤ m → Q (.v (.int m)) st) : okE (RE.of ((viewL st [.v (.int i)]).bind fun ds => (bAbs ds).map .v) st) Q E := by
  show Q (.v (.int (if i < 0 then -i else i))) st
  exact h _ (by split <;> omega) (by split <;> omega)
theorem w_tup (h : okE (fArgs as σ st) (fun xs st1 => Frz st1 xs fun ds st2 => Q (.v (.tup ds)) st2) E) : okE (fTup as σ st) Q E :=
  okE_bind (okE_mono h fun xs st1 ⟨ds, st2, q1, q2⟩ => by rw [q1]; exact q2)
theorem w_dic {ks : List Str} (h : okE (fArgs as σ st) (fun xs st1 => Frz st1 xs fun ds st2 => Q (.v (.dic ks ds)) st2) E) : okE (fDic ks as σ st) Q E :=
  okE_bind (okE_mono h fun xs st1 ⟨ds, st2, q1, q2⟩ => by rw [q1]; exact q2)
theorem w_frz (h : okE (l σ st) (fun xs st1 => Frz st1 xs fun ds st2 => Q (.v (.lst ds)) st2) E) : okE (fFrz l σ st) Q E :=
  okE_bind (okE_mono h fun xs st1 ⟨ds, st2, q1, q2⟩ => by rw [q1]; exact q2)
theorem w_live (h : okE (l σ st) (fun xs st1 => xs.all (A.below st1.length) = true ∧ Q (.ref st1.length) (st1 ++ [.lst xs])) E) : okE (fLive l σ st) Q E :=
  okE_bind (okE_mono h fun xs st1 ⟨q1, q2⟩ => by rw [if_pos q1]; exact q2)
theorem w_disp (h : okE (fArgs as σ st) QL E) : okE (lDisp as σ st) QL E := h
theorem w_list (h : okE (a σ st) (fun x st1 => Els st1 x fun xs => QL xs st1) E) : okE (lList a σ st) QL E := okE_bind (okE_mono h fun x st1 ⟨xs, q1, q2⟩ => w_of q1 q2)
theorem w_ix (h : okE (a σ st) (fun x st1 => okE (b σ st1) (fun y st2 => ∃ xs i j z, x.elems st2 = some xs ∧ y = .v (.int i) ∧ ixOf xs.length i = some j ∧ xs[j]? = some z ∧ Q z st2) E) E) : okE (fIx a b σ st) Q E := by
  refine okE_bind (okE_mono h fun x st1 q => okE_bind (okE_mono q fun y st2 ⟨xs, i, j, z, q1, q2, q3, q4, q5⟩ => ?_))
  subst q2
  rw [q1]
  show okE (RE.of ((ixOf xs.length i).bind fun j => xs[j]?) st2) Q E
  rw [q3]
  exact w_of q4 q5
theorem ixLit {n : Nat} (k : Nat) (h : k < n) : ixOf n (k : Int) = some k := ixNat h
theorem ixNeg {n : Nat} (k : Nat) (h : k < n) : ixOf n (-((k : Int) + 1)) = some (n - (k + 1)) := by
  unfold ixOf
  rw [gd_neg (by omega), gd_pos (by omega)]
  congr 1
  omega
theorem w_if (h : okE (t σ st) (fun c st1 => Br c (okE (a σ st1) Q E) (okE (b σ st1) Q E)) E) : okE (fIf t a b σ st) Q E := by
  refine okE_bind (okE_mono h fun c st1 q => ?_)
  cases c with
  | true => exact q.1 rfl
  | false => exact q.2 rfl
theorem w_call {g : List A → Store → RE A} (h : okE (fArgs as σ st) (fun xs st1 => okE (g xs st1) Q E) E) : okE (fCall g as σ st) Q E := okE_bind h
theorem w_lcall {g : List A → Store → RE (List A)} (h : okE (fArgs as σ st) (fun xs st1 => okE (g xs st1) QL E) E) : okE (lCall g as σ st) QL E := okE_bind h
theorem w_len (h : okE (a σ st) (fun x st1 => Els st1 x fun xs => Q (.v (.int xs.length)) st1) E) : okE (fLen a σ st) Q E := okE_bind (okE_mono h fun x st1 ⟨xs, q1, q2⟩ => by rw [q1]; exact q2)
theorem w_tuple (h : okE (a σ st) (fun x st1 => Els st1 x fun xs => Frz st1 xs fun ds st2 => Q (.v (.tup ds)) st2) E) : okE (fTuple a σ st) Q E :=
  okE_bind (okE_mono h fun x st1 ⟨xs, q1, ds, st2, q2, q3⟩ => by rw [q1]; dsimp only; rw [q2]; exact q3)
theorem w_isi {y : Ty} (h : okE (a σ st) (fun x st1 => Vie st1 x fun d => tyOk d = true ∧ Q (.v (.bl (isTy d y))) st1) E) : okE (fIsi a y σ st) Q E :=
  okE_bind (okE_mono h fun x st1 ⟨d, q1, q2, q3⟩ => w_of (by rw [q1]; show (if tyOk d = true then _ else _) = _; rw [if_pos q2]) q3)
theorem w_fld {i : Nat} (h : okE (a σ st) (fun x st1 => okE (RE.of (x.fld st1 i) st1) Q E) E) : okE (fFld i a σ st) Q E := okE_bind h
/-! tests -/
theorem w_tcmp (h : okE (a σ st) (fun x st1 => okE (RE.of x.bl? st1) QT E) E) : okE (tCmp a σ st) QT E := okE_bind h
theorem w_tof (h : okE (a σ st) (fun x st1 => okE (RE.of (truth st1 x) st1) QT E) E) : okE (tOf a σ st) QT E := okE_bind h
theorem w_tand (h : okE (ta σ st) (fun c st1 => Br c (okE (tb σ st1) QT E) (QT false st1)) E) : okE (Dn.tAnd ta tb σ st) QT E := by
  refine okE_bind (okE_mono h fun c st1 q => ?_)
  cases c with
  | true => exact q.1 rfl
  | false => exact q.2 rfl
theorem w_tor (h : okE (ta σ st) (fun c st1 => Br c (QT true st1) (okE (tb σ st1) QT E)) E) : okE (Dn.tOr ta tb σ st) QT E := by
  refine okE_bind (okE_mono h fun c st1 q => ?_)
  cases c with
  | true => exact q.1 rfl
  | false => exact q.2 rfl
theorem w_tnot (h : okE (ta σ st) (fun c st1 => QT (!c) st1) E) : okE (Dn.tNot ta σ st) QT E := okE_bind (okE_mono h fun _ _ q => q)
theorem w_tyes (q : QT true st) : okE (tYes σ st) QT E := q
theorem w_fand (h : okE (a σ st) (fun x st1 => Boo x fun c => Br c (okE (b σ st1) Q E) (Q (.v (.bl false)) st1)) E) : okE (fAnd a b σ st) Q E := by
  refine okE_bind (okE_mono h fun x st1 ⟨c, q1, q2⟩ => ?_)
  rw [q1]
  cases c with
  | true => exact q2.1 rfl
  | false => exact q2.2 rfl
theorem w_for_ (h : okE (a σ st) (fun x st1 => Boo x fun c => Br c (Q (.v (.bl true)) st1) (okE (b σ st1) Q E)) E) : okE (fOr a b σ st) Q E := by
  refine okE_bind (okE_mono h fun x st1 ⟨c, q1, q2⟩ => ?_)
  rw [q1]
  cases c with
  | true => exact q2.1 rfl
  | false => exact q2.2 rfl
theorem w_fnot (h : okE (a σ st) (fun x st1 => Boo x fun c => Q (.v (.bl (!c))) st1) E) : okE (fNot a σ st) Q E :=
  okE_bind (okE_mono h fun x st1 ⟨c, q1, q2⟩ => w_of (by rw [q1]; rfl) q2)
/-! statements -/
theorem w_seq (h : okS (sa σ st) ⟨fun σ1 st1 => okS (sb σ1 st1) ⟨N, R, B, C, X⟩, R, B, C, X⟩) : okS (sSeq sa sb σ st) ⟨N, R, B, C, X⟩ := by
  unfold sSeq
  cases q : sa σ st with
  | nx σ1 st1 => rw [q] at h; exact h
  | rt x s => rw [q] at h; exact h
  | bk x s => rw [q] at h; exact h
  | ct x s => rw [q] at h; exact h
  | err x y s => rw [q] at h; exact h
  | bad => rw [q] at h; exact h
theorem w_snil (h : N σ st) : okS (sNil σ st) ⟨N, R, B, C, X⟩ := h
theorem w_pass (h : N σ st) : okS (sPass σ st) ⟨N, R, B, C, X⟩ := h
theorem w_brk (h : B σ st) : okS (sBreak σ st) ⟨N, R, B, C, X⟩ := h
theorem w_cont (h : C σ st) : okS (sCont σ st) ⟨N, R, B, C, X⟩ := h
theorem w_expr (h : okE (e σ st) (fun _ st1 => N σ st1) (fun x st => X x σ st)) : okS (sExpr e σ st) ⟨N, R, B, C, X⟩ := okS_st h
theorem w_ret (h : okE (e σ st) (fun x st1 => R x st1) (fun x st => X x σ st)) : okS (sRet e σ st) ⟨N, R, B, C, X⟩ := okS_st h
theorem w_retN (h : R (.v .non) st) : okS (sRetN σ st) ⟨N, R, B, C, X⟩ := h
theorem w_sif (h : okE (t σ st) (fun c st1 => Br c (okS (sa σ st1) ⟨N, R, B, C, X⟩) (okS (sb σ st1) ⟨N, R, B, C, X⟩)) (fun x st => X x σ st)) : okS (sIf t sa sb σ st) ⟨N, R, B, C, X⟩ := by
  refine okS_st (okE_mono h fun c st1 q => ?_)
  cases c with
  | true => exact q.1 rfl
  | false => exact q.2 rfl
theorem w_set {i : Nat} (h : okE (e σ st) (fun x st1 => N (σ.set i (some x)) st1) (fun x st => X x σ st)) : okS (sSet i e σ st) ⟨N, R, B, C, X⟩ := okS_st h
theorem w_asg {tg : TgF} (h : okE (e σ st) (fun x st1 => Tgt tg x σ st1 N) (fun x st => X x σ st)) : okS (sAsg e tg σ st) ⟨N, R, B, C, X⟩ :=
  okS_st (okE_mono h fun x st1 ⟨σ2, st2, q1, q2⟩ => by rw [q1]; exact q2)
theorem w_par {i j : Nat} (h : okE (a σ st) (fun x st1 => okE (b σ st1) (fun y st2 => N ((σ.set i (some x)).set j (some y)) st2) (fun x st => X x σ st)) (fun x st => X x σ st)) : okS (sPar i j a b σ st) ⟨N, R, B, C, X⟩ :=
  okS_st (okE_mono h fun _ _ q => okS_st q)
theorem w_aug {i : Nat} {o : D → D → Option D} {x : A} (hx : σ[i]? = some (some x)) (h : okE (e σ st) (fun y st1 => ∃ z, ((x.view st1).bind fun d => (y.view st1).bind fun k => o d k) = some z ∧ N (σ.set i (some (.v z))) st1) (fun x st => X x σ st)) : okS (sAug i o e σ st) ⟨N, R, B, C, X⟩ := by
  unfold sAug
  rw [hx]
  refine okS_st (okE_mono h fun y st1 ⟨z, q1, q2⟩ => ?_)
  rw [q1]
  exact q2
/-! objects -/
theorem w_fldset {cc f : Nat} {o : EF} (h : okE (e σ st) (fun x st1 => okE (o σ st1) (fun y st2 => ∃ n b st3 ks xs, y = .ref n ∧ putA n st2 x = some (b, st3) ∧ st3[n]? = some (.obj cc ks xs) ∧ ks.length < 1000 ∧ N σ (st3.set n (.obj cc (fsK f ks) (fsX f b ks xs)))) (fun x st => X x σ st)) (fun x st => X x σ st)) : okS (sFldSet cc f o e σ st) ⟨N, R, B, C, X⟩ := by
  refine okS_st (okE_mono h fun x st1 q => okS_st (okE_mono q fun y st2 ⟨n, b, st3, ks, xs, q1, q2, q3, q4, q5⟩ => ?_))
  subst q1
  show okS (match putA n st2 x with
    | some (b, st3) => (match st3[n]? with
      | some (.obj c' ks xs) => gd (c' = cc ∧ ks.length < 1000) (.nx σ (st3.set n (.obj cc (fsK f ks) (fsX f b ks xs)))) .bad
      | _ => .bad)
    | none => .bad) ⟨N, R, B, C, X⟩
  rw [q2]
  dsimp only
  rw [q3]
  dsimp only
  rw [gd_pos ⟨rfl, q4⟩]
  exact q5
theorem w_callV {i y : Nat} {tb : List (Nat × (List A → Store → RE A))} {p : Nat × (List A → Store → RE A)} (h1 : σ[i]? = some (some (.v (.fn y)))) (h2 : tb.find? (fun p => decide (p.1 = y)) = some p) (h : okE (fArgs as σ st) (fun xs st1 => okE (p.2 xs st1) Q E) E) : okE (fCallV i tb as σ st) Q E := by
  unfold fCallV
  rw [h1]
  dsimp only
  rw [h2]
  exact okE_bind h
/-! defs -/
theorem w_retv {n : Nat} {d : D} {st' : Store} (h : st.take n = st') (q : Q (.v d) st') : okE (retA n (.v d) st) Q E := by
  show Q (.v d) (st.take n)
  rw [h]
  exact q
theorem w_retr {n m : Nat} {st' : Store} (hm : m < n) (h : st.take n = st') (q : Q (.ref m) st') : okE (retA n (.ref m) st) Q E := by
  have : (A.ref m).below n = true := decide_eq_true hm
  unfold retA
  rw [if_pos this, h]
  exact q
theorem w_fn {N : Nat} {xs : List A} (h : okS (sb (xs.map some ++ List.replicate (N - xs.length) none) st) ⟨fun _ st' => Q (.v .non) (st'.take st.length), fun x st' => okE (retA st.length x st') Q E, fun _ _ => False, fun _ _ => False, fun x _ st' => E x (st'.take st.length)⟩) : okE (fnV N sb xs st) Q E := by
  unfold fnV
  cases q : sb (xs.map some ++ List.replicate (N - xs.length) none) st with
  | nx σ1 st1 => rw [q] at h; exact h
  | rt x s => rw [q] at h; exact h
  | bk x s => rw [q] at h; exact h
  | ct x s => rw [q] at h; exact h
  | err x y s => rw [q] at h; exact h
  | bad => rw [q] at h; exact h
theorem w_fnL {N : Nat} {xs : List A} (h : okS (sb (xs.map some ++ List.replicate (N - xs.length) none) st) ⟨fun _ _ => False, fun x st' => ∃ n ys, x = .ref n ∧ st.length ≤ n ∧ st'[n]? = some (.lst ys) ∧ ys.all (A.below st.length) = true ∧ QL ys (st'.take st.length), fun _ _ => False, fun _ _ => False, fun x _ st' => E x (st'.take st.length)⟩) : okE (fnL N sb xs st) QL E := by
  unfold fnL
  cases q : sb (xs.map some ++ List.replicate (N - xs.length) none) st with
  | nx σ1 st1 => rw [q] at h; exact h
  | rt x s =>
    rw [q] at h
    obtain ⟨n, ys, rfl, h1, h2, h3, h4⟩ := h
    dsimp only
    rw [gd_pos h1, h2]
    dsimp only
    rw [if_pos h3]
    exact h4
  | bk x s => rw [q] at h; exact h
  | ct x s => rw [q] at h; exact h
  | err x y s => rw [q] at h; exact h
  | bad => rw [q] at h; exact h
/-- a new instance, closed -/
theorem w_new {cc n : Nat} {o : List Arg3} {ms : List D} {g : List A → Store → RE A} (h : okE (fArgs as σ st) (fun xs st1 => okE (newObj cc g (fun s => g3 o (s :: xs.take n) (ms.map .v) (xs.drop n)) st1) Q E) E) : okE (fNew cc n o ms g as σ st) Q E := okE_bind h
theorem w_newobj {cc : Nat} {g : List A → Store → RE A} {args : A → List A} {d : D} {st' : Store} (h : g (args (.ref st.length)) (st ++ [.obj cc [] []]) = .ok (.v .non) st') {st2 : Store} (hf : (A.ref st.length).frz st' = some (d, st2)) (ht : st2.take st.length = st) (q : Q (.v d) st) : okE (newObj cc g args st) Q E := by
  unfold newObj
  rw [h]
  dsimp only
  rw [hf]
  dsimp only
  rw [ht]
  exact q
end
section
variable {σ : Env} {st : Store} {Q : A → Store → Prop} {E : Exc → Store → Prop} {QL : List A → Store → Prop} {QI : Src → Store → Prop} {O : Out} {N : Env → Store → Prop} {R : A → Store → Prop} {B C : Env → Store → Prop} {X : Exc → Env → Store → Prop} {a b c e : EF} {sb : SF} {t : TgF} {it : IF} {ct : TF}
/-! what is walked -/
theorem w_range1 (h : okE (a σ st) (fun x st1 => Rg1 x fun n => QI ⟨rangeA 0 n.toNat, fun _ => True⟩ st1) E) : okE (iRange1 a σ st) QI E :=
  okE_bind (okE_mono h fun x st1 ⟨n, q1, q2, q3⟩ => by subst q1; dsimp only; rw [gd_pos q2]; exact q3)
theorem w_range2 (h : okE (a σ st) (fun x st1 => okE (b σ st1) (fun y st2 => Rg2 x y fun i j => QI ⟨rangeA i (j - i).toNat, fun _ => True⟩ st2) E) E) : okE (iRange2 a b σ st) QI E :=
  okE_bind (okE_mono h fun x st1 q => okE_bind (okE_mono q fun y st2 ⟨i, j, q1, q2, q3, q4⟩ => by subst q1 q2; dsimp only; rw [gd_pos q3]; exact q4))
theorem w_iseq (h : okE (a σ st) (fun x st1 => Isq x st1 fun ds => QI ⟨ds.map .v, fun _ => True⟩ st1) E) : okE (iSeq a σ st) QI E :=
  okE_bind (okE_mono h fun x st1 ⟨ds, q1, q2⟩ => by
    rcases q1 with rfl | rfl | rfl | ⟨n, rfl, q3⟩
    · exact q2
    · exact q2
    · exact q2
    · dsimp only; rw [q3]; exact q2)
/-- .. over a live list that the walk leaves as it is -/
theorem w_iseqR (h : okE (a σ st) (fun x st1 => ∃ n xs, x = .ref n ∧ st1[n]? = some (.lst xs) ∧ QI ⟨xs, fun st => st[n]? = some (.lst xs)⟩ st1) E) : okE (iSeq a σ st) QI E :=
  okE_bind (okE_mono h fun x st1 ⟨n, xs, q1, q2, q3⟩ => by subst q1; dsimp only; rw [q2]; exact q3)
theorem w_ienum (h : okE (a σ st) (fun x st1 => Sqd st1 x fun ds g => QI ⟨enumA 0 ds, g⟩ st1) E) : okE (iEnum a σ st) QI E :=
  okE_bind (okE_mono h fun x st1 ⟨ds, g, q1, q2⟩ => by rw [q1]; exact q2)
theorem w_izip (h : okE (a σ st) (fun x st1 => okE (b σ st1) (fun y st2 => Sqd st2 x fun ds g => Sqd st2 y fun es g' => QI ⟨zipA ds es, fun st => g st ∧ g' st⟩ st2) E) E) : okE (iZip a b σ st) QI E :=
  okE_bind (okE_mono h fun x st1 q => okE_bind (okE_mono q fun y st2 ⟨ds, g, q1, es, g', q2, q3⟩ => by rw [q1, q2]; exact q3))
theorem w_izip3 (h : okE (a σ st) (fun x st1 => okE (b σ st1) (fun y st2 => okE (c σ st2) (fun z st3 => Sqd st3 x fun ds g => Sqd st3 y fun es g' => Sqd st3 z fun fs g'' => QI ⟨zipA3 ds es fs, fun st => g st ∧ g' st ∧ g'' st⟩ st3) E) E) E) : okE (iZip3 a b c σ st) QI E :=
  okE_bind (okE_mono h fun x st1 q => okE_bind (okE_mono q fun y st2 q => okE_bind (okE_mono q fun z st3 ⟨ds, g, q1, es, g', q2, fs, g'', q3, q4⟩ => by rw [q1, q2, q3]; exact q4)))
theorem w_forL {g : Store → Prop} (xs : List A) (I : Nat → Env → Store → Prop) (hg : ∀ j σ st, I j σ st → g st)
    (hs : ∀ j x σ st, xs[j]? = some x → I j σ st → ∃ σ1 st1, t x σ st = some (σ1, st1) ∧ okS (sb σ1 st1) ⟨I (j + 1), O.rt, O.nx, I (j + 1), O.er⟩) (hd : ∀ σ st, I xs.length σ st → O.nx σ st) :
    ∀ (k : Nat) (j : Nat) (σ : Env) (st : Store), j + k = xs.length → I j σ st → okS (forL t sb g (xs.drop j) σ st) O
  | 0, j, σ, st, hj, h => by
    rw [List.drop_eq_nil_of_le (by omega)]
    show okS (forL t sb g [] σ st) O
    unfold forL
    rw [if_pos (hg _ _ _ h)]
    have : j = xs.length := by omega
    subst this
    exact hd _ _ h
  | k + 1, j, σ, st, hj, h => by
    have hlt : j < xs.length := by omega
    rw [List.drop_eq_getElem_cons hlt]
    obtain ⟨σ1, st1, h1, h2⟩ := hs j _ σ st (List.getElem?_eq_getElem hlt) h
    unfold forL
    rw [if_pos (hg _ _ _ h), h1]
    dsimp only
    cases q : sb σ1 st1 with
    | nx σ2 st2 => rw [q] at h2; exact w_forL xs I hg hs hd k (j + 1) σ2 st2 (by omega) h2
    | ct σ2 st2 => rw [q] at h2; exact w_forL xs I hg hs hd k (j + 1) σ2 st2 (by omega) h2
    | bk σ2 st2 => rw [q] at h2; exact h2
    | rt x s => rw [q] at h2; exact h2
    | err x y s => rw [q] at h2; exact h2
    | bad => rw [q] at h2; exact h2
/-- a loop by its invariant I (turn, slots, store) -/
theorem w_sfor (h : okE (it σ st) (fun s st1 => ∃ I : Nat → Env → Store → Prop, I 0 σ st1 ∧ (∀ j σ st, I j σ st → s.g st) ∧
    (∀ j x σ st, s.xs[j]? = some x → I j σ st → ∃ σ1 st1, t x σ st = some (σ1, st1) ∧ okS (sb σ1 st1) ⟨I (j + 1), R, N, I (j + 1), X⟩) ∧ (∀ σ st, I s.xs.length σ st → N σ st)) (fun x st => X x σ st)) : okS (sFor it t sb σ st) ⟨N, R, B, C, X⟩ := by
  refine okS_st (okE_mono h fun s st1 ⟨I, h0, hg, hs, hd⟩ => ?_)
  exact w_forL s.xs I hg hs hd s.xs.length 0 σ st1 (by omega) h0
theorem w_compL {g : Store → Prop} {vs : List Nat} (xs : List A) (I : Nat → List A → Store → Prop) (hg : ∀ j acc st, I j acc st → g st)
    (hs : ∀ j x acc st, xs[j]? = some x → I j acc st → ∃ σ1 st1, t x (wipeE σ vs) st = some (σ1, st1) ∧ okE (ct σ1 st1) (fun b st2 => Br b (okE (e σ1 st2) (fun a st3 => acc.length < sizeMax ∧ I (j + 1) (acc ++ [a]) st3) (fun _ _ => False)) (I (j + 1) acc st2)) (fun _ _ => False)) (hd : ∀ acc st, I xs.length acc st → QL acc st) :
    ∀ (k : Nat) (j : Nat) (acc : List A) (st : Store), j + k = xs.length → I j acc st → okE (compL t ct e vs g σ (xs.drop j) acc st) QL E
  | 0, j, acc, st, hj, h => by
    rw [List.drop_eq_nil_of_le (by omega)]
    show okE (compL t ct e vs g σ [] acc st) QL E
    unfold compL
    rw [if_pos (hg _ _ _ h)]
    have : j = xs.length := by omega
    subst this
    exact hd _ _ h
  | k + 1, j, acc, st, hj, h => by
    have hlt : j < xs.length := by omega
    rw [List.drop_eq_getElem_cons hlt]
    obtain ⟨σ1, st1, h1, h2⟩ := hs j _ acc st (List.getElem?_eq_getElem hlt) h
    unfold compL
    rw [if_pos (hg _ _ _ h), h1]
    dsimp only
    cases q : ct σ1 st1 with
    | ok bb st2 =>
      rw [q] at h2
      cases bb with
      | true =>
        have h3 := h2.1 rfl
        dsimp only
        cases q2 : e σ1 st2 with
        | ok a st3 =>
          rw [q2] at h3
          dsimp only
          rw [gd_pos h3.1]
          exact w_compL xs I hg hs hd k (j + 1) _ st3 (by omega) h3.2
        | err x s => rw [q2] at h3; exact h3.elim
        | bad => rw [q2] at h3; exact h3.elim
      | false => exact w_compL xs I hg hs hd k (j + 1) acc st2 (by omega) (h2.2 rfl)
    | err x s => rw [q] at h2; exact h2.elim
    | bad => rw [q] at h2; exact h2.elim
/-- a comprehension by its invariant I (turn, what is made, store) -/
theorem w_comp {vs : List Nat} (h : okE (it σ st) (fun s st1 => ∃ I : Nat → List A → Store → Prop, I 0 [] st1 ∧ (∀ j acc st, I j acc st → s.g st) ∧
    (∀ j x acc st, s.xs[j]? = some x → I j acc st → ∃ σ1 st1, t x (wipeE σ vs) st = some (σ1, st1) ∧ okE (ct σ1 st1) (fun b st2 => Br b (okE (e σ1 st2) (fun a st3 => acc.length < sizeMax ∧ I (j + 1) (acc ++ [a]) st3) (fun _ _ => False)) (I (j + 1) acc st2)) (fun _ _ => False)) ∧
    (∀ acc st, I s.xs.length acc st → QL acc st)) E) : okE (lComp it t ct e vs σ st) QL E := by
  refine okE_bind (okE_mono h fun s st1 ⟨I, h0, hg, hs, hd⟩ => ?_)
  exact w_compL s.xs I hg hs hd s.xs.length 0 [] st1 (by omega) h0
/-- o.append(e) -/
theorem w_append (h : okE (a σ st) (fun x st1 => ∃ n, x = .ref n ∧ isL st1[n]? = true ∧ okE (e σ st1) (fun y st2 => ∃ b st3 xs, putA n st2 y = some (b, st3) ∧ st3[n]? = some (.lst xs) ∧ xs.length < sizeMax ∧ Q (.v .non) (st3.set n (.lst (xs ++ [b])))) E) E) : okE (fAppend a e σ st) Q E := by
  refine okE_bind (okE_mono h fun x st1 ⟨n, q1, q2, q3⟩ => ?_)
  subst q1
  dsimp only
  rw [if_pos q2]
  refine okE_bind (okE_mono q3 fun y st2 ⟨b, st3, xs, q4, q5, q6, q7⟩ => ?_)
  rw [q4]
  dsimp only
  rw [q5]
  dsimp only
  rw [gd_pos q6]
  exact q7
end
end Dn

set_option linter.all false
set_option Elab.async false
/-! DenZ: a name that is not read again. -/
namespace Dn
open PySem
/-- slot i is not read from now on -/
noncomputable def sUn (i : Nat) (s : SF) : SF := fun σ st => s (σ.set i none) st
theorem w_sun {i : Nat} {sa : SF} {σ : Env} {st : Store} {N : Env → Store → Prop} {R : A → Store → Prop} {B C : Env → Store → Prop} {X : Exc → Env → Store → Prop} (h : okS (sa (σ.set i none) st) ⟨N, R, B, C, X⟩) : okS (sUn i sa σ st) ⟨N, R, B, C, X⟩ := h
end Dn
namespace Dn
open PySem
/-- o.pop(i), 0 ≤ i -/
noncomputable def fPop (o e : EF) : EF := fun σ st => (o σ st).bind fun x st1 => match x with
  | .ref n => if isL st1[n]? = true then ((e σ st1).bind fun a st2 => match a, st2[n]? with
    | .v (.int i), some (.lst xs) => gd (0 ≤ i ∧ i < xs.length ∧ xs.length ≤ sizeMax) (match xs[i.toNat]? with
      | some z => .ok z (st2.set n (.lst (xs.eraseIdx i.toNat)))
      | none => .bad) .bad
    | _, _ => .bad) else .bad
  | _ => .bad
theorem w_fpop {a e : EF} {σ : Env} {st : Store} {Q : A → Store → Prop} {E : Exc → Store → Prop} (h : okE (a σ st) (fun x st1 => ∃ n, x = .ref n ∧ isL st1[n]? = true ∧ okE (e σ st1) (fun y st2 => ∃ (j : Nat), ∃ xs z, y = .v (.int j) ∧ st2[n]? = some (.lst xs) ∧ xs.length ≤ sizeMax ∧ xs[j]? = some z ∧ Q z (st2.set n (.lst (xs.eraseIdx j)))) E) E) : okE (fPop a e σ st) Q E := by
  refine okE_bind (okE_mono h fun x st1 ⟨n, q1, q2, q3⟩ => ?_)
  subst q1
  dsimp only
  rw [if_pos q2]
  refine okE_bind (okE_mono q3 fun y st2 ⟨j, xs, z, q4, q5, q6, q7, q8⟩ => ?_)
  subst q4
  rw [q5]
  dsimp only
  have hj := (List.getElem?_eq_some_iff.mp q7).1
  rw [gd_pos ⟨by omega, by omega, q6⟩, Int.toNat_natCast, q7]
  exact q8
end Dn
namespace Dn
open PySem
/-- in, of anything -/
noncomputable def oInG (d e : D) : Option D := match oInU d e with
  | some b => some b
  | none => match e with
    | .tup ds => gd (shp d ∧ shp e) (some (.bl (ds.any fun z => eqDD z d))) none
    | .lst ds => gd (shp d ∧ shp e) (some (.bl (ds.any fun z => eqDD z d))) none
    | _ => none
noncomputable def oNotInG (d e : D) : Option D := match oNotInU d e with
  | some b => some b
  | none => match e with
    | .tup ds => gd (shp d ∧ shp e) (some (.bl (!ds.any fun z => eqDD z d))) none
    | .lst ds => gd (shp d ∧ shp e) (some (.bl (!ds.any fun z => eqDD z d))) none
    | _ => none
end Dn
namespace Dn
open PySem
/-! own operators and methods -/
/-- what does not raise -/
noncomputable def noErr {α : Type} : RE α → RE α
  | .ok a st => .ok a st
  | _ => .bad
open Classical in
/-- an operation of two: of two instances of c it is g, else o -/
noncomputable def opM (c : Nat) (g : List A → Store → RE A) (o : D → D → Option D) (x y : A) (st : Store) : RE A :=
  if x.clsOf st = some c ∧ y.clsOf st = some c then noErr (g [x, y] st) else RE.of ((x.view st).bind fun d => (y.view st).bind fun e => (o d e).map .v) st
noncomputable def fOpM (c : Nat) (g : List A → Store → RE A) (o : D → D → Option D) (a b : EF) : EF := fun σ st => (a σ st).bind fun x st1 => (b σ st1).bind fun y st2 => opM c g o x y st2
open Classical in
noncomputable def unM (c : Nat) (g : List A → Store → RE A) (o : D → Option D) (x : A) (st : Store) : RE A :=
  if x.clsOf st = some c then noErr (g [x] st) else RE.of ((x.view st).bind fun d => (o d).map .v) st
noncomputable def fUnM (c : Nat) (g : List A → Store → RE A) (o : D → Option D) (a : EF) : EF := fun σ st => (a σ st).bind fun x st1 => unM c g o x st1
open Classical in
/-- a built-in function of one, by a method of instances of c -/
noncomputable def fBM (c : Nat) (g : List A → Store → RE A) (o : List D → Option D) (a : EF) : EF := fun σ st => (a σ st).bind fun x st1 =>
  if x.clsOf st1 = some c then noErr (g [x] st1) else RE.of ((viewL st1 [x]).bind fun ds => (o ds).map .v) st1
open Classical in
/-- o.m(..), m a method of the class c -/
noncomputable def fMet (c : Nat) (g : List A → Store → RE A) (o : EF) (as : List EF) : EF := fun σ st => (o σ st).bind fun x st1 => if x.clsOf st1 = some c then ((fArgs as σ st1).bind fun xs st2 => g (x :: xs) st2) else .bad
noncomputable def bGcd : List D → Option D
  | [.int i, .int j] => some (.int ((Nat.gcd i.natAbs j.natAbs : Nat) : Int))
  | _ => none
section
variable {σ : Env} {st : Store} {Q : A → Store → Prop} {E : Exc → Store → Prop} {a b : EF} {as : List EF}
theorem noErr_ok {α : Type} {r : RE α} {Q : α → Store → Prop} {E E' : Exc → Store → Prop} (h : okE r Q (fun _ _ => False)) : okE (noErr r) Q E := by
  cases r with
  | ok x s => exact h
  | err x s => exact h.elim
  | bad => exact h.elim
theorem w_opM {c : Nat} {g : List A → Store → RE A} {o : D → D → Option D} (h : okE (a σ st) (fun x st1 => okE (b σ st1) (fun y st2 => okE (opM c g o x y st2) Q E) E) E) : okE (fOpM c g o a b σ st) Q E := okE_bind (okE_mono h fun _ _ q => okE_bind q)
theorem opM_obj {c : Nat} {g : List A → Store → RE A} {o : D → D → Option D} {ks ks' : List Nat} {ds ds' : List D} (h : okE (g [.v (.obj c ks ds), .v (.obj c ks' ds')] st) Q (fun _ _ => False)) : okE (opM c g o (.v (.obj c ks ds)) (.v (.obj c ks' ds')) st) Q E := by
  unfold opM
  rw [if_pos ⟨rfl, rfl⟩]
  exact noErr_ok (E' := E) h
theorem opM_int {c : Nat} {g : List A → Store → RE A} {o : D → D → Option D} {i : Int} {y : A} (h : okE (RE.of (((A.v (.int i)).view st).bind fun d => (y.view st).bind fun e => (o d e).map .v) st) Q E) : okE (opM c g o (.v (.int i)) y st) Q E := by
  unfold opM
  rw [if_neg (fun q => by cases q.1)]
  exact h
theorem opM_lst {c : Nat} {g : List A → Store → RE A} {o : D → D → Option D} {i : List D} {y : A} (h : okE (RE.of (((A.v (.lst i)).view st).bind fun d => (y.view st).bind fun e => (o d e).map .v) st) Q E) : okE (opM c g o (.v (.lst i)) y st) Q E := by
  unfold opM
  rw [if_neg (fun q => by cases q.1)]
  exact h
theorem opM_tup {c : Nat} {g : List A → Store → RE A} {o : D → D → Option D} {i : List D} {y : A} (h : okE (RE.of (((A.v (.tup i)).view st).bind fun d => (y.view st).bind fun e => (o d e).map .v) st) Q E) : okE (opM c g o (.v (.tup i)) y st) Q E := by
  unfold opM
  rw [if_neg (fun q => by cases q.1)]
  exact h
theorem w_unM {c : Nat} {g : List A → Store → RE A} {o : D → Option D} (h : okE (a σ st) (fun x st1 => okE (unM c g o x st1) Q E) E) : okE (fUnM c g o a σ st) Q E := okE_bind h
theorem unM_obj {c : Nat} {g : List A → Store → RE A} {o : D → Option D} {ks : List Nat} {ds : List D} (h : okE (g [.v (.obj c ks ds)] st) Q (fun _ _ => False)) : okE (unM c g o (.v (.obj c ks ds)) st) Q E := by
  unfold unM
  rw [if_pos (show A.clsOf st (A.v (D.obj c ks ds)) = some c from rfl)]
  exact noErr_ok (E' := E) h
theorem unM_int {c : Nat} {g : List A → Store → RE A} {o : D → Option D} {i : Int} (h : okE (RE.of (((A.v (.int i)).view st).bind fun d => (o d).map .v) st) Q E) : okE (unM c g o (.v (.int i)) st) Q E := by
  unfold unM
  rw [if_neg (fun q => by cases q)]
  exact h
theorem w_bM {c : Nat} {g : List A → Store → RE A} {o : List D → Option D} (h : okE (a σ st) (fun x st1 => (∃ i : Int, x = .v (.int i) ∧ okE (RE.of ((viewL st1 [x]).bind fun ds => (o ds).map .v) st1) Q E) ∨ ∃ ks ds, x = .v (.obj c ks ds) ∧ okE (g [x] st1) Q (fun _ _ => False)) E) : okE (fBM c g o a σ st) Q E :=
  okE_bind (okE_mono h fun x st1 q => by
    rcases q with ⟨i, rfl, q⟩ | ⟨ks, ds, rfl, q⟩
    · rw [if_neg (fun q => by cases q)]; exact q
    · rw [if_pos (show A.clsOf st1 (A.v (D.obj c ks ds)) = some c from rfl)]; exact noErr_ok (E' := E) q)
theorem w_met {c : Nat} {g : List A → Store → RE A} (h : okE (a σ st) (fun x st1 => x.clsOf st1 = some c ∧ okE (fArgs as σ st1) (fun xs st2 => okE (g (x :: xs) st2) Q E) E) E) : okE (fMet c g a as σ st) Q E :=
  okE_bind (okE_mono h fun x st1 ⟨q1, q2⟩ => by
    rw [if_pos q1]
    exact okE_bind q2)
end
end Dn
namespace Dn
open PySem
open Classical in
noncomputable def isCv (c : Nat) (st : Store) (x : A) : Option A := if x.clsOf st = some c then some (.v (.bl true)) else (x.view st).bind fun d => if tyOk d = true then some (.v (.bl false)) else none
/-- isinstance(x, c), c an own class -/
noncomputable def fIsC (c : Nat) (a : EF) : EF := fun σ st => (a σ st).bind fun x st1 => RE.of (isCv c st1 x) st1
theorem w_isC {c : Nat} {σ : Env} {st : Store} {Q : A → Store → Prop} {E : Exc → Store → Prop} {a : EF} (h : okE (a σ st) (fun x st1 => ∃ z, isCv c st1 x = some z ∧ Q z st1) E) : okE (fIsC c a σ st) Q E :=
  okE_bind (okE_mono h fun x st1 ⟨z, q1, q2⟩ => by rw [q1]; exact q2)
theorem isC_obj {c : Nat} {st : Store} {ks : List Nat} {ds : List D} : isCv c st (.v (.obj c ks ds)) = some (.v (.bl true)) := if_pos rfl
theorem isC_not {c : Nat} {st : Store} {d : D} (h : tyOk d = true) : isCv c st (.v d) = some (.v (.bl false)) := by
  unfold isCv
  rw [if_neg]
  · show (if tyOk d = true then some (A.v (.bl false)) else none) = _
    rw [if_pos h]
  · intro q
    cases d with
    | obj c ks ds => cases h
    | _ => cases q
end Dn

set_option linter.all false
set_option Elab.async false
set_option maxRecDepth 100000
/-! Zip3v: rows = zip(a, b, c), walked once by the comprehension behind it. -/
namespace Dn
open PySem PySem.Spec PyProof.Rows L2
section
variable {X : Cx} {pins : List (Addr × Obj)} {σ : L2.St} {H H' : Hp} {s : Shared}
/-- new things laid and tracked -/
theorem inv_lay {h' : Heap} {t' : Nat} (I : Inv X pins σ H s) (k : ∀ b u, s.heap.get? b = some u → h'.get? b = some u) (lo : ∀ b, b < s.heap.objs.size → H' b = H b)
    (hi : ∀ b o, s.heap.objs.size ≤ b → H' b = some o → ∃ φ : Heap → Prop, o = .ext φ ∧ φ h' ∧ (∃ ob, h'.get? b = some ob) ∧ ∀ h1 h2 : Heap, φ h1 → (∀ ob, h1.get? b = some ob → h2.get? b = some ob) → φ h2) : Inv X pins σ H' { s with heap := h', toks := t' } := by
  have lt : ∀ b o, H b = some o → b < s.heap.objs.size := fun b o e => (I.hok b o e).lt
  have same : ∀ b o, H b = some o → H' b = some o := fun b o e => by rw [lo b (lt b o e)]; exact e
  refine I.un ⟨fun b o e _ _ _ => k b o e, fun b o e _ _ _ => ⟨o.slots, k b o e⟩, fun b o e n _ => by rw [lo b (Heap.lt_size e)]; exact n, fun b o e _ => ⟨o, k b o e⟩, fun b xs e => same b _ e, fun b o u e => same b _ e, fun b ps e => ⟨#[], by rw [same b _ e]; simp⟩⟩ fun b o e => ?_
  by_cases hb : b < s.heap.objs.size
  · rw [lo b hb] at e
    exact (I.hok b o e).stay (fun c v _ q => k c v q) (fun c q => same c _ q) fun c xs q => same c _ q
  · obtain ⟨φ, rfl, h1, h2, h3⟩ := hi b o (Nat.le_of_not_lt hb) e
    exact ⟨h1, h2, h3⟩
/-- what is tracked, and young, may turn once it is forgotten -/
theorem fp_of {a : Addr} {u : HO} (I : Inv X pins σ H s) (h : H a = some u) (hn : X.s_0.heap.objs.size ≤ a) (h' : H' a = none) : FpOk X pins H' a := by
  obtain ⟨_, f2, f3, f4, f5, f6⟩ := ItX.inv_fp I h hn
  exact ⟨h', f2, f3, f4, f5, f6⟩
end
/-- the heap H1 with a fresh zip of three over it -/
structure Z3 (n : Nat) (H1 H2 : Hp) (b1 b2 b3 : Bool) (a b c z TI TO i1 i2 i3 : Addr) : Prop where
  sep : ZipSep3 z TI TO i1 i2 i3 [i1, a] [i2, b] [i3, c]
  n1 : a ≠ i1
  n2 : b ≠ i2
  n3 : c ≠ i3
  no : ∀ q ∈ [z, TI, TO, i1, i2, i3], H1 q = none ∧ n ≤ q
  e : H2 = upd (upd (upd (upd (upd (upd H1 z (.ext fun h => IsZip h z TI TO .none)) TI (.ext fun h => IsTupOf3 h TI (.ref i1) (.ref i2) (.ref i3))) TO (.ext fun h => ∃ x y u, IsTupOf3 h TO x y u)) i1 (.ext fun h => ItB h b1 i1 a 0)) i2 (.ext fun h => ItB h b2 i2 b 0)) i3 (.ext fun h => ItB h b3 i3 c 0)
  d12 : i1 ≠ i2
  d13 : i1 ≠ i3
  d23 : i2 ≠ i3
def tZip3v (K : PySem.W.Frag) (n : Nat) (ta : TA) : TE := fun σ H Q => ta σ H fun vs H1 => ∃ b1 b2 b3 a b c xs ys zs, vs = [.ref a, .ref b, .ref c] ∧ SqB K H1 b1 a xs ∧ SqB K H1 b2 b ys ∧ SqB K H1 b3 c zs ∧
  ∀ z TI TO i1 i2 i3 H2, Z3 n H1 H2 b1 b2 b3 a b c z TI TO i1 i2 i3 → Q (.ref z) H2
theorem pe_zip3v {X : Cx} {e e2 e3 : Expr} {ta : TA} {p pos : Pos} (hg : Gl X "zip") (hm : X.mg "zip" = none) (ha : PA X [e, e2, e3] ta)
    (hs : starEach [e, e2, e3] X.env = (false, eval e X.env) :: starEach [e2, e3] X.env := by rfl) (hpl : (backTo pos (starEach [e2, e3] X.env)).any (·.1) = false := by rfl) :
    PE X (.Call (.Name "zip" p) [e, e2, e3] [] pos) (tZip3v X.K X.s_0.heap.objs.size ta) := by
  refine ⟨fun pins s σ H Q I h => ?_⟩
  refine Call_ (ld_blt I hg hm PyProof.Rows.boot_zip (PyProof.Rows.callWith_type1 (thn (ha.run pos pins s σ H _ I h) fun us s1 ⟨vs, H1, I1, r1, q1⟩ => ?_) hs hpl))
  obtain ⟨b1, b2, b3, a, b, c, xs, ys, zs, ex, hqx, hqy, hqz, q⟩ := q1
  subst ex
  cases r1 with
  | cons r rr =>
    cases rr with
    | cons r' rr =>
     cases rr with
     | cons r'' rr =>
      cases rr
      cases r
      cases r'
      cases r''
      obtain ⟨its, rv, p1⟩ := seqB I1 hqx
      obtain ⟨its2, rv2, p2⟩ := seqB I1 hqy
      obtain ⟨its3, rv3, p3⟩ := seqB I1 hqz
      have la := p1.lt
      have lb := p2.lt
      have lc := p3.lt
      refine zip_begins3 (beginsB b1 a its.toArray) (beginsB b2 b its2.toArray) (beginsB b3 c its3.toArray) p1 p2 p3 fun h' hz hTI hTO h1 h2 h3 hsz hk => ?_
      have sep := zip_sep3 (fp1 := [a]) (fp2 := [b]) (fp3 := [c]) (by simpa using la) (by simpa using lb) (by simpa using lc)
      refine ⟨.ref (s1.heap.objs.size + 5), _, ?_, rfl, q (s1.heap.objs.size + 5) (s1.heap.objs.size + 3) (s1.heap.objs.size + 4) s1.heap.objs.size (s1.heap.objs.size + 1) (s1.heap.objs.size + 2) _ ⟨sep, Nat.ne_of_lt la, Nat.ne_of_lt (Nat.lt_succ_of_lt lb), Nat.ne_of_lt (Nat.lt_succ_of_lt (Nat.lt_succ_of_lt lc)), fun q hcm => ?_, rfl, ?_, ?_, ?_⟩⟩
      · refine inv_lay (t' := s1.toks) I1 hk (fun q hq => ?_) fun q o hq e => ?_
        · rw [upd_ne (by show (q : Nat) ≠ _; omega), upd_ne (by show (q : Nat) ≠ _; omega), upd_ne (by show (q : Nat) ≠ _; omega), upd_ne (by show (q : Nat) ≠ _; omega), upd_ne (by show (q : Nat) ≠ _; omega), upd_ne (by show (q : Nat) ≠ _; omega)]
        · by_cases e6 : q = s1.heap.objs.size + 2
          · subst e6
            rw [upd_same] at e
            cases e
            exact ⟨_, rfl, itB_new h3, ⟨_, h3⟩, fun h1 h2 g k => g.at fun o q => k o q⟩
          rw [upd_ne e6] at e
          by_cases e5 : q = s1.heap.objs.size + 1
          · subst e5
            rw [upd_same] at e
            cases e
            exact ⟨_, rfl, itB_new h2, ⟨_, h2⟩, fun h1 h2 g k => g.at fun o q => k o q⟩
          rw [upd_ne e5] at e
          by_cases e4 : q = s1.heap.objs.size
          · subst e4
            rw [upd_same] at e
            cases e
            exact ⟨_, rfl, itB_new h1, ⟨_, h1⟩, fun h1 h2 g k => g.at fun o q => k o q⟩
          rw [upd_ne e4] at e
          by_cases e3 : q = s1.heap.objs.size + 4
          · subst e3
            rw [upd_same] at e
            cases e
            exact ⟨_, rfl, ⟨_, _, _, hTO⟩, ⟨_, hTO⟩, fun h1 h2 ⟨x, y, u, g⟩ k => ⟨x, y, u, k _ g⟩⟩
          rw [upd_ne e3] at e
          by_cases e2 : q = s1.heap.objs.size + 3
          · subst e2
            rw [upd_same] at e
            cases e
            exact ⟨_, rfl, hTI, ⟨_, hTI⟩, fun h1 h2 g k => k _ g⟩
          rw [upd_ne e2] at e
          by_cases e1 : q = s1.heap.objs.size + 5
          · subst e1
            rw [upd_same] at e
            cases e
            exact ⟨_, rfl, hz, ⟨_, hz⟩, fun h1 h2 g k => k _ g⟩
          rw [upd_ne e1] at e
          rw [I1.hok.fresh hq] at e
          cases e
      · have hle : s1.heap.objs.size ≤ q := by
          simp at hcm
          rcases hcm with z | z | z | z | z | z <;> (rw [z]; omega)
        exact ⟨I1.hok.fresh hle, Nat.le_trans I1.sz hle⟩
      · show (s1.heap.objs.size : Nat) ≠ _; omega
      · show (s1.heap.objs.size : Nat) ≠ _; omega
      · show (s1.heap.objs.size + 1 : Nat) ≠ _; omega
/-- x, a name that holds the zip -/
def iZip3v (K : PySem.W.Frag) (n ix : Nat) : TI := fun σ H R => ∃ H1 b1 b2 b3 a b c z TI TO i1 i2 i3, σ[ix]? = some (some (.ref z)) ∧ Z3 n H1 H b1 b2 b3 a b c z TI TO i1 i2 i3 ∧ R (Itz3 K b1 b2 b3 a b c) H1
theorem pi_zip3v {X : Cx} {elts : List Expr} {kk ix : Nat} {tpos p : Pos} {x : Str} (hN : X.N[ix]? = some x) (hv : Vis X.env.scope x) (hd : (x == ("__debug__" : Str)) = false := by decide) (hcd : (x == ("__classdict__" : Str)) = false := by decide) :
    PI X (.Tuple elts kk tpos) (.Name x p) (iZip3v X.K X.s_0.heap.objs.size ix) := by
  refine ⟨fun pins s σ H R I h => ?_⟩
  obtain ⟨H1, b1, b2, b3, a, b, c, z, TI, TO, i1, i2, i3, hs, zz, q⟩ := h
  refine thn ((pe_var (pos := p) (i := ix) hN hv hd hcd).run pins s σ H (fun v H1 => v = .ref z ∧ H1 = H) I ⟨.ref z, hs, rfl, rfl⟩) fun u s1 ⟨v, H', I1, r1, ev, eH⟩ => ?_
  subst ev
  rw [eH] at I1
  cases r1
  have m1 := zz.sep.TIz
  have m2 := zz.sep.TOz
  have m3 := zz.sep.TITO
  have m4 := zz.sep.TIi1
  have m5 := zz.sep.TIi2
  have m6 := zz.sep.TIi3
  have m7 : z ≠ i1 := fun e => zz.sep.zf1 (by rw [e]; simp)
  have m8 : z ≠ i2 := fun e => zz.sep.zf2 (by rw [e]; simp)
  have m9 : z ≠ i3 := fun e => zz.sep.zf3 (by rw [e]; simp)
  have k1 : TO ≠ i1 := fun e => zz.sep.Tf1 (by rw [e]; simp)
  have k2 : TO ≠ i2 := fun e => zz.sep.Tf2 (by rw [e]; simp)
  have k3 : TO ≠ i3 := fun e => zz.sep.Tf3 (by rw [e]; simp)
  have d12 := zz.d12
  have d13 := zz.d13
  have d23 := zz.d23
  have gz : H z = some (.ext fun h => IsZip h z TI TO .none) := by rw [zz.e, upd_ne m9, upd_ne m8, upd_ne m7, upd_ne m2.symm, upd_ne m1.symm, upd_same]
  have gTI : H TI = some (.ext fun h => IsTupOf3 h TI (.ref i1) (.ref i2) (.ref i3)) := by rw [zz.e, upd_ne m6, upd_ne m5, upd_ne m4, upd_ne m3, upd_same]
  have gTO : H TO = some (.ext fun h => ∃ x y u, IsTupOf3 h TO x y u) := by rw [zz.e, upd_ne k3, upd_ne k2, upd_ne k1, upd_same]
  have g1 : H i1 = some (.ext fun h => ItB h b1 i1 a 0) := by rw [zz.e, upd_ne d13, upd_ne d12, upd_same]
  have g2 : H i2 = some (.ext fun h => ItB h b2 i2 b 0) := by rw [zz.e, upd_ne d23, upd_same]
  have g3 : H i3 = some (.ext fun h => ItB h b3 i3 c 0) := by rw [zz.e, upd_same]
  have nz := (zz.no z (by simp)).1
  have nTI := (zz.no TI (by simp)).1
  have nTO := (zz.no TO (by simp)).1
  have n1 := (zz.no i1 (by simp)).1
  have n2 := (zz.no i2 (by simp)).1
  have n3 := (zz.no i3 (by simp)).1
  have I0 : Inv X pins σ H1 s1 := by
    have I2 := I1
    rw [zz.e] at I2
    have I3 := ItX.inv_drop I2 upd_same
    rw [ItX.dropH_upd (by rw [upd_ne d23.symm, upd_ne d13.symm, upd_ne k3.symm, upd_ne m6.symm, upd_ne m9.symm]; exact n3)] at I3
    have I4 := ItX.inv_drop I3 upd_same
    rw [ItX.dropH_upd (by rw [upd_ne d12.symm, upd_ne k2.symm, upd_ne m5.symm, upd_ne m8.symm]; exact n2)] at I4
    have I5 := ItX.inv_drop I4 upd_same
    rw [ItX.dropH_upd (by rw [upd_ne k1.symm, upd_ne m4.symm, upd_ne m7.symm]; exact n1)] at I5
    have I6 := ItX.inv_drop I5 upd_same
    rw [ItX.dropH_upd (by rw [upd_ne m3.symm, upd_ne m2]; exact nTO)] at I6
    have I7 := ItX.inv_drop I6 upd_same
    rw [ItX.dropH_upd (by rw [upd_ne m1]; exact nTI)] at I7
    have I8 := ItX.inv_drop I7 upd_same
    rw [ItX.dropH_upd nz] at I8
    exact I8
  have fz : IsZip s1.heap z TI TO .none := (I1.hok z _ gz).1
  refine wpAny_pyIter_zip fz ?_
  refine ⟨z, [z, TI, TO, i1, i2, i3], _, _, H1, rfl, I0, turn_zip3 zz.sep zz.n1 zz.n2 zz.n3, ⟨fz, (I1.hok TI _ gTI).1, (I1.hok TO _ gTO).1, (I1.hok i1 _ g1).1, (I1.hok i2 _ g2).1, (I1.hok i3 _ g3).1⟩, fun q hcm => ?_, q⟩
  obtain ⟨y1, y2⟩ := zz.no q hcm
  have there : ∃ u, H q = some u := by
    simp at hcm
    rcases hcm with e | e | e | e | e | e <;> (rw [e]; exact ⟨_, by assumption⟩)
  obtain ⟨u, hu⟩ := there
  exact fp_of I1 hu y2 y1
/-- the reading of a comprehension over what is there -/
theorem comp_at {k : Kx} {W : WX} {t : TgF} {ct : TF} {fe : EF} {vs is : List Nat} (his : ∀ j ∈ is, j ∈ vs) {G H1 : Hp} {μ1 : List Addr} {F1 : Hp} {st1 : Store} {σd : Env} {σ : L2.St} {s : Src} {J : It} {Q : VK}
    (S1 : Sim k.K G μ1 F1 st1 H1) (R : ERep k μ1 F1 σd σ) (yi : Yields k μ1 F1 s J)
    (h1 : Post k G μ1 F1 (fun c d H' => W c d σ H') (fun xs _ μ' F' H' => ∀ p vs, H' p = some (.lst vs) → F' p = none → p ∉ μ' → G p = none → AReps k.K μ' F' xs vs → Q (.ref p) H') (compL t ct fe vs s.g σd s.xs [] st1)) :
    tLc (fun _ _ RR => RR J H1) (dG k is t) (dT k noW ct) (dE k noW fe) vs σ H1 Q := by
  intro D hD
  have hG : G D = none := S1.freeG hD
  refine ⟨fun i m H => m = s.xs.length - i ∧ i ≤ s.xs.length ∧ ∃ μ' F' st' acc av, Ext μ1 F1 μ' F' ∧ Sim k.K (upd G D (.lst av)) μ' F' st' H ∧ AReps k.K μ' F' acc av ∧
      Post k G μ' F' (fun c d H' => W c d σ H') (fun xs _ μ' F' H' => ∀ p vs, H' p = some (.lst vs) → F' p = none → p ∉ μ' → G p = none → AReps k.K μ' F' xs vs → Q (.ref p) H') (compL t ct fe vs s.g σd (s.xs.drop i) acc st'),
    ⟨s.xs.length, by simp, Nat.zero_le _, μ1, F1, st1, [], [], Ext.refl _ _, (S1.heap hD).aside upd_same (S1.freeF hD) hG (S1.notin hD), .nil, h1⟩, ?_⟩
  rintro i m H ⟨rfl, hi, μ', F', st', acc, av, ex, S', ra, hP⟩
  obtain ⟨Sb, hHD, hFD, hμD⟩ := S'.back hG
  by_cases hlt : i < s.xs.length
  · rw [List.drop_eq_getElem_cons hlt] at hP
    unfold compL at hP
    split at hP
    · rename_i hgd
      obtain ⟨go, yl⟩ := (yi _ i μ' F' st' H ex S' hgd).1 _ (List.getElem?_eq_getElem hlt)
      refine .inr ⟨go, fun H2 => ∃ μ2 F2 st2 acc2 av2, Ext μ1 F1 μ2 F2 ∧ Sim k.K (upd G D (.lst av2)) μ2 F2 st2 H2 ∧ AReps k.K μ2 F2 acc2 av2 ∧
        Post k G μ2 F2 (fun c d H' => W c d σ H') (fun xs _ μ' F' H' => ∀ p vs, H' p = some (.lst vs) → F' p = none → p ∉ μ' → G p = none → AReps k.K μ' F' xs vs → Q (.ref p) H') (compL t ct fe vs s.g σd (s.xs.drop (i + 1)) acc2 st2),
        fun H2 q => ⟨s.xs.length - (i + 1), by omega, rfl, hlt, q⟩, fun v H' hy => ?_⟩
      obtain ⟨F2, x2, S2, r2⟩ := yl v H' hy
      refine ⟨_, μ', F2, st', wipeE σd vs, _, S2, ((R.ext ex).ext x2).wipe vs, r2, ?_⟩
      cases q : t s.xs[i] (wipeE σd vs) st' with
      | none => rw [q] at hP; exact hP.elim
      | some pr =>
        rw [q] at hP
        intro μ3 F3 H3 x3 S3 σ3 R3 ag
        refine ⟨wipe_agree (ag.weak his), ?_⟩
        refine ⟨_, μ3, F3, pr.2, pr.1, S3, R3, ?_⟩
        dsimp only at hP
        cases q2 : ct pr.1 pr.2 with
        | bad => rw [q2] at hP; exact hP.elim
        | err _ _ => rw [q2] at hP; exact hP.elim
        | ok cc st4 =>
          rw [q2] at hP
          intro μ4 F4 H4 x4 S4
          cases cc with
          | false => exact ⟨μ4, F4, st4, acc, av, ((ex.trans x2).trans x3).trans x4, S4, AReps.ext ((x2.trans x3).trans x4) ra, Post.ext ((x2.trans x3).trans x4) hP⟩
          | true =>
            refine ⟨_, μ4, F4, st4, pr.1, S4, R3.ext x4, ?_⟩
            dsimp only at hP
            cases q3 : fe pr.1 st4 with
            | bad => rw [q3] at hP; exact hP.elim
            | err _ _ => rw [q3] at hP; exact hP.elim
            | ok z st5 =>
              rw [q3] at hP
              dsimp only at hP
              intro μ5 F5 H5 x5 S5 w rw'
              unfold gd at hP
              split at hP
              · rename_i hsz
                obtain ⟨S6, h6, hF6, hμ6⟩ := S5.back hG
                have exx := (((x2.trans x3).trans x4).trans x5)
                refine ⟨av, h6, ?_, μ5, F5, st5, acc ++ [z], av ++ [w], ex.trans exx, (S6.other hF6 hG hμ6).aside upd_same hF6 hG hμ6, AReps.snoc (AReps.ext exx ra) rw', Post.ext exx hP⟩
                rw [← ra.len, ← sizeMax_eq]
                exact hsz
              · exact hP.elim
    · exact hP.elim
  · rw [List.drop_eq_nil_of_le (by omega)] at hP
    unfold compL at hP
    split at hP
    · rename_i hgd
      exact .inl ⟨(yi _ i μ' F' st' H ex S' hgd).2 (by omega), hP μ' F' H (Ext.refl _ _) Sb D av hHD hFD hμD hG ra⟩
    · exact hP.elim

theorem st_bind {α β : Type} (r : RE α) (g : α → Store → RE β) (σ : Env) (f : β → Store → RS) : (r.bind g).st σ f = r.st σ fun a st => (g a st).st σ f := by
  cases r <;> rfl
theorem ERep.un {k : Kx} {μ : List Addr} {F : Hp} {σd : Env} {σ : L2.St} (R : ERep k μ F σd σ) (i : Nat) : ERep k μ F (σd.set i none) σ :=
  ⟨by simp [R.len], fun j a q => by
    by_cases hj : i = j
    · subst hj
      by_cases hl : i < σd.length
      · rw [List.getElem?_set_self hl] at q; cases q
      · rw [List.getElem?_eq_none (by simp; omega)] at q; cases q
    · rw [List.getElem?_set_ne hj] at q
      exact R.at_ j a q, R.j⟩
theorem ERep.un2 {k : Kx} {μ : List Addr} {F : Hp} {σd : Env} {σ : L2.St} {i : Nat} {v : V} (R : ERep k μ F (σd.set i none) σ) : ERep k μ F (σd.set i none) (σ.set i (some v)) :=
  ⟨by simpa using R.len, fun j a q => by
    by_cases hj : i = j
    · subst hj
      by_cases hl : i < σd.length
      · rw [List.getElem?_set_self hl] at q; cases q
      · rw [List.getElem?_eq_none (by simp; omega)] at q; cases q
    · rw [List.getElem?_set_ne hj]
      exact R.at_ j a q, R.j⟩
def zE (Kf : PySem.W.Frag) (n ix : Nat) (k : Kx) (W : WX) (t : TgF) (ct : TF) (fe : EF) (vs : List Nat) : TE := fun σ H Q => ∃ H0 b1 b2 b3 a b c z TI TO i1 i2 i3, σ[ix]? = some (some (.ref z)) ∧ Z3 n H0 H b1 b2 b3 a b c z TI TO i1 i2 i3 ∧
  ∃ G μ F st σd s, Sim k.K G μ F st H0 ∧ ERep k μ F σd σ ∧ Yields k μ F s (Itz3 Kf b1 b2 b3 a b c) ∧
    Post k G μ F (fun c d H' => W c d σ H') (fun a _ μ' F' H' => ∀ v, ARep k.K μ' F' a v → Q v H') (fTuple (fFrz (lComp (fun _ st => .ok s st) t ct fe vs)) σd st)
section
variable {X : Cx} {W : WX} {k : Kx} {pos p : Pos}
theorem e_tupZ {elt : Expr} {elts ifs : List Expr} {kk ix : Nat} {tpos px lpos : Pos} {x : Str} {scope : Scope} {own : List (Str × Nat)} {is : List Nat} {t : TgF} {ct : TF} {fe : EF} (hg : Gl X ("tuple" : Str)) (hm : X.mg ("tuple" : Str) = none) (hk : k.K = X.K)
    (hc : X.calm = true) (hN : X.N.Nodup) (hx : X.N[ix]? = some x) (hv : Vis X.env.scope x) (ok : BlkOk X.N X.env.scope scope own)
    (hg' : ∀ (s : Shared) (H : Hp) (C : Addr) (cl : List (Str × Addr)) (fp : List Addr), PG (X.blk s H scope (compEnvC scope cl C X.env) fp) (.Tuple elts kk tpos) (dG k is t)) (ht : ∀ (s : Shared) (H : Hp) (C : Addr) (cl : List (Str × Addr)) (fp : List Addr), PTs (X.blk s H scope (compEnvC scope cl C X.env) fp) ifs (dT k noW ct))
    (he : ∀ (s : Shared) (H : Hp) (C : Addr) (cl : List (Str × Addr)) (fp : List Addr), PE (X.blk s H scope (compEnvC scope cl C X.env) fp) elt (dE k noW fe)) (his : ∀ j ∈ is, j ∈ own.map (·.2) := by decide) (hfs : ∀ z, foldedSetIterable (.Name x px) X.env z = pure z := by intro _; rfl)
    (hd : (x == ("__debug__" : Str)) = false := by decide) (hcd : (x == ("__classdict__" : Str)) = false := by decide)
    (hs : starEach [.ListComp elt [⟨.Tuple elts kk tpos, .Name x px, ifs, 0⟩] scope lpos] X.env = (false, eval (.ListComp elt [⟨.Tuple elts kk tpos, .Name x px, ifs, 0⟩] scope lpos) X.env) :: starEach [] X.env := by rfl) (hpl : (backTo pos (starEach [] X.env)).any (·.1) = false := by rfl) :
    PE X (.Call (.Name ("tuple" : Str) p) [.ListComp elt [⟨.Tuple elts kk tpos, .Name x px, ifs, 0⟩] scope lpos] [] pos) (zE X.K X.s_0.heap.objs.size ix k W t ct fe (own.map (·.2))) :=
  pe_weak (pe_callTy call_tuple_of hg hm (by decide +kernel) (pa_cons (pe_lc hc hN (pi_zip3v hx hv hd hcd) ok hg' ht he hfs) pa_nil hs) (by decide) (by decide) hs hpl) fun σ H Q h => by
    obtain ⟨H0, b1, b2, b3, a, b, c, z, TI, TO, i1, i2, i3, hz, zz, G, μ, F, st, σd, s, S, R, yi, h⟩ := h
    refine ⟨H0, b1, b2, b3, a, b, c, z, TI, TO, i1, i2, i3, hz, zz, ?_⟩
    refine (show tLc (fun _ _ RR => RR (Itz3 X.K b1 b2 b3 a b c) H0) (dG k is t) (dT k noW ct) (dE k noW fe) (own.map (·.2)) σ H0 (fun v H1 => ∃ p ys, [v] = [V.ref p] ∧ ((SqL X.K H1 p ys ∧ ∀ l, H1 l = none → Q (.ref l) (upd H1 l (.tup ys))) ∨ (SqT X.K H1 p ys ∧ Q (.ref p) H1))) from ?_)
    refine comp_at (W := W) his S R yi ?_
    refine (Post.bind (Post.bind h)).mono fun as st1 μ1 F1 H1 e1 S1 h1 p vs hp hF hμ hG rv => ?_
    split at h1
    · rename_i ds st2 q
      obtain ⟨F2, S2, x2, r2, n2⟩ := frzL_ok S1 rv q
      obtain ⟨S3, x3⟩ := S2.keep hp (n2 p hμ hF) hG hμ
      have h2 := h1 μ1 _ _ (x2.trans x3) S3
      have r3 : Rep k.K (upd F2 p (.lst vs)) (.lst ds) (.ref p) := Rep.lst upd_same (r2.mono x3.2)
      obtain ⟨p', ys, e', hsq, hr⟩ := elems_rep (a := .v (.lst ds)) S3 (show ARep k.K μ1 (upd F2 p (.lst vs)) (.v (.lst ds)) (.ref p) from r3) rfl
      refine ⟨p', ys, by rw [e'], ?_⟩
      rw [hk] at hsq
      have h3 : Post k G μ1 (upd F2 p (.lst vs)) (fun c d H' => W c d σ H') (fun a _ μ' F' H' => ∀ v, ARep k.K μ' F' a v → Q v H') (match frzL st2 (ds.map .v) with | some (ds, st2) => RE.ok (A.v (.tup ds)) st2 | none => .bad) := h2
      rw [frzL_vals] at h3
      rcases hsq with hsq | hsq
      · refine .inl ⟨hsq, fun l hl => ?_⟩
        obtain ⟨S4, x4⟩ := S3.new (o := .tup ys) hl
        exact h3 μ1 _ _ x4 S4 _ (Rep.tup upd_same ((hr.vals (vals_map ds)).mono x4.2))
      · obtain ⟨hsq, ds', e2⟩ := hsq
        cases e2
    · exact h1.elim
/-- behind the zip the name holds it -/
theorem zip_head {fa fb fc : EF} {ix : Nat} {t : TgF} {ct : TF} {fe : EF} {vs : List Nat} {D : Ends} {σ : L2.St} {H G F : Hp} {μ : List Addr} {st : Store} {σd : Env} {f : A → Store → RS} (hk : k.K = X.K) (hix : ix < σ.length) (S : Sim k.K G μ F st H) (R : ERep k μ F (σd.set ix none) σ)
    (h : PostS k G μ F W D ((fTuple (fFrz (lComp (iZip3 fa fb fc) t ct fe vs)) (σd.set ix none) st).st (σd.set ix none) f)) {N : L2.St → VK}
    (hN : ∀ σ' μ' F' H' a st' v, Ext μ F μ' F' → Sim k.K G μ' F' st' H' → ERep k μ' F' (σd.set ix none) σ' → ARep k.K μ' F' a v → PostS k G μ' F' W D (f a st') → N σ' v H') :
    tZip3v X.K X.s_0.heap.objs.size (tCons (dE k W fa) (tCons (dE k W fb) (tCons (dE k W fc) tNil))) σ H (fun v H2 => zE X.K X.s_0.heap.objs.size ix k W t ct fe vs (σ.set ix (some v)) H2 (N (σ.set ix (some v)))) := by
  generalize hσ : σd.set ix none = σ0 at *
  have hu : ∀ {μ F}, ERep k μ F σ0 σ → ∀ v, ERep k μ F σ0 (σ.set ix (some v)) := fun R v => by rw [← hσ] at R ⊢; exact R.un2
  have h' : PostS k G μ F W D ((fa σ0 st).st σ0 fun x st1 => (fb σ0 st1).st σ0 fun y st2 => (fc σ0 st2).st σ0 fun z st3 => ((match x.seqd st3, y.seqd st3, z.seqd st3 with
      | some (ds, g), some (es, g'), some (fs, g'') => fTuple (fFrz (lComp (fun _ st => .ok ⟨zipA3 ds es fs, fun st => g st ∧ g' st ∧ g'' st⟩ st) t ct fe vs)) σ0 st3
      | _, _, _ => .bad) : RE A).st σ0 f) := by
    have e : (fTuple (fFrz (lComp (iZip3 fa fb fc) t ct fe vs)) σ0 st).st σ0 f = ((fa σ0 st).st σ0 fun x st1 => (fb σ0 st1).st σ0 fun y st2 => (fc σ0 st2).st σ0 fun z st3 => ((match x.seqd st3, y.seqd st3, z.seqd st3 with
      | some (ds, g), some (es, g'), some (fs, g'') => fTuple (fFrz (lComp (fun _ st => .ok ⟨zipA3 ds es fs, fun st => g st ∧ g' st ∧ g'' st⟩ st) t ct fe vs)) σ0 st3
      | _, _, _ => .bad) : RE A).st σ0 f) := by
      unfold fTuple fFrz lComp iZip3
      cases fa σ0 st with
      | err x s => rfl
      | bad => rfl
      | ok x st1 =>
        dsimp only [bind_ok, st_ok]
        cases fb σ0 st1 with
        | err x s => rfl
        | bad => rfl
        | ok y st2 =>
          dsimp only [bind_ok, st_ok]
          cases fc σ0 st2 with
          | err x s => rfl
          | bad => rfl
          | ok z st3 =>
            dsimp only [bind_ok, st_ok]
            cases x.seqd st3 with
            | none => rfl
            | some p =>
              cases y.seqd st3 with
              | none => rfl
              | some p' =>
                cases z.seqd st3 with
                | none => rfl
                | some p'' => rfl
    rw [e] at h
    exact h
  refine ⟨G, μ, F, st, σ0, S, R, (PostS.st R h').mono fun x st1 μ1 F1 H1 e1 S1 h1 v rv => ?_⟩
  refine ⟨G, μ1, F1, st1, σ0, S1, R.ext e1, (PostS.st (R.ext e1) h1).mono fun y st2 μ2 F2 H2 e2 S2 h2 w rw' => ?_⟩
  refine ⟨G, μ2, F2, st2, σ0, S2, (R.ext e1).ext e2, (PostS.st ((R.ext e1).ext e2) h2).mono fun z st3 μ3 F3 H3 e3 S3 h3 u ru => ?_⟩
  split at h3
  · rename_i ds g es g' fs g'' q q2 q3
    obtain ⟨b, ad, vs1, rfl, hq, hw⟩ := seqd_rep S3 (rv.ext (e2.trans e3)) q
    obtain ⟨b', ad', vs2, rfl, hq2, hw2⟩ := seqd_rep S3 (rw'.ext e3) q2
    obtain ⟨b'', ad'', vs3, rfl, hq3, hw3⟩ := seqd_rep S3 ru q3
    refine ⟨b, b', b'', ad, ad', ad'', vs1, vs2, vs3, rfl, ?_, ?_, ?_, fun z TI TO i1 i2 i3 H4 zz => ?_⟩
    · rw [← hk]; exact hq
    · rw [← hk]; exact hq2
    · rw [← hk]; exact hq3
    have R3 := hu (((R.ext e1).ext e2).ext e3) (.ref z)
    refine ⟨H3, b, b', b'', ad, ad', ad'', z, TI, TO, i1, i2, i3, by rw [List.getElem?_set_self hix], zz, G, μ3, F3, st3, σ0, ⟨zipA3 ds es fs, fun st => g st ∧ g' st ∧ g'' st⟩, S3, R3, ?_, ?_⟩
    · rw [← hk]
      intro G' i μ' F' st' H' e' S' hg'
      obtain ⟨ws, hq', hr⟩ := hw G' μ' F' st' H' e' S' hg'.1
      obtain ⟨us, hq2', hr2⟩ := hw2 G' μ' F' st' H' e' S' hg'.2.1
      obtain ⟨ts, hq3', hr3⟩ := hw3 G' μ' F' st' H' e' S' hg'.2.2
      have hl1 := hr.len
      have hl2 := hr2.len
      have hl3 := hr3.len
      refine ⟨fun x hx => ?_, fun hl => ⟨ws, us, ts, hq', hq2', hq3', ?_⟩⟩
      · obtain ⟨d, d', d'', hd, hd', hd'', rfl⟩ := zipA3_get ds es fs i x hx
        obtain ⟨u, h7, h8⟩ := hr.get hd
        obtain ⟨u', h7', h8'⟩ := hr2.get hd'
        obtain ⟨u'', h7'', h8''⟩ := hr3.get hd''
        refine ⟨⟨ws, us, ts, u, u', u'', hq', hq2', hq3', h7, h7', h7''⟩, fun w H2 hy => ?_⟩
        obtain ⟨T, x2, y2, z2, rfl, hT, rfl, hxx, hyy, hzz⟩ := hy
        have hxx' := hxx ws hq'
        have hyy' := hyy us hq2'
        have hzz' := hzz ts hq3'
        rw [h7] at hxx'; cases hxx'
        rw [h7'] at hyy'; cases hyy'
        rw [h7''] at hzz'; cases hzz'
        obtain ⟨S3, x3⟩ := S'.new (o := .tup [u, u', u'']) hT
        exact ⟨_, x3, S3, Rep.tup upd_same (.cons (h8.mono x3.2) (.cons (h8'.mono x3.2) (.cons (h8''.mono x3.2) .nil)))⟩
      · rw [zipA3_len] at hl
        omega
    · exact (PostS.st R3 h3).mono fun a st4 μ4 F4 H4 e4 S4 h4 v rv => hN _ μ4 F4 H4 a st4 v (((e1.trans e2).trans e3).trans e4) S4 (R3.ext e4) rv h4
  · exact h3.elim
/-- x = zip(a, b, c); return tuple([.. for .. in x]) -/
theorem ss_zipRet {a b c e : Expr} {fa fb fc : EF} {ix : Nat} {x : Str} {px pz pos1 pos2 pos3 : Pos} {t : TgF} {ct : TF} {fe : EF} {vs : List Nat} (hk : k.K = X.K) (hg : Gl X "zip") (hm : X.mg "zip" = none) (hN : X.N.Nodup) (hi : X.N[ix]? = some x) (hx : X.env.scope.names.lookup x = some .local)
    (ha : PE X a (dE k W fa)) (hb : PE X b (dE k W fb)) (hc : PE X c (dE k W fc)) (he : PE X e (zE X.K X.s_0.heap.objs.size ix k W t ct fe vs))
    (hs : starEach [a, b, c] X.env = (false, eval a X.env) :: starEach [b, c] X.env := by rfl) (hs2 : starEach [b, c] X.env = (false, eval b X.env) :: starEach [c] X.env := by rfl) (hs3 : starEach [c] X.env = (false, eval c X.env) :: starEach [] X.env := by rfl) (hpl : (backTo pos1 (starEach [b, c] X.env)).any (·.1) = false := by rfl)
    (hsw : swapsWith (.Call (.Name "zip" pz) [a, b, c] [] pos1) (some (.Name x px)) pos2.line X.env = pure false := by rfl) :
    PSs X [.Assign [.Name x px] (.Call (.Name "zip" pz) [a, b, c] [] pos1) pos2, .Return (some e) pos3] (dS k W (sUn ix (sRet (fTuple (fFrz (lComp (iZip3 fa fb fc) t ct fe vs)))))) :=
  ⟨fun pins s σ H D I ⟨G, μ, F, st, σd, S, R, h⟩ => by
    have hix : ix < σ.length := by rw [I.len]; exact (List.getElem?_eq_some_iff.mp hi).1
    refine (pss_cons (ps_set hN hi (.inl hx) (pe_zip3v hg hm (pa_cons ha (pa_cons hb (pa_cons hc pa_nil hs3) hs2) hs) hs hpl) hsw (.inr hx)) (pss_cons (ps_ret he) pss_nil)).run pins s σ H D I ?_
    exact zip_head (N := fun _ => D.rt) hk hix S (R.un ix) h fun σ' μ' F' H' a st' v e' S' R' rv h' => h' μ' F' H' v (Ext.refl _ _) S' rv⟩
/-- x = zip(a, b, c); y = tuple([.. for .. in x]); .. -/
theorem ss_zipSet {a b c e : Expr} {ss : List Stmt} {fa fb fc : EF} {ix iy : Nat} {x y : Str} {px py pz pos1 pos2 pos3 : Pos} {t : TgF} {ct : TF} {fe : EF} {vs : List Nat} {sb : SF} (hk : k.K = X.K) (hg : Gl X "zip") (hm : X.mg "zip" = none) (hN : X.N.Nodup) (hi : X.N[ix]? = some x) (hx : X.env.scope.names.lookup x = some .local)
    (hi2 : X.N[iy]? = some y) (hy : X.env.scope.names.lookup y = some .local)
    (ha : PE X a (dE k W fa)) (hb : PE X b (dE k W fb)) (hc : PE X c (dE k W fc)) (he : PE X e (zE X.K X.s_0.heap.objs.size ix k W t ct fe vs)) (hr : PSs X ss (dS k W sb))
    (hs : starEach [a, b, c] X.env = (false, eval a X.env) :: starEach [b, c] X.env := by rfl) (hs2 : starEach [b, c] X.env = (false, eval b X.env) :: starEach [c] X.env := by rfl) (hs3 : starEach [c] X.env = (false, eval c X.env) :: starEach [] X.env := by rfl) (hpl : (backTo pos1 (starEach [b, c] X.env)).any (·.1) = false := by rfl)
    (hsw : swapsWith (.Call (.Name "zip" pz) [a, b, c] [] pos1) (some (.Name x px)) pos2.line X.env = pure false := by rfl) (hsw2 : swapsWith e (some (.Name y py)) pos3.line X.env = pure false := by rfl) :
    PSs X (.Assign [.Name x px] (.Call (.Name "zip" pz) [a, b, c] [] pos1) pos2 :: .Assign [.Name y py] e pos3 :: ss) (dS k W (sUn ix (sSeq (sSet iy (fTuple (fFrz (lComp (iZip3 fa fb fc) t ct fe vs)))) sb))) :=
  ⟨fun pins s σ H D I ⟨G, μ, F, st, σd, S, R, h⟩ => by
    have hix : ix < σ.length := by rw [I.len]; exact (List.getElem?_eq_some_iff.mp hi).1
    refine (pss_cons (ps_set hN hi (.inl hx) (pe_zip3v hg hm (pa_cons ha (pa_cons hb (pa_cons hc pa_nil hs3) hs2) hs) hs hpl) hsw (.inr hx)) (pss_cons (ps_set hN hi2 (.inl hy) he hsw2 (.inr hy)) hr)).run pins s σ H D I ?_
    have e1 : sUn ix (sSeq (sSet iy (fTuple (fFrz (lComp (iZip3 fa fb fc) t ct fe vs)))) sb) σd st = (fTuple (fFrz (lComp (iZip3 fa fb fc) t ct fe vs)) (σd.set ix none) st).st (σd.set ix none) (fun v st1 => sb ((σd.set ix none).set iy (some v)) st1) := by
      unfold sUn sSeq sSet
      cases fTuple (fFrz (lComp (iZip3 fa fb fc) t ct fe vs)) (σd.set ix none) st <;> rfl
    rw [e1] at h
    exact zip_head (N := fun σ' v H' => dS k W sb D (σ'.set iy (some v)) H') hk hix S (R.un ix) h fun σ' μ' F' H' a st' v e' S' R' rv h' => ⟨G, μ', F', st', _, S', R'.set iy rv, h'⟩⟩
end
end Dn

set_option linter.all false
set_option Elab.async false
set_option maxRecDepth 100000
/-! Pop: o.pop(i). -/
namespace Dn
open PySem PySem.Spec PyProof.Rows L2
theorem all_erase {n : Nat} : ∀ (xs : List A) (j : Nat), xs.all (A.below n) = true → (xs.eraseIdx j).all (A.below n) = true := by
  intro xs j h
  rw [List.all_eq_true] at h ⊢
  exact fun x hx => h x (List.mem_of_mem_eraseIdx hx)
theorem AReps.erase {K : KM} {μ : List Addr} {F : Hp} : ∀ {xs : List A} {vs : List V} (j : Nat), AReps K μ F xs vs → AReps K μ F (xs.eraseIdx j) (vs.eraseIdx j)
  | _, _, _, .nil => .nil
  | _, _, 0, .cons _ r => r
  | _, _, j + 1, .cons h r => .cons h (AReps.erase j r)
section
variable {X : Cx} {W : WX} {k : Kx} {e : Expr} {fo f : EF}
theorem e_pop (h : PE X e (tBM X.K "list" rPopAt (dE k W fo) (tCons (dE k W f) tNil))) : PE X e (dE k W (fPop fo f)) :=
  pe_weak h fun σ H Q ⟨G, μ, F, st, σd, S, R, h⟩ => by
    refine ⟨G, μ, F, st, σd, S, R, (Post.bind h).mono fun y st1 μ1 F1 H1 e1 S1 h1 v rv => ?_⟩
    cases y with
    | v d => exact h1.elim
    | ref n =>
      obtain ⟨ad, hy, rfl⟩ := rv
      dsimp only at h1
      split at h1
      case isFalse => exact h1.elim
      rename_i hil
      refine ⟨?_, G, μ1, F1, st1, σd, S1, R.ext e1, (Post.bind h1).mono fun z st2 μ2 F2 H2 e2 S2 h2 w rw' => ?_⟩
      · have hn : n < st1.length := by rw [← S1.len]; exact (List.getElem?_eq_some_iff.mp hy).1
        have hc := S1.cell n _ st1[n] hy (List.getElem?_eq_getElem hn)
        rw [List.getElem?_eq_getElem hn] at hil
        cases q : st1[n] with
        | obj c ks xs => rw [q] at hil; cases hil
        | fro c ks xs => rw [q] at hil; cases hil
        | lst xs =>
          rw [q] at hc
          obtain ⟨_, ⟨vs, h5, _⟩, _⟩ := hc
          exact .inl ⟨rfl, _, SqL.of h5⟩
        | frz ds =>
          rw [q] at hc
          obtain ⟨vs, h5, _⟩ := hc
          exact .inl ⟨rfl, _, SqL.of (S1.sub _ _ h5)⟩
      · split at h2
        · rename_i i xs q
          unfold gd at h2
          split at h2
          · rename_i hg
            obtain ⟨g1, g2, g3⟩ := hg
            have hy2 := e2.at hy
            obtain ⟨_, ⟨vs, h5, h6⟩, h7⟩ := cell_of S2 hy2 q
            split at h2
            · rename_i a qa
              obtain ⟨u, hu, ru⟩ := h6.get qa
              cases rw'
              have hl := h6.len
              have hsz : xs.length ≤ 16777216 := g3
              refine ⟨ad, vs, i, i.toNat, u, rfl, rfl, h5, by omega, by omega, ?_, hu, ?_⟩
              · unfold seqIndex?
                have : ¬ i < 0 := by omega
                rw [if_neg this]
                have h8 : (decide (0 ≤ i) && decide (i < (vs.length : Int))) = true := by simp; omega
                show (if (decide (0 ≤ i) && decide (i < (vs.length : Int))) = true then some i.toNat else none) = _
                rw [if_pos h8]
              · exact h2 μ2 F2 _ (Ext.refl _ _) (S2.write hy2 q (AReps.erase _ h6) (all_erase _ _ h7)) _ ru
            · exact h2.elim
          · exact h2.elim
        · exact h2.elim
end
end Dn

set_option linter.all false
set_option Elab.async false
set_option maxRecDepth 100000
/-! DeepIn: in, of tuples and lists of anything. -/
namespace Dn
open PySem PySem.Spec PyProof.Rows L2
section
variable {X : Cx}
def rInDT (K : PySem.W.Frag) (neg : Bool) : R2 := fun x y H Q => ∃ d ds, Dp K H x d ∧ Dp K H y (.tuple ds) ∧ SeqAt.shaped d = true ∧ SeqAt.shaped (.tuple ds) = true ∧ Q (.bl (if neg = true then !ds.any fun z => PyData.eqv z d else ds.any fun z => PyData.eqv z d)) H
theorem op_inDT (hu : X.A.units + 65 < cLine) : OpR X (compareOp .In) (rInDT X.K false) := by
  intro pins s σ H x y v u Q I rx ry h
  obtain ⟨d, ds, hd, he, sd, se, q⟩ := h
  obtain ⟨as, r1⟩ := Dp.reads I d x v hd rx
  obtain ⟨bs, r2⟩ := Dp.reads I (.tuple ds) y u he ry
  exact SeqAt.in_tuple_reads r2 r1 (SeqAt.canLay_of_shaped se) (SeqAt.canLay_of_shaped sd) (room_in_shaped sd hu) ⟨.bl _, H, I, rfl, q⟩
theorem op_notInDT (hu : X.A.units + 65 < cLine) : OpR X (compareOp .NotIn) (rInDT X.K true) := by
  intro pins s σ H x y v u Q I rx ry h
  obtain ⟨d, ds, hd, he, sd, se, q⟩ := h
  obtain ⟨as, r1⟩ := Dp.reads I d x v hd rx
  obtain ⟨bs, r2⟩ := Dp.reads I (.tuple ds) y u he ry
  exact SeqAt.notIn_tuple_reads r2 r1 (SeqAt.canLay_of_shaped se) (SeqAt.canLay_of_shaped sd) (room_in_shaped sd hu) ⟨.bl _, H, I, rfl, q⟩
abbrev rInG (K : PySem.W.Frag) : R2 := fun x y H Q => (rIn K false x y H Q ∨ rDIn false x y H Q) ∨ (rInD K x y H Q ∨ rInDT K false x y H Q)
abbrev rNotInG (K : PySem.W.Frag) : R2 := fun x y H Q => (rIn K true x y H Q ∨ rDIn true x y H Q) ∨ (rNotInD K x y H Q ∨ rInDT K true x y H Q)
theorem u65_of {k : Nat} {A : Around} (r : Room k A) : A.units + 65 < cLine := by have := r.un; omega
theorem op_inG (hu : X.A.units + 65 < cLine) : OpR X (compareOp .In) (rInG X.K) := OpR.or (op_inU (by omega)) (OpR.or (op_inD (by omega)) (op_inDT (by omega)))
theorem op_notInG (hu : X.A.units + 65 < cLine) : OpR X (compareOp .NotIn) (rNotInG X.K) := OpR.or (op_notInU (by omega)) (OpR.or (op_notInD (by omega)) (op_notInDT (by omega)))
theorem toPyL_map (ds : List D) : toPyL ds = ds.map toPy := by
  induction ds with
  | nil => unfold toPyL; rfl
  | cons d r ih => unfold toPyL; rw [ih]; rfl
theorem any_py (d : D) (ds : List D) : ((toPyL ds).any fun z => PyData.eqv z (toPy d)) = ds.any fun z => eqDD z d := by
  rw [toPyL_map, List.any_map]
  rfl
theorem toPy_tup (ds : List D) : toPy (.tup ds) = .tuple (toPyL ds) := by unfold toPy; rfl
theorem toPy_lst (ds : List D) : toPy (.lst ds) = .list (toPyL ds) := by unfold toPy; rfl
theorem k2_inG {K : KM} : Op2 K (rInG K) oInG := by
  intro G μ F st H x y v w d e z Q S rx ry h1 h2 h3 hQ
  unfold oInG at h3
  split at h3
  · rename_i b q
    cases h3
    exact .inl (Op2.of k_inU G μ F st H x y v w d e z Q S rx ry h1 h2 q hQ)
  · have hy := view_rep S ry h2
    have hx := view_rep S rx h1
    cases e with
    | tup ds =>
      dsimp only at h3
      unfold gd at h3
      split at h3
      · rename_i q
        cases h3
        have c2 := hy.dp (SeqAt.canLay_of_shaped q.2)
        have q2 := q.2
        unfold shp at q2
        rw [toPy_tup] at c2 q2
        refine .inr (.inr ⟨_, _, hx.dp (SeqAt.canLay_of_shaped q.1), c2, q.1, q2, ?_⟩)
        rw [if_neg (by decide), any_py]
        exact hQ F H _ (Ext.refl _ _) S .bl
      · cases h3
    | lst ds =>
      dsimp only at h3
      unfold gd at h3
      split at h3
      · rename_i q
        cases h3
        have c2 := hy.dp (SeqAt.canLay_of_shaped q.2)
        have q2 := q.2
        unfold shp at q2
        rw [toPy_lst] at c2 q2
        refine .inr (.inl ⟨_, _, hx.dp (SeqAt.canLay_of_shaped q.1), c2, q.1, q2, ?_⟩)
        rw [any_py]
        exact hQ F H _ (Ext.refl _ _) S .bl
      · cases h3
    | _ => cases h3
theorem k2_notInG {K : KM} : Op2 K (rNotInG K) oNotInG := by
  intro G μ F st H x y v w d e z Q S rx ry h1 h2 h3 hQ
  unfold oNotInG at h3
  split at h3
  · rename_i b q
    cases h3
    exact .inl (Op2.of k_notInU G μ F st H x y v w d e z Q S rx ry h1 h2 q hQ)
  · have hy := view_rep S ry h2
    have hx := view_rep S rx h1
    cases e with
    | tup ds =>
      dsimp only at h3
      unfold gd at h3
      split at h3
      · rename_i q
        cases h3
        have c2 := hy.dp (SeqAt.canLay_of_shaped q.2)
        have q2 := q.2
        unfold shp at q2
        rw [toPy_tup] at c2 q2
        refine .inr (.inr ⟨_, _, hx.dp (SeqAt.canLay_of_shaped q.1), c2, q.1, q2, ?_⟩)
        rw [if_pos rfl, any_py]
        exact hQ F H _ (Ext.refl _ _) S .bl
      · cases h3
    | lst ds =>
      dsimp only at h3
      unfold gd at h3
      split at h3
      · rename_i q
        cases h3
        have c2 := hy.dp (SeqAt.canLay_of_shaped q.2)
        have q2 := q.2
        unfold shp at q2
        rw [toPy_lst] at c2 q2
        refine .inr (.inl ⟨_, _, hx.dp (SeqAt.canLay_of_shaped q.1), c2, q.1, q2, ?_⟩)
        rw [any_py]
        exact hQ F H _ (Ext.refl _ _) S .bl
      · cases h3
    | _ => cases h3
end
end Dn

set_option linter.all false
set_option Elab.async false
set_option maxRecDepth 100000
/-! Meth: own methods and own operators. -/
namespace Dn
open PySem PySem.Spec PyProof.Rows L2
/-- an instance: where it lies -/
theorem cls_rep {K : KM} {G F H : Hp} {μ : List Addr} {st : Store} (S : Sim K G μ F st H) {y : A} {v : V} {c : Nat} (r : ARep K μ F y v) (h : y.clsOf st = some c) :
    ∃ p C dx fs ks, v = .ref p ∧ H p = some (.ins C dx fs) ∧ OwnC K c C ks ∧ fs.map (·.1) = ks.map nm := by
  cases y with
  | v d =>
    cases d with
    | obj c' ks ds =>
      cases h
      cases r with
      | obj h1 ho he hr => exact ⟨_, _, _, _, _, rfl, S.sub _ _ h1, ho, he⟩
    | _ => cases h
  | ref n =>
    obtain ⟨ad, hy, rfl⟩ := r
    unfold A.clsOf at h
    dsimp only at h
    split at h
    · rename_i c' ks xs q
      cases h
      obtain ⟨_, ⟨C, dx, fs, h2, ho, he, h3⟩, _⟩ := cell_of S hy q
      exact ⟨_, _, _, _, _, rfl, h2, ho, he⟩
    · rename_i c' ks ds q
      cases h
      obtain ⟨C, dx, fs, h2, ho, he, h3⟩ := cell_of S hy q
      exact ⟨_, _, _, _, _, rfl, S.sub _ _ h2, ho, he⟩
    · cases h
theorem look_none {m : Str} : ∀ {ks : List Nat} {fs : List (Str × V)}, (∀ f ∈ ks, nm f ≠ m) → fs.map (·.1) = ks.map nm → fs.lookup m = none
  | [], [], _, _ => rfl
  | [], _ :: _, _, h => by cases h
  | k :: ks, [], _, h => by cases h
  | k :: ks, (g, v) :: fs, hn, h => by
    have e1 : g = nm k := by injection h
    have e2 : fs.map (·.1) = ks.map nm := by injection h
    have hne : (m == g) = false := by
      rw [beq_eq_false_iff_ne, e1]
      exact fun z => hn k List.mem_cons_self z.symm
    simp only [List.lookup, hne]
    exact look_none (fun f hf => hn f (List.mem_cons_of_mem _ hf)) e2
theorem rel_ni {z : V} (h : RelV z .notImplemented) : False := by
  cases z
  all_goals first | (obtain ⟨t, e⟩ := h; cases e) | cases h
/-- a method of a class of the top, and how it is called -/
structure Me1 (K : PySem.W.Frag) (C : Addr) (x qual : Str) (st : Stmt) (ps : List Str) where
  f : Addr
  fd : FuncData
  fn : Fun K x qual st f fd
  bd : Binds K fd ps []
  me : Meth K C x f
section
variable {X : Cx} {W : WX} {k : Kx} {CX : CXT} {lv : Nat} {f C : Addr} {fd : FuncData} {ps : List Str} {sp : Sp} {x m : Str} {p pos apos : Pos} {e o a b : Expr} {es : List Expr} {ta : TE} {t : TA} {fa fb fo : EF} {fs : List EF}
/-- o.m(e, ..), what is raised wished for at the caller's slots -/
def tMetS (C : Addr) (m : Str) (sp : Sp) (E : St → XK) (ta : TE) (t : TA) : TE := fun σ H Q => ta σ H fun x H1 => ∃ a dx fs, x = .ref a ∧ H1 a = some (.ins C dx fs) ∧ fs.lookup m = none ∧ t σ H1 fun vs H2 => sp (.ref a :: vs) H2 Q (E σ)
theorem pe_metS {E : St → XK} {pl : Sem Bool} (he : PE X o ta) (c : Cls X.K C) (hm : Meth X.K C m f) (F : FnOk X.prog X.w X.K X.mg X.base CX lv f fd ps sp) (hr : Room lv X.A) (hb : Binds X.K fd ps []) (hx : ∀ σ, PassesAt CX X σ (E σ)) (ha : PA X (e :: es) t)
    (hst : starEach (e :: es) X.env = (false, eval e X.env) :: starEach es X.env := by rfl) (hpl : (backTo pos (starEach es X.env)).any (·.1) = false := by rfl)
    (ht : eval (.Call (.Attribute o m apos) (e :: es) [] pos) X.env = (do
      let ov ← eval o X.env
      standAt apos.atName
      let (f, first) ← holding [ov] (getMethod ov m pl)
      callWith pos f first (backTo pos (starEach (e :: es) X.env)) (backToKw pos (keywordEach [] X.env))) := by rfl) :
    PE X (.Call (.Attribute o m apos) (e :: es) [] pos) (tMetS C m sp E ta t) := by
  refine ⟨fun pins s σ H Q I h => ?_⟩
  refine PySem.W.methodCall_KW (pl := pl) (thn (he.run pins s σ H _ I h) fun u s1 ⟨x, H1, I1, rx, a, dx, fs, ex, ea, l, q⟩ => ?_) ht
  subst ex
  obtain rfl : u = Value.ref a := rx
  refine getmeth_ok I1 ea c hm l ?_
  refine PySem.W.callWith_K (first := [.ref a]) (h₀ := X.base) I.ok.mod.kin hm.kp (thn (ha.run pos pins s1 σ H1 _ I1 q) fun us s2 ⟨vs, H2, I2, r, q2⟩ => ⟨I2.kIn, ?_⟩) hst hpl
  exact run_fnS (us := .ref a :: us) (vs := .ref a :: vs) F hr hb (hx σ) I2 (.cons rfl r) q2
theorem pe_metS0 {E : St → XK} {pl : Sem Bool} (he : PE X o ta) (c : Cls X.K C) (hm : Meth X.K C m f) (F : FnOk X.prog X.w X.K X.mg X.base CX lv f fd ps sp) (hr : Room lv X.A) (hb : Binds X.K fd ps []) (hx : ∀ σ, PassesAt CX X σ (E σ))
    (ht : eval (.Call (.Attribute o m apos) [] [] pos) X.env = (do
      let ov ← eval o X.env
      standAt apos.atName
      let (f, first) ← holding [ov] (getMethod ov m pl)
      callWith pos f first (backTo pos (starEach [] X.env)) (backToKw pos (keywordEach [] X.env))) := by rfl) :
    PE X (.Call (.Attribute o m apos) [] [] pos) (tMetS C m sp E ta tNil) := by
  refine ⟨fun pins s σ H Q I h => ?_⟩
  refine PySem.W.methodCall_KW (pl := pl) (thn (he.run pins s σ H _ I h) fun u s1 ⟨x, H1, I1, rx, a, dx, fs, ex, ea, l, q⟩ => ?_) ht
  subst ex
  obtain rfl : u = Value.ref a := rx
  refine getmeth_ok I1 ea c hm l ?_
  exact PySem.W.callWith_K0 (first := [.ref a]) I1.kIn hm.kp (run_fnS (us := [.ref a]) (vs := [.ref a]) F hr hb (hx σ) I1 (.cons rfl .nil) q)
/-- o.m(..) -/
theorem met_run {c n : Nat} {g : List A → Store → RE A} (hC : k.mg (nm c) = some (.ref C)) (hf : ∀ f ∈ fl c, nm f ≠ m) (hn : fs.length + 1 = n) (σ : St) (H : Hp) (Q : VK) (h : dE k W (fMet c g fo fs) σ H Q) :
    tMetS C m (spV k n g) (WE W) (dE k W fo) (dA k W (fArgs fs)) σ H Q := by
  obtain ⟨G, μ, F, st, σd, S, R, h⟩ := h
  refine ⟨G, μ, F, st, σd, S, R, (Post.bind h).mono fun y st1 μ1 F1 H1 e1 S1 h1 v rv => ?_⟩
  by_cases hc : y.clsOf st1 = some c
  · rw [if_pos hc] at h1
    obtain ⟨q, C', dx, gs, ks, rfl, hq, ho, hk⟩ := cls_rep S1 rv hc
    have hCC : C' = C := by
      have := ho.2.1
      rw [show k.K.mg = k.mg from rfl, hC] at this
      cases this
      rfl
    subst hCC
    refine ⟨q, dx, gs, rfl, hq, look_none (fun f hfk => hf f (ho.2.2 f hfk)) hk, G, μ1, F1, st1, σd, S1, R.ext e1, (Post.bindE h1).mono fun xs st2 μ2 F2 H2 e2 S2 ⟨hxs, h2⟩ vs rvs => ?_⟩
    exact ⟨by rw [List.length_cons, ← rvs.len, fArgs_len _ _ _ _ _ hxs, hn], G, μ2, F2, st2, y :: xs, S2, .cons (rv.ext e2) rvs, h2⟩
  · rw [if_neg hc] at h1
    exact h1.elim
theorem e_met {c n : Nat} {g : List A → Store → RE A} {pl : Sem Bool} (he : PE X o (dE k W fo)) (cl : Cls X.K C) (hC : k.mg (nm c) = some (.ref C)) (hf : ∀ f ∈ fl c, nm f ≠ m) (hm : Meth X.K C m f) (F : FnOk X.prog X.w X.K X.mg X.base (L2.CX X.prog X.w) lv f fd ps (spV k n g)) (hr : Room lv X.A) (hb : Binds X.K fd ps []) (tk : Takes X W) (ha : PA X (e :: es) (dA k W (fArgs fs))) (hn : fs.length + 1 = n := by rfl)
    (hst : starEach (e :: es) X.env = (false, eval e X.env) :: starEach es X.env := by rfl) (hpl : (backTo pos (starEach es X.env)).any (·.1) = false := by rfl)
    (ht : eval (.Call (.Attribute o m apos) (e :: es) [] pos) X.env = (do
      let ov ← eval o X.env
      standAt apos.atName
      let (f, first) ← holding [ov] (getMethod ov m pl)
      callWith pos f first (backTo pos (starEach (e :: es) X.env)) (backToKw pos (keywordEach [] X.env))) := by rfl) :
    PE X (.Call (.Attribute o m apos) (e :: es) [] pos) (dE k W (fMet c g fo fs)) :=
  pe_weak (pe_metS (pl := pl) he cl hm F hr hb (fun σ => passAt tk σ) ha hst hpl ht) (met_run hC hf hn)
theorem e_met0 {c : Nat} {g : List A → Store → RE A} {pl : Sem Bool} (he : PE X o (dE k W fo)) (cl : Cls X.K C) (hC : k.mg (nm c) = some (.ref C)) (hf : ∀ f ∈ fl c, nm f ≠ m) (hm : Meth X.K C m f) (F : FnOk X.prog X.w X.K X.mg X.base (L2.CX X.prog X.w) lv f fd ps (spV k 1 g)) (hr : Room lv X.A) (hb : Binds X.K fd ps []) (tk : Takes X W)
    (ht : eval (.Call (.Attribute o m apos) [] [] pos) X.env = (do
      let ov ← eval o X.env
      standAt apos.atName
      let (f, first) ← holding [ov] (getMethod ov m pl)
      callWith pos f first (backTo pos (starEach [] X.env)) (backToKw pos (keywordEach [] X.env))) := by rfl) :
    PE X (.Call (.Attribute o m apos) [] [] pos) (dE k W (fMet c g fo [])) :=
  pe_weak (pe_metS0 (pl := pl) he cl hm F hr hb (fun σ => passAt tk σ) ht) fun σ H Q h => by
    obtain ⟨G, μ, F, st, σd, S, R, h⟩ := met_run (W := W) (fs := []) hC hf rfl σ H Q h
    refine ⟨G, μ, F, st, σd, S, R, h.mono fun y st1 μ1 F1 H1 e1 S1 h1 v rv => ?_⟩
    obtain ⟨a, dx, fs, h2, h3, h4, h5⟩ := h1 v rv
    refine ⟨a, dx, fs, h2, h3, h4, ?_⟩
    obtain ⟨G, μ, F, st, σd, S, R, h⟩ := h5
    exact h μ F H1 (Ext.refl _ _) S [] .nil
/-- an own method called from within a built-in function -/
theorem run_own {A' : Around} (hr : Room lv A') (hfr : A'.frames = X.A.frames) (F : FnOk X.prog X.w X.K X.mg X.base (L2.CX X.prog X.w) lv f fd ps sp) (hb : Binds X.K fd ps []) {pins : List (Addr × Obj)} {s : Shared} {σ : St} {H : Hp} {Q : VK} {us : List Value} {vs : List V} {E : Value → Shared → Prop}
    (I : Inv X pins σ H s) (r : Vals vs us) (h : sp vs H Q (fun _ _ _ => False)) : wpAny (model X.prog X.w) A' (call (.ref f) us) (EP X pins σ Q) E s := by
  have hl : us.length = ps.length := by rw [← r.length]; exact F.len _ _ _ _ h
  have b := hb s us I.kIn (by rw [List.append_nil]; exact hl)
  rw [List.append_nil] at b
  have e0 : Env0 X.prog X.w X.K X.mg X.base A' X.stack s H := by
    have e := I.env0
    exact ⟨by rw [hfr]; exact e.frames, e.mod, e.bs, e.bsz, e.funs, e.frf, e.hok, e.bare⟩
  refine wpAny_call (codeAny_mono (F.run A' X.stack s H ⟨us, []⟩ us vs Q _ hr e0 b r h) fun r s' hq => ?_)
  cases r with
  | error e =>
    obtain ⟨_, _, _, _, _, _, _, _, _, _, _, _, z⟩ := hq
    exact z.elim
  | ok fl =>
    cases fl with
    | ret u => exact I.after hq
    | next => exact False.elim hq
    | brk => exact False.elim hq
    | cont => exact False.elim hq
/-- two instances of C: what the method promises -/
def rOwn2 (C : Addr) (sp : Sp) : R2 := fun x y H Q => ∃ a b dx dy fs gs, x = .ref a ∧ y = .ref b ∧ H a = some (.ins C dx fs) ∧ H b = some (.ins C dy gs) ∧ sp [x, y] H Q (fun _ _ _ => False)
theorem op_own {op : Operator} (F : FnOk X.prog X.w X.K X.mg X.base (L2.CX X.prog X.w) lv f fd ps sp) (hr : Room lv X.A) (hb : Binds X.K fd ps []) (hs : PySem.W.selfFirst X.K C = true) (hm : Meth X.K C m f) (hd : PySem.dunder op.info.2 = m) : OpR X (binaryOp op) (rOwn2 C sp) := by
  subst hd
  intro pins s σ H x y v u Q I rx ry hq
  obtain ⟨a, b, dx, dy, fs, gs, rfl, rfl, ha, hb', hsp⟩ := hq
  cases rx
  cases ry
  obtain ⟨mA, J, _⟩ := ins_get I.hok ha
  obtain ⟨mB, J', _⟩ := ins_get I.hok hb'
  obtain ⟨od, J, _⟩ := J.look
  obtain ⟨od', J', _⟩ := J'.look
  obtain ⟨m, hF⟩ := I.fr
  refine PySem.W.binop_K hF I.ok.mod.kin J J'.type hs hm.at_ hm.fn ?_
  refine wpAny_mono (run_own hr rfl F hb I (show Vals [V.ref a, V.ref b] [Value.ref a, Value.ref b] from .cons rfl (.cons rfl .nil)) hsp) (fun v s' ⟨z, H', I', r, q⟩ => ?_) (fun _ _ e => e)
  cases v
  all_goals first | exact (rel_ni r).elim | exact ⟨z, H', I', r, q⟩
/-- two instances of C compared -/
theorem cmp_own {op : CmpOp} (F : FnOk X.prog X.w X.K X.mg X.base (L2.CX X.prog X.w) lv f fd ps sp) (hr : Room lv X.A) (hb : Binds X.K fd ps []) (hm : Meth X.K C m f) (hd : (cmpInfo op).2.1 = m) (hop : ∀ v u, compareOp op v u = richCompare op v u) : OpR X (compareOp op) (rOwn2 C sp) := by
  subst hd
  intro pins s σ H x y v u Q I rx ry hq
  obtain ⟨a, b, dx, dy, fs, gs, rfl, rfl, ha, hb', hsp⟩ := hq
  cases rx
  cases ry
  obtain ⟨mA, J, _⟩ := ins_get I.hok ha
  obtain ⟨mB, J', _⟩ := ins_get I.hok hb'
  obtain ⟨od, J, _⟩ := J.look
  obtain ⟨od', J', _⟩ := J'.look
  obtain ⟨m, hF⟩ := I.fr
  rw [hop]
  refine PySem.W.cmp_K (op := op) (tb := .ref C) hr.units0 hF I.ok.mod.kin J J'.type (by simp [PySem.W.notFirst]) hm.at_ hm.fn ?_
  refine wpAny_mono (run_own hr rfl F hb I (show Vals [V.ref a, V.ref b] [Value.ref a, Value.ref b] from .cons rfl (.cons rfl .nil)) hsp) (fun v s' ⟨z, H', I', r, q⟩ => ?_) (fun _ _ e => e)
  cases v
  all_goals first | exact (rel_ni r).elim | exact ⟨z, H', I', r, q⟩
theorem own_inst {G F H : Hp} {μ : List Addr} {st : Store} {c : Nat} {y : A} {v : V} (hC : k.mg (nm c) = some (.ref C)) (S : Sim k.K G μ F st H) (r : ARep k.K μ F y v) (h : y.clsOf st = some c) : ∃ p dx fs, v = .ref p ∧ H p = some (.ins C dx fs) := by
  obtain ⟨q, C', dx, gs, ks, rfl, hq, ho, hk⟩ := cls_rep S r h
  have hCC : C' = C := by
    have := ho.2.1
    rw [show k.K.mg = k.mg from rfl, hC] at this
    cases this
    rfl
  subst hCC
  exact ⟨_, _, _, rfl, hq⟩
theorem own_sp {n : Nat} {g : List A → Store → RE A} {G F H : Hp} {μ : List Addr} {st : Store} {xs : List A} {vs : List V} {Q : VK} {E : XK} (S : Sim k.K G μ F st H) (r : AReps k.K μ F xs vs) (hn : xs.length = n)
    (h : Post k G μ F E (fun a _ μ' F' H' => ∀ v, ARep k.K μ' F' a v → Q v H') (noErr (g xs st))) : spV k n g vs H Q (fun _ _ _ => False) := by
  refine ⟨by rw [← r.len, hn], G, μ, F, st, xs, S, r, ?_⟩
  cases q : g xs st with
  | ok a st' => rw [q] at h; exact h
  | err x st' => rw [q] at h; exact h.elim
  | bad => rw [q] at h; exact h.elim
theorem opM_run {r : R2} {o : D → D → Option D} {c : Nat} {g : List A → Store → RE A} (ok : Op2 k.K r o) (hC : k.mg (nm c) = some (.ref C)) (G : Hp) (μ : List Addr) (F : Hp) (st : Store) (H : Hp) (x y : A) (v w : V) (Q : VK) (E : XK) (S : Sim k.K G μ F st H) (rx : ARep k.K μ F x v) (ry : ARep k.K μ F y w)
    (h : Post k G μ F E (fun a _ μ' F' H' => ∀ v, ARep k.K μ' F' a v → Q v H') (opM c g o x y st)) : r v w H Q ∨ rOwn2 C (spV k 2 g) v w H Q := by
  by_cases hc : x.clsOf st = some c ∧ y.clsOf st = some c
  · unfold opM at h
    rw [if_pos hc] at h
    obtain ⟨p, dx, fs, hv, hp⟩ := own_inst hC S rx hc.1
    obtain ⟨p', dx', fs', hv', hp'⟩ := own_inst hC S ry hc.2
    exact .inr ⟨p, p', dx, dx', fs, fs', hv, hv', hp, hp', own_sp S (.cons rx (.cons ry .nil)) rfl h⟩
  · unfold opM at h
    rw [if_neg hc] at h
    exact .inl (op2_run ok G μ F st H x y v w Q E S rx ry h)
theorem e_opM {op : Operator} {r : R2} {o : D → D → Option D} {c : Nat} {g : List A → Store → RE A} (ho : OpR X (binaryOp op) r) (ok : Op2 k.K r o) (F : FnOk X.prog X.w X.K X.mg X.base (L2.CX X.prog X.w) lv f fd ps (spV k 2 g)) (hr : Room lv X.A) (hb : Binds X.K fd ps []) (hs : PySem.W.selfFirst X.K C = true) (hC : k.mg (nm c) = some (.ref C)) (hm : Meth X.K C m f)
    (ha : PE X a (dE k W fa)) (hb' : PE X b (dE k W fb)) (hd : PySem.dunder op.info.2 = m := by rfl) : PE X (.BinOp a op b pos) (dE k W (fOpM c g o fa fb)) :=
  pe_weak (pe_op (OpR.or ho (op_own F hr hb hs hm hd)) ha hb') (bin_run (g := opM c g o) (opM_run ok hC))
theorem e_cmpM {op : CmpOp} {r : R2} {o : D → D → Option D} {c : Nat} {g : List A → Store → RE A} (ho : OpR X (compareOp op) r) (ok : Op2 k.K r o) (F : FnOk X.prog X.w X.K X.mg X.base (L2.CX X.prog X.w) lv f fd ps (spV k 2 g)) (hr : Room lv X.A) (hb : Binds X.K fd ps []) (hC : k.mg (nm c) = some (.ref C)) (hm : Meth X.K C m f)
    (ha : PE X a (dE k W fa)) (hb' : PE X b (dE k W fb)) (hmk : behindInMarks op b = false) (hd : (cmpInfo op).2.1 = m := by rfl) (hop : ∀ v u, compareOp op v u = richCompare op v u := by exact fun _ _ => rfl) : PE X (.Compare a [op] [b] pos) (dE k W (fOpM c g o fa fb)) :=
  pe_weak (pe_cmpR (OpR.or ho (cmp_own F hr hb hm hd hop)) ha hb' hmk) (bin_run (g := opM c g o) (opM_run ok hC))
theorem t_cmpM {op : CmpOp} {r : R2} {o : D → D → Option D} {c : Nat} {g : List A → Store → RE A} (ho : OpR X (compareOp op) r) (ok : Op2 k.K r o) (F : FnOk X.prog X.w X.K X.mg X.base (L2.CX X.prog X.w) lv f fd ps (spV k 2 g)) (hr : Room lv X.A) (hb : Binds X.K fd ps []) (hC : k.mg (nm c) = some (.ref C)) (hm : Meth X.K C m f)
    (ha : PE X a (dE k W fa)) (hb' : PE X b (dE k W fb)) (hmk : behindInMarks op b = false) (hd : (cmpInfo op).2.1 = m := by rfl) (hop : ∀ v u, compareOp op v u = richCompare op v u := by exact fun _ _ => rfl) : PT X (.Compare a [op] [b] pos) (dT k W (tCmp (fOpM c g o fa fb))) :=
  pt_weak (pt_cmpR (OpR.or ho (cmp_own F hr hb hm hd hop)) ha hb' hmk) fun σ H Q h => by
    refine bin_run (g := opM c g o) (opM_run ok hC) σ H (fun x H' => ∃ k, x = .bl k ∧ Q k H') ?_
    obtain ⟨G, μ, F, st, σd, S, R, h⟩ := h
    refine ⟨G, μ, F, st, σd, S, R, (Post.bind h).mono fun x st1 μ1 F1 H1 e1 S1 h1 v rv => ?_⟩
    obtain ⟨bb, hb, h2⟩ := h1.of
    cases x with
    | ref n => cases hb
    | v d => cases d <;> first
      | (cases hb; cases rv; exact ⟨_, rfl, h2 μ1 F1 H1 (Ext.refl _ _) S1⟩)
      | cases hb
/-- - of an instance -/
theorem un_own {op : UnaryOp} (F : FnOk X.prog X.w X.K X.mg X.base (L2.CX X.prog X.w) lv f fd ps sp) (hr : Room lv X.A) (hb : Binds X.K fd ps []) (hm : Meth X.K C "__neg__" f) (hop : op = .USub) : UnR X (unaryOp op) (fun x H Q => ∃ a dx fs, x = .ref a ∧ H a = some (.ins C dx fs) ∧ sp [x] H Q (fun _ _ _ => False)) := by
  subst hop
  intro pins s σ H x u Q I rx hq
  obtain ⟨a, dx, fs, rfl, ha, hsp⟩ := hq
  cases rx
  obtain ⟨mA, J, _⟩ := ins_get I.hok ha
  obtain ⟨od, J, _⟩ := J.look
  obtain ⟨m, hF⟩ := I.fr
  refine PySem.W.ksp_neg hF I.ok.mod.kin J hm.at_ hm.fn ?_
  exact run_own hr rfl F hb I (show Vals [V.ref a] [Value.ref a] from .cons rfl .nil) hsp
theorem e_unM {op : UnaryOp} {r : V → Hp → VK → Prop} {o : D → Option D} {c : Nat} {g : List A → Store → RE A} (ho : UnR X (unaryOp op) r) (ok : ∀ x d z H Q, Rep k.K H d x → o d = some z → ∃ v, (∀ F, Rep k.K F z v) ∧ (Q v H → r x H Q)) (F : FnOk X.prog X.w X.K X.mg X.base (L2.CX X.prog X.w) lv f fd ps (spV k 1 g)) (hr : Room lv X.A) (hb : Binds X.K fd ps []) (hC : k.mg (nm c) = some (.ref C)) (hm : Meth X.K C "__neg__" f)
    (ha : PE X a (dE k W fa)) (hop : op = .USub := by rfl) : PE X (.UnaryOp op a pos) (dE k W (fUnM c g o fa)) :=
  pe_weak (pe_un (r := fun x H Q => r x H Q ∨ ∃ a dx fs, x = .ref a ∧ H a = some (.ins C dx fs) ∧ spV k 1 g [x] H Q (fun _ _ _ => False)) (fun pins s σ H x u Q I rx q => q.elim (ho pins s σ H x u Q I rx) (un_own F hr hb hm hop pins s σ H x u Q I rx)) ha) (un_run fun G μ F st H x v Q E S rx h => by
    by_cases hc : x.clsOf st = some c
    · unfold unM at h
      rw [if_pos hc] at h
      obtain ⟨p, dx, fs, hv, hp⟩ := own_inst hC S rx hc
      exact .inr ⟨p, dx, fs, hv, hp, own_sp S (.cons rx .nil) rfl h⟩
    · unfold unM at h
      rw [if_neg hc] at h
      obtain ⟨y, hy, h⟩ := h.of
      cases q1 : x.view st with
      | none => rw [q1] at hy; cases hy
      | some d =>
        rw [q1] at hy
        have hy' : (o d).map A.v = some y := hy
        cases q3 : o d with
        | none => rw [q3] at hy'; cases hy'
        | some z =>
          rw [q3] at hy'; cases hy'
          obtain ⟨u, hu, hq⟩ := ok v d z H Q (view_rep S rx q1) q3
          exact .inl (hq (h μ F H (Ext.refl _ _) S u (hu F))))
/-- abs of an instance -/
theorem abs_own (F : FnOk X.prog X.w X.K X.mg X.base (L2.CX X.prog X.w) lv f fd ps sp) (hr : Room (lv + 1) X.A) (hb : Binds X.K fd ps []) (hm : Meth X.K C "__abs__" f) : CallR X (.builtin "abs") (fun xs H Q => ∃ a dx fs, xs = [.ref a] ∧ H a = some (.ins C dx fs) ∧ sp [.ref a] H Q (fun _ _ _ => False)) := by
  intro pins s σ H xs us Q I r h
  obtain ⟨a, dx, fs, rfl, ha, hsp⟩ := h
  obtain ⟨u, rfl, ru⟩ := vals1 r
  cases ru
  obtain ⟨mA, J, _⟩ := ins_get I.hok ha
  obtain ⟨od, J, _⟩ := J.look
  refine PySem.Calls.call_function_entry kind_abs plain_abs entry_abs (args_abs _) ?_
  unfold Builtin.«abs»
  refine wpAny_bind (m := oneArg "abs" _) (wpAny_pure ?_)
  refine wpAny_bind (PySem.W.special_fn I.kIn J hm.at_ (beq_iff_eq.mp hm.fn) (wpAny_mono (run_own hr.in1 rfl F hb I (show Vals [V.ref a] [Value.ref a] from .cons rfl .nil) hsp) (fun v s' q => ?_) (fun _ _ e => e)))
  exact wpAny_pure ⟨_, rfl, q⟩
end
end Dn
namespace Dn
open PySem PySem.Spec PyProof.Rows L2
section
variable {X : Cx} {W : WX} {k : Kx} {lv : Nat} {f C : Addr} {fd : FuncData} {ps : List Str} {x : Str} {p pos : Pos} {e : Expr} {es : List Expr} {fa : EF} {fs : List EF} {K : PySem.W.Frag}
theorem e_bM {id : String} {c : Nat} {g : List A → Store → RE A} {r : List V → Hp → VK → Prop} {o : List D → Option D} (hc : CallR X (.builtin id) r) (ok : CallOk k.K r o) (ho : CallR X (.builtin id) (fun xs H Q => ∃ a dx fs, xs = [.ref a] ∧ H a = some (.ins C dx fs) ∧ spV k 1 g [.ref a] H Q (fun _ _ _ => False))) (hC : k.mg (nm c) = some (.ref C))
    (hg : Gl X x) (hm : X.mg x = none) (hv : bootBuiltins x = some (.builtin id)) (ha : PE X e (dE k W fa)) (hn : x ≠ "__name__" := by decide) (hdb : (x == ("__debug__" : Str)) = false := by decide)
    (he : starEach [e] X.env = (false, eval e X.env) :: starEach [] X.env := by rfl) (hpl : (backTo pos (starEach [] X.env)).any (·.1) = false := by rfl) : PE X (.Call (.Name x p) [e] [] pos) (dE k W (fBM c g o fa)) :=
  pe_weak (pe_callB (r := fun xs H Q => r xs H Q ∨ ∃ a dx fs, xs = [.ref a] ∧ H a = some (.ins C dx fs) ∧ spV k 1 g [.ref a] H Q (fun _ _ _ => False)) (fun pins s σ H xs us Q I r q => q.elim (hc pins s σ H xs us Q I r) (ho pins s σ H xs us Q I r)) hg hm hv (pa_cons ha pa_nil he) hn hdb he hpl) fun σ H Q ⟨G, μ, F, st, σd, S, R, h⟩ => by
    refine ⟨G, μ, F, st, σd, S, R, (Post.bind h).mono fun y st1 μ1 F1 H1 e1 S1 h1 v rv => ?_⟩
    by_cases hc : y.clsOf st1 = some c
    · rw [if_pos hc] at h1
      obtain ⟨q, dx, gs, rfl, hq⟩ := own_inst hC S1 rv hc
      exact .inr ⟨q, dx, gs, rfl, hq, own_sp S1 (.cons rv .nil) rfl h1⟩
    · rw [if_neg hc] at h1
      exact .inl (call_run ok G μ1 F1 st1 H1 [y] [v] Q _ S1 (.cons rv .nil) h1)
theorem k_gcd {K : KM} : CallOk K rGcd bGcd := fun vs ds z H Q r h => by
  match ds, r, h with
  | [.int i, .int j], .cons .int (.cons .int .nil), h => cases h; exact ⟨_, fun _ => .int, fun q => ⟨i, j, rfl, q⟩⟩
theorem e_gcd {id : String} {r : List V → Hp → VK → Prop} {o : List D → Option D} (hc : CallR X (.builtin id) r) (ok : CallOk k.K r o) (hg : Gl X x) (hm : X.mg x = some (.builtin id)) (ha : PA X (e :: es) (dA k W (fArgs fs))) (hdb : (x == ("__debug__" : Str)) = false := by decide)
    (he : starEach (e :: es) X.env = (false, eval e X.env) :: starEach es X.env := by rfl) (hpl : (backTo pos (starEach es X.env)).any (·.1) = false := by rfl) : PE X (.Call (.Name x p) (e :: es) [] pos) (dE k W (fB o fs)) :=
  pe_weak (pe_callBfun hc hg hm ha hdb he hpl) (args_run (call_run ok))
/-- a call by places alone, the rest by default -/
theorem kbP_mk {ds : List Value} {mv : List V} (hb : Binds K fd ps ds) (r : Vals mv ds) (n : Nat) (o : List Arg3) (hlen : n + mv.length = ps.length) (hg : ∀ us ms : List Value, us.length = n → ms.length = mv.length → g3 o us ms [] = us ++ ms) : ∃ gU, KBn K fd ps n [] gU (fun vs zs => g3 o vs mv zs) := by
  refine ⟨fun us ws => g3 o us ds ws, fun s us ws X l1 l2 => ?_, fun r1 r2 => g3_vals r1 r r2 o⟩
  have e : ws = [] := List.length_eq_zero_iff.mp l2
  subst e
  rw [hg us ds l1 r.length.symm]
  exact hb s us X (by rw [List.length_append, l1, ← r.length]; exact hlen)
/-- a def with defaults by place, as it stands -/
theorem funD_mk {x qual : Str} {st : Stmt} {oc : Value} {od : Option Addr} {sl : Array (Option Value)} {dT : Addr} {kV doc pm cdv ct : Value} {an : Option Addr} {o : Obj} {dvs : List V} {its : List Value} {n : Nat} (l : K.lookup f = some ⟨oc, od, .func (PySem.W.fnOf x qual (defArgs st) (defBody st) (defScope st) (.ref dT) kV doc pm an cdv ct), sl⟩) (c : PySem.W.codeIn K cdv qual = true) (kp : PySem.W.keepIn K (.ref f) = true)
    (hd : dvs ≠ []) (lT : K.lookup dT = some o) (oT : o.data = .seq its.toArray n) (r : Vals dvs its) : FunD K x qual (defArgs st) (defBody st) (defScope st) dvs [] f (PySem.W.fnOf x qual (defArgs st) (defBody st) (defScope st) (.ref dT) kV doc pm an cdv ct) :=
  ⟨⟨oc, od, .ref dT, kV, doc, pm, an, cdv, ct, sl, rfl, l, c, .inr ⟨hd, dT, o, its, n, rfl, lT, oT, r⟩, .inl rfl⟩, kp⟩
end
end Dn
namespace Dn
open PySem PySem.Spec PyProof.Rows L2
theorem ty_rep2 {K : KM} {H : Hp} {d : D} {v : V} (r : Rep K H d v) (ok : tyOk d = true) : ∃ T, T ∈ ["NoneType", "bool", "int", "str", "list", "tuple"] ∧ TyX K H v (.type T) := by
  have tup : ∀ {a : Addr} {vs : List V}, SqT K H a vs → TyX K H (.ref a) (.type "tuple") := fun h => by
    rcases h with (h | ⟨o, h⟩) | ⟨o, its, n, h, hc, _⟩
    · exact .base (.tup h)
    · exact .fTuple h
    · exact .kTuple h hc
  have lst : ∀ {a : Addr} {vs : List V}, SqL K H a vs → TyX K H (.ref a) (.type "list") := fun h => by
    rcases h with (h | ⟨o, h⟩) | ⟨o, its, n, h, hc, _⟩
    · exact .base (.lst h)
    · exact .base (.frz h)
    · exact .kList h hc
  cases r with
  | non => exact ⟨_, by simp, .base .non⟩
  | bl => exact ⟨_, by simp, .base (.bl _)⟩
  | int => exact ⟨_, by simp, .base (.int _)⟩
  | str => exact ⟨_, by simp, .base (.str _)⟩
  | tup h _ => exact ⟨_, by simp, tup (SqT.of h)⟩
  | lst h _ => exact ⟨_, by simp, .base (.lst h)⟩
  | tup0 h => exact ⟨_, by simp, tup h⟩
  | obj _ _ _ _ => cases ok
  | dic _ _ _ _ => cases ok
  | fn _ => cases ok
  | exc => cases ok
  | ro h _ => exact ⟨_, by simp, lst h⟩
/-- what isinstance of an own class asks of the text -/
structure IsC (K : PySem.W.Frag) (C : Addr) : Prop where
  ha : PySem.W.findIn K (.ref C) "__class__" = some (some (.builtin "object.__class__"))
  hn : PySem.W.specialIn K (.builtin "object.__class__") "__get__" = some (some (.builtin "getset_descriptor.__get__"))
  htk : PySem.W.takesIn K (.builtin "object.__class__") = some true
  hm : PySem.W.mroIn K C (.type "object") = some true
  no : ∀ T ∈ ["NoneType", "bool", "int", "str", "list", "tuple"], PySem.W.kitOne K (.type T) (.ref C) = some false
theorem kitc {K : PySem.W.Frag} {C : Addr} {T : String} (hm : PySem.W.mroIn K C (.type "object") = some true) (ht : PySem.W.typeIn K (.ref C) = some (.type "type")) (h : PySem.W.subIn K (.type T) (.ref C) = some false) : PySem.W.kitOne K (.type T) (.ref C) = some false := by
  have hc : (PySem.W.clsIn K C).isSome = true := by
    unfold PySem.W.mroIn at hm
    cases q : PySem.W.clsIn K C with
    | none => rw [q] at hm; cases hm
    | some cd => rfl
  have q1 : ¬ (Value.type T == Value.ref C) = true := fun q => by
    have : (Value.type T == Value.ref C) = false := rfl
    rw [this] at q
    cases q
  have q2 : ((PySem.W.clsIn K C).isSome && PySem.W.typeIn K (.ref C) == some (.type "type")) = true := by
    rw [hc, ht, Bool.true_and]
    exact beq_self_eq_true _
  unfold PySem.W.kitOne PySem.W.kitCls
  rw [if_neg q1]
  dsimp only
  rw [if_pos q2]
  exact h
theorem isC_mk {K : PySem.W.Frag} {C : Addr} (ha : PySem.W.findIn K (.ref C) "__class__" = some (some (.builtin "object.__class__"))) (hn : PySem.W.specialIn K (.builtin "object.__class__") "__get__" = some (some (.builtin "getset_descriptor.__get__"))) (htk : PySem.W.takesIn K (.builtin "object.__class__") = some true) (hm : PySem.W.mroIn K C (.type "object") = some true)
    (ht : PySem.W.typeIn K (.ref C) = some (.type "type"))
    (h1 : PySem.W.subIn K (.type "NoneType") (.ref C) = some false) (h2 : PySem.W.subIn K (.type "bool") (.ref C) = some false) (h3 : PySem.W.subIn K (.type "int") (.ref C) = some false) (h4 : PySem.W.subIn K (.type "str") (.ref C) = some false) (h5 : PySem.W.subIn K (.type "list") (.ref C) = some false) (h6 : PySem.W.subIn K (.type "tuple") (.ref C) = some false) : IsC K C :=
  ⟨ha, hn, htk, hm, fun T hT => by
    simp only [List.mem_cons, List.not_mem_nil, or_false] at hT
    rcases hT with rfl | rfl | rfl | rfl | rfl | rfl
    · exact kitc hm ht h1
    · exact kitc hm ht h2
    · exact kitc hm ht h3
    · exact kitc hm ht h4
    · exact kitc hm ht h5
    · exact kitc hm ht h6⟩
theorem kit_self {K : PySem.W.Frag} {C : Addr} : PySem.W.kitOne K (.ref C) (.ref C) = some true := by
  unfold PySem.W.kitOne
  rw [if_pos (beq_self_eq_true _)]
section
variable {X : Cx} {W : WX} {k : Kx} {C : Addr} {y : Str} {p p2 pos : Pos} {e : Expr} {f : EF}
theorem e_isC {c : Nat} (hg : Gl X ("isinstance" : Str)) (hm : X.mg ("isinstance" : Str) = none) (hgt : Gl X y) (hmt : X.mg y = some (.ref C)) (hC : k.mg (nm c) = some (.ref C)) (T : OwnT k.K) (hcs : c ∈ k.K.cs) (hfl : fl c ≠ []) (is : IsC X.K C) (hk : k.K = X.K) (ha : PE X e (dE k W f))
    (hs : starEach [e, .Name y p2] X.env = (false, eval e X.env) :: starEach [.Name y p2] X.env := by rfl) (hs2 : starEach [.Name y p2] X.env = (false, eval (.Name y p2) X.env) :: starEach [] X.env := by rfl) (hpl : (backTo pos (starEach [.Name y p2] X.env)).any (·.1) = false := by rfl)
    (hd : (y == ("__debug__" : Str)) = false := by decide) : PE X (.Call (.Name ("isinstance" : Str) p) [e, .Name y p2] [] pos) (dE k W (fIsC c f)) :=
  pe_weak (pe_callB call_isi hg hm (by decide +kernel) (pa_cons ha (pa_cons (pe_glob hgt hmt (v := .ref C) rfl hd) pa_nil hs2) hs) (by decide) (by decide) hs hpl) fun σ H Q ⟨G, μ, F, st, σd, S, R, h⟩ => by
    refine ⟨G, μ, F, st, σd, S, R, (Post.bind h).mono fun x st1 μ1 F1 H1 e1 S1 h1 v rv => ?_⟩
    obtain ⟨z, q1, h2⟩ := h1.of
    unfold isCv at q1
    by_cases hc : x.clsOf st1 = some c
    · rw [if_pos hc] at q1
      cases q1
      obtain ⟨q, dx, gs, rfl, hq⟩ := own_inst hC S1 rv hc
      obtain ⟨f0, hf0⟩ := List.exists_mem_of_ne_nil _ hfl
      have cl := (T.own c f0 C hcs hf0 hC).1
      rw [hk] at cl
      exact ⟨_, _, _, _, _, rfl, .own C, .base (.ins hq cl is.ha is.hn is.htk is.hm), kit_self, h2 μ1 F1 H1 (Ext.refl _ _) S1 _ Rep.bl⟩
    · rw [if_neg hc] at q1
      cases q : x.view st1 with
      | none => rw [q] at q1; cases q1
      | some d =>
        rw [q] at q1
        have q1' : (if tyOk d = true then some (A.v (.bl false)) else none) = some z := q1
        split at q1'
        case isFalse => cases q1'
        rename_i hok
        cases q1'
        obtain ⟨Tn, hT, ht⟩ := ty_rep2 (view_rep S1 rv q) hok
        rw [hk] at ht
        exact ⟨_, _, _, _, _, rfl, .own C, ht, is.no Tn hT, h2 μ1 F1 H1 (Ext.refl _ _) S1 _ Rep.bl⟩
end
end Dn
namespace Dn
open PySem PySem.Spec PyProof.Rows L2
/-- an __init__ without defaults -/
structure Fi1 (K : PySem.W.Frag) (x qual : Str) (st : Stmt) (ps : List Str) where
  f : Addr
  fd : FuncData
  fn : Fun K x qual st f fd
  bd : Binds K fd ps []
end Dn

set_option linter.all false
set_option Elab.async false
/-! DenY: comprehensions of two fors. -/
namespace Dn
open PySem
open Classical in
noncomputable def compL2 (t : TgF) (c : TF) (it1 : IF) (t1 : TgF) (c1 : TF) (e : EF) (vs vs1 : List Nat) (g : Store → Prop) (σ : Env) : List A → List A → Store → RE (List A)
  | [], acc, st => if g st then .ok acc st else .bad
  | x :: xs, acc, st => if g st then (match t x (wipeE σ vs) st with
    | some (σ1, st1) => (match c σ1 st1 with
      | .ok true st2 => (match it1 σ1 st2 with
        | .ok s st3 => (match compL t1 c1 e vs1 s.g σ1 s.xs acc st3 with
          | .ok acc2 st4 => compL2 t c it1 t1 c1 e vs vs1 g σ xs acc2 st4
          | _ => .bad)
        | _ => .bad)
      | .ok false st2 => compL2 t c it1 t1 c1 e vs vs1 g σ xs acc st2
      | _ => .bad)
    | none => .bad) else .bad
/-- [e for t in it if c for t1 in it1 if c1] -/
noncomputable def lComp2 (it : IF) (t : TgF) (c : TF) (it1 : IF) (t1 : TgF) (c1 : TF) (e : EF) (vs vs1 : List Nat) : LF := fun σ st => (it σ st).bind fun s st1 => compL2 t c it1 t1 c1 e vs vs1 s.g σ s.xs [] st1
end Dn

set_option linter.all false
set_option Elab.async false
set_option maxRecDepth 100000
/-! Comp2: comprehensions of two fors. -/
namespace Dn
open PySem PySem.Spec PyProof.Rows L2
section
variable {X : Cx} {W : WX} {k : Kx} {pos : Pos}
theorem comp2_run {it it1 : IF} {t t1 : TgF} {ct ct1 : TF} {fe : EF} {vs vs1 is is1 : List Nat} (his : ∀ j ∈ is, j ∈ vs) (his1 : ∀ j ∈ is1, j ∈ vs1) {σ : St} {H : Hp} {Q : VK} (h : dL k W (lComp2 it t ct it1 t1 ct1 fe vs vs1) σ H Q) :
    tLc2 (dI k W it) (dG k is t) (dT k noW ct) (dI k noW it1) (dG k is1 t1) (dT k noW ct1) (dE k noW fe) vs vs1 σ H Q := by
  obtain ⟨G, μ, F, st, σd, S, R, h⟩ := h
  refine ⟨G, μ, F, st, σd, S, R, (Post.bind h).mono fun s st1 μ1 F1 H1 e1 S1 h1 J yi D hD => ?_⟩
  have hG : G D = none := S1.freeG hD
  refine ⟨fun i m H => m = s.xs.length - i ∧ i ≤ s.xs.length ∧ ∃ μ' F' st' acc av, Ext μ1 F1 μ' F' ∧ Sim k.K (upd G D (.lst av)) μ' F' st' H ∧ AReps k.K μ' F' acc av ∧
      Post k G μ' F' (fun c d H' => W c d σ H') (fun xs _ μ' F' H' => ∀ p vs, H' p = some (.lst vs) → F' p = none → p ∉ μ' → G p = none → AReps k.K μ' F' xs vs → Q (.ref p) H') (compL2 t ct it1 t1 ct1 fe vs vs1 s.g σd (s.xs.drop i) acc st'),
    ⟨s.xs.length, by simp, Nat.zero_le _, μ1, F1, st1, [], [], Ext.refl _ _, (S1.heap hD).aside upd_same (S1.freeF hD) hG (S1.notin hD), .nil, h1⟩, ?_⟩
  rintro i m H ⟨rfl, hi, μ', F', st', acc, av, ex, S', ra, hP⟩
  obtain ⟨Sb, hHD, hFD, hμD⟩ := S'.back hG
  by_cases hlt : i < s.xs.length
  · rw [List.drop_eq_getElem_cons hlt] at hP
    unfold compL2 at hP
    split at hP
    · rename_i hgd
      obtain ⟨go, yl⟩ := (yi _ i μ' F' st' H ex S' hgd).1 _ (List.getElem?_eq_getElem hlt)
      refine .inr ⟨go, fun H2 => ∃ μ2 F2 st2 acc2 av2, Ext μ1 F1 μ2 F2 ∧ Sim k.K (upd G D (.lst av2)) μ2 F2 st2 H2 ∧ AReps k.K μ2 F2 acc2 av2 ∧
        Post k G μ2 F2 (fun c d H' => W c d σ H') (fun xs _ μ' F' H' => ∀ p vs, H' p = some (.lst vs) → F' p = none → p ∉ μ' → G p = none → AReps k.K μ' F' xs vs → Q (.ref p) H') (compL2 t ct it1 t1 ct1 fe vs vs1 s.g σd (s.xs.drop (i + 1)) acc2 st2),
        fun H2 q => ⟨s.xs.length - (i + 1), by omega, rfl, hlt, q⟩, fun v H' hy => ?_⟩
      obtain ⟨F2, x2, S2, r2⟩ := yl v H' hy
      refine ⟨_, μ', F2, st', wipeE σd vs, _, S2, ((R.ext (e1.trans ex)).ext x2).wipe vs, r2, ?_⟩
      cases q : t s.xs[i] (wipeE σd vs) st' with
      | none => rw [q] at hP; exact hP.elim
      | some pr =>
        rw [q] at hP
        intro μ3 F3 H3 x3 S3 σ3 R3 ag
        refine ⟨wipe_agree (ag.weak his), ?_⟩
        refine ⟨_, μ3, F3, pr.2, pr.1, S3, R3, ?_⟩
        dsimp only at hP
        cases q2 : ct pr.1 pr.2 with
        | bad => rw [q2] at hP; exact hP.elim
        | err _ _ => rw [q2] at hP; exact hP.elim
        | ok cc st4 =>
          rw [q2] at hP
          intro μ4 F4 H4 x4 S4
          cases cc with
          | false => exact ⟨μ4, F4, st4, acc, av, ((ex.trans x2).trans x3).trans x4, S4, AReps.ext ((x2.trans x3).trans x4) ra, Post.ext ((x2.trans x3).trans x4) hP⟩
          | true =>
            refine ⟨_, μ4, F4, st4, pr.1, S4, R3.ext x4, ?_⟩
            dsimp only at hP
            cases q3 : it1 pr.1 st4 with
            | bad => rw [q3] at hP; exact hP.elim
            | err _ _ => rw [q3] at hP; exact hP.elim
            | ok s5 st5 =>
              rw [q3] at hP
              dsimp only at hP
              intro μ5 F5 H5 x5 S5 J1 yi1
              have exx := (((x2.trans x3).trans x4).trans x5)
              refine ⟨fun j kk H => kk = s5.xs.length - j ∧ j ≤ s5.xs.length ∧ ∃ μ' F' st' acc av, Ext μ5 F5 μ' F' ∧ Sim k.K (upd G D (.lst av)) μ' F' st' H ∧ AReps k.K μ' F' acc av ∧
                Post k G μ' F' (fun c d H' => W c d σ H') (fun xs _ μ' F' H' => ∀ p vs, H' p = some (.lst vs) → F' p = none → p ∉ μ' → G p = none → AReps k.K μ' F' xs vs → Q (.ref p) H') (match compL t1 ct1 fe vs1 s5.g pr.1 (s5.xs.drop j) acc st' with
                  | .ok acc2 st4 => compL2 t ct it1 t1 ct1 fe vs vs1 s.g σd (s.xs.drop (i + 1)) acc2 st4
                  | _ => .bad),
                ⟨s5.xs.length, by simp, Nat.zero_le _, μ5, F5, st5, acc, av, Ext.refl _ _, S5, AReps.ext exx ra, Post.ext exx hP⟩, ?_⟩
              rintro j kk H ⟨rfl, hj, μ6, F6, st6, acc6, av6, ex6, S6, ra6, hP6⟩
              have ex16 : Ext μ1 F1 μ6 F6 := (ex.trans exx).trans ex6
              by_cases hlt2 : j < s5.xs.length
              · rw [List.drop_eq_getElem_cons hlt2] at hP6
                unfold compL at hP6
                by_cases hgd2 : s5.g st6
                · rw [if_pos hgd2] at hP6
                  obtain ⟨go2, yl2⟩ := (yi1 _ j μ6 F6 st6 H ex6 S6 hgd2).1 _ (List.getElem?_eq_getElem hlt2)
                  refine .inr ⟨go2, fun H2 => ∃ μ2 F2 st2 acc2 av2, Ext μ5 F5 μ2 F2 ∧ Sim k.K (upd G D (.lst av2)) μ2 F2 st2 H2 ∧ AReps k.K μ2 F2 acc2 av2 ∧
                    Post k G μ2 F2 (fun c d H' => W c d σ H') (fun xs _ μ' F' H' => ∀ p vs, H' p = some (.lst vs) → F' p = none → p ∉ μ' → G p = none → AReps k.K μ' F' xs vs → Q (.ref p) H') (match compL t1 ct1 fe vs1 s5.g pr.1 (s5.xs.drop (j + 1)) acc2 st2 with
                      | .ok acc2 st4 => compL2 t ct it1 t1 ct1 fe vs vs1 s.g σd (s.xs.drop (i + 1)) acc2 st4
                      | _ => .bad),
                    fun H2 q => ⟨s5.xs.length - (j + 1), by omega, rfl, hlt2, q⟩, fun v2 H7 hy2 => ?_⟩
                  obtain ⟨F7, x7, S7, r7⟩ := yl2 v2 H7 hy2
                  refine ⟨_, μ6, F7, st6, wipeE pr.1 vs1, _, S7, (((R3.ext x4).ext (x5.trans ex6)).ext x7).wipe vs1, r7, ?_⟩
                  cases q7 : t1 s5.xs[j] (wipeE pr.1 vs1) st6 with
                  | none => rw [q7] at hP6; exact hP6.elim
                  | some pr7 =>
                    rw [q7] at hP6
                    intro μ8 F8 H8 x8 S8 σ8 R8 ag8
                    refine ⟨wipe_agree (ag8.weak his1), ?_⟩
                    refine ⟨_, μ8, F8, pr7.2, pr7.1, S8, R8, ?_⟩
                    dsimp only at hP6
                    cases q8 : ct1 pr7.1 pr7.2 with
                    | bad => rw [q8] at hP6; exact hP6.elim
                    | err _ _ => rw [q8] at hP6; exact hP6.elim
                    | ok cc9 st9 =>
                      rw [q8] at hP6
                      intro μ9 F9 H9 x9 S9
                      have ex79 := (x7.trans x8).trans x9
                      cases cc9 with
                      | false => exact ⟨μ9, F9, st9, acc6, av6, ex6.trans ex79, S9, AReps.ext ex79 ra6, Post.ext ex79 hP6⟩
                      | true =>
                        refine ⟨_, μ9, F9, st9, pr7.1, S9, R8.ext x9, ?_⟩
                        dsimp only at hP6
                        cases q9 : fe pr7.1 st9 with
                        | bad => rw [q9] at hP6; exact hP6.elim
                        | err _ _ => rw [q9] at hP6; exact hP6.elim
                        | ok z st10 =>
                          rw [q9] at hP6
                          dsimp only at hP6
                          intro μ10 F10 H10 x10 S10 w rw'
                          have ex710 := ex79.trans x10
                          unfold gd at hP6
                          by_cases hsz : acc6.length < sizeMax
                          · rw [if_pos hsz] at hP6
                            obtain ⟨S11, h11, hF11, hμ11⟩ := S10.back hG
                            refine ⟨av6, h11, ?_, μ10, F10, st10, acc6 ++ [z], av6 ++ [w], ex6.trans ex710, (S11.other hF11 hG hμ11).aside upd_same hF11 hG hμ11, AReps.snoc (AReps.ext ex710 ra6) rw', Post.ext ex710 hP6⟩
                            rw [← ra6.len, ← sizeMax_eq]
                            exact hsz
                          · rw [if_neg hsz] at hP6
                            exact hP6.elim
                · rw [if_neg hgd2] at hP6
                  exact hP6.elim
              · rw [List.drop_eq_nil_of_le (by omega)] at hP6
                unfold compL at hP6
                by_cases hgd2 : s5.g st6
                · rw [if_pos hgd2] at hP6
                  exact .inl ⟨(yi1 _ j μ6 F6 st6 H ex6 S6 hgd2).2 (by omega), μ6, F6, st6, acc6, av6, ex16, S6, ra6, hP6⟩
                · rw [if_neg hgd2] at hP6
                  exact hP6.elim
    · exact hP.elim
  · rw [List.drop_eq_nil_of_le (by omega)] at hP
    unfold compL2 at hP
    split at hP
    · rename_i hgd
      exact .inl ⟨(yi _ i μ' F' st' H ex S' hgd).2 (by omega), hP μ' F' H (Ext.refl _ _) Sb D av hHD hFD hμD hG ra⟩
    · exact hP.elim
theorem l_comp2 {elt tg iter tg1 iter1 : Expr} {ifs ifs1 : List Expr} {scope : Scope} {own : List (Str × Nat)} {it it1 : IF} {is is1 vs1 : List Nat} {t t1 : TgF} {ct ct1 : TF} {fe : EF} (hc : X.calm = true) (hN : X.N.Nodup) (hi : PI X tg iter (dI k W it)) (ok : BlkOk X.N X.env.scope scope own)
    (hg : ∀ (s : Shared) (H : Hp) (C : Addr) (cl : List (Str × Addr)) (fp : List Addr), PG (X.blk s H scope (compEnvC scope cl C X.env) fp) tg (dG k is t)) (ht : ∀ (s : Shared) (H : Hp) (C : Addr) (cl : List (Str × Addr)) (fp : List Addr), PTs (X.blk s H scope (compEnvC scope cl C X.env) fp) ifs (dT k noW ct))
    (hi1 : ∀ (s : Shared) (H : Hp) (C : Addr) (cl : List (Str × Addr)) (fp : List Addr), PI (X.blk s H scope (compEnvC scope cl C X.env) fp) tg1 iter1 (dI k noW it1))
    (hg1 : ∀ (s : Shared) (H : Hp) (C : Addr) (cl : List (Str × Addr)) (fp : List Addr), PG (X.blk s H scope (compEnvC scope cl C X.env) fp) tg1 (dG k is1 t1)) (ht1 : ∀ (s : Shared) (H : Hp) (C : Addr) (cl : List (Str × Addr)) (fp : List Addr), PTs (X.blk s H scope (compEnvC scope cl C X.env) fp) ifs1 (dT k noW ct1))
    (he : ∀ (s : Shared) (H : Hp) (C : Addr) (cl : List (Str × Addr)) (fp : List Addr), PE (X.blk s H scope (compEnvC scope cl C X.env) fp) elt (dE k noW fe)) (hv : ∀ i ∈ vs1, i ∈ own.map (·.2)) (his : ∀ j ∈ is, j ∈ own.map (·.2) := by decide) (his1 : ∀ j ∈ is1, j ∈ vs1 := by decide)
    (hs : ∀ x, foldedSetIterable iter X.env x = pure x := by intro _; rfl) (hs1 : ∀ env x, foldedSetIterable iter1 env x = pure x := by intro _ _; rfl) :
    PE X (.ListComp elt [⟨tg, iter, ifs, 0⟩, ⟨tg1, iter1, ifs1, 0⟩] scope pos) (dL k W (lComp2 it t ct it1 t1 ct1 fe (own.map (·.2)) vs1)) :=
  pe_weak (pe_lc2 hc hN hi ok hv hg ht hi1 hg1 ht1 he hs hs1) fun σ H Q h => comp2_run his his1 h
/-- y = [..] -/
theorem s_setLc2 {elt tg iter tg1 iter1 : Expr} {ifs ifs1 : List Expr} {scope : Scope} {own : List (Str × Nat)} {it it1 : IF} {is is1 vs1 : List Nat} {t t1 : TgF} {ct ct1 : TF} {fe : EF} {i : Nat} {y : Str} {py spos : Pos} (live : Bool) (hc : X.calm = true) (hN : X.N.Nodup) (hy : X.N[i]? = some y) (hyl : X.env.scope.names.lookup y = some .local)
    (hsw : swapsWith (.ListComp elt [⟨tg, iter, ifs, 0⟩, ⟨tg1, iter1, ifs1, 0⟩] scope pos) (some (.Name y py)) spos.line X.env = pure true) (hi : PI X tg iter (dI k W it)) (ok : BlkOk X.N X.env.scope scope own)
    (hg : ∀ (s : Shared) (H : Hp) (C : Addr) (cl : List (Str × Addr)) (fp : List Addr), PG (X.blk s H scope (compEnvC scope cl C X.env) fp) tg (dG k is t)) (ht : ∀ (s : Shared) (H : Hp) (C : Addr) (cl : List (Str × Addr)) (fp : List Addr), PTs (X.blk s H scope (compEnvC scope cl C X.env) fp) ifs (dT k noW ct))
    (hi1 : ∀ (s : Shared) (H : Hp) (C : Addr) (cl : List (Str × Addr)) (fp : List Addr), PI (X.blk s H scope (compEnvC scope cl C X.env) fp) tg1 iter1 (dI k noW it1))
    (hg1 : ∀ (s : Shared) (H : Hp) (C : Addr) (cl : List (Str × Addr)) (fp : List Addr), PG (X.blk s H scope (compEnvC scope cl C X.env) fp) tg1 (dG k is1 t1)) (ht1 : ∀ (s : Shared) (H : Hp) (C : Addr) (cl : List (Str × Addr)) (fp : List Addr), PTs (X.blk s H scope (compEnvC scope cl C X.env) fp) ifs1 (dT k noW ct1))
    (he : ∀ (s : Shared) (H : Hp) (C : Addr) (cl : List (Str × Addr)) (fp : List Addr), PE (X.blk s H scope (compEnvC scope cl C X.env) fp) elt (dE k noW fe)) (hv : ∀ i ∈ vs1, i ∈ own.map (·.2)) (his : ∀ j ∈ is, j ∈ own.map (·.2) := by decide) (his1 : ∀ j ∈ is1, j ∈ vs1 := by decide)
    (hs : ∀ x, foldedSetIterable iter X.env x = pure x := by intro _; rfl) (hs1 : ∀ env x, foldedSetIterable iter1 env x = pure x := by intro _ _; rfl) :
    PS X (.Assign [.Name y py] (.ListComp elt [⟨tg, iter, ifs, 0⟩, ⟨tg1, iter1, ifs1, 0⟩] scope pos) spos) (dS k W (sSet i (if live = true then fLive (lComp2 it t ct it1 t1 ct1 fe (own.map (·.2)) vs1) else fFrz (lComp2 it t ct it1 t1 ct1 fe (own.map (·.2)) vs1)))) :=
  ps_weak (ps_setLc2 hc hN hy hyl hsw hi ok hv hg ht hi1 hg1 ht1 he hs hs1) fun D σ H h => by
    refine comp2_run his his1 ?_
    obtain ⟨G, μ, F, st, σd, S, R, h⟩ := h
    refine ⟨G, μ, F, st, σd, S, R, ?_⟩
    cases live with
    | true =>
      have h1 := PostS.st R h
      rw [if_pos rfl] at h1
      refine (Post.bind (show Post k G μ F _ _ ((lComp2 it t ct it1 t1 ct1 fe (own.map (·.2)) vs1 σd st).bind fun xs st1 => if xs.all (A.below st1.length) = true then .ok (A.ref st1.length) (st1 ++ [.lst xs]) else .bad) from h1)).mono fun as st1 μ1 F1 H1 e1 S1 h1 p vs hp hF hμ hG rv => ?_
      split at h1
      · rename_i q
        obtain ⟨S2, x2⟩ := S1.push hp hF hG hμ rv q
        exact h1 _ _ _ x2 S2 _ _ _ _ (Ext.refl _ _) S2 (((R.ext e1).ext x2).set i ⟨p, by rw [← S1.len]; simp, rfl⟩)
      · exact h1.elim
    | false =>
      have h1 := PostS.st R h
      rw [if_neg (by decide)] at h1
      refine (Post.bind (show Post k G μ F _ _ ((lComp2 it t ct it1 t1 ct1 fe (own.map (·.2)) vs1 σd st).bind fun xs st1 => match frzL st1 xs with
        | some (ds, st2) => .ok (A.v (.lst ds)) st2
        | none => .bad) from h1)).mono fun as st1 μ1 F1 H1 e1 S1 h1 p vs hp hF hμ hG rv => ?_
      split at h1
      · rename_i ds st2 q
        obtain ⟨F2, S2, x2, r2, n2⟩ := frzL_ok S1 rv q
        obtain ⟨S3, x3⟩ := S2.keep hp (n2 p hμ hF) hG hμ
        have x4 := x2.trans x3
        exact h1 μ1 _ _ x4 S3 _ _ _ _ (Ext.refl _ _) S3 (((R.ext e1).ext x4).set i (Rep.lst upd_same (r2.mono x3.2)))
      · exact h1.elim
end
end Dn

set_option linter.all false
set_option Elab.async false
set_option maxRecDepth 100000
/-! Exs: own errors whose __init__ says super().__init__(text). -/
namespace Dn
open PySem PySem.Spec PyProof.Rows L2

/-- what the written part says of the class C and its __init__, the function at f -/
structure SupK (K : PySem.W.Frag) (P : Program) (C f cda cc : Addr) (fd : FuncData) (sf : Str) : Prop where
  fn : ∃ oc od osl, K.lookup f = some ⟨oc, od, .func fd, osl⟩
  par : ∃ ar : Arg, (fd.params.posonlyargs ++ fd.params.args).head? = some ar ∧ ar.arg = sf
  code : ∃ ccl cdd vs ccs file tf, K.lookup cda = some ⟨ccl, cdd, .fields vs, ccs⟩ ∧ vs[2]? = some (.str file tf) ∧ ((P.main.file : Str) == file) = true
  cell : ∃ cl cld csl, K.lookup cc = some ⟨cl, cld, .cell (some (.ref C)), csl⟩
  cls : ∃ cd, PySem.W.clsIn K C = some cd
  sub : PySem.W.mroIn K C (.ref C) = some true
  ve : PySem.W.subIn K (.ref C) (.type "ValueError") = some true
  sup : PySem.W.ks_superIn K C C "__init__" = some (some (.builtin "ValueError.__init__"))
  ext : PySem.W.nsIn K cStatics "thirdparty.any" = some none
  top : (P.main.scope.names.lookup ("super" : Str)).isSome = false
section
variable {X : Cx} {pins : List (Addr × Obj)} {σ : St} {H : Hp} {s : Shared} {a C f cda cc : Addr} {fd : FuncData} {sf : Str} {E : Value → Shared → Prop}
theorem exo_inst (I : Inv X pins σ H s) (e : H a = some (exo a C none)) : ∃ t1, s.heap.get? a = some ({ cls := .ref C, dict := none, data := .fields #[.ref t1, .none, .none, .none, .bool false, .none] } : Obj) := exo_at I.hok e
/-- the base super() of a call super().m(..) -/
theorem super_obj {body : List Stmt} {attr : Str} {p0 p1 : Pos} {whole : Sem Value} {Q : Value → Shared → Prop} (S : SupK X.K X.prog C f cda cc fd sf) (I : Inv X pins σ H s) (hfu : X.env.func = some f) (hco : X.env.code = .ref cda)
    (hcl : X.env.cells.lookup ("__class__" : Str) = some cc) (hg : Gl X ("super" : Str)) (hm : X.mg ("super" : Str) = none) (hkc : X.env.kindOf ("__class__" : Str) = some .free) (hks : X.env.kindOf sf = some .local)
    (hi : X.N[0]? = some sf) (hs : σ[0]? = some (some (.ref a))) (ha : H a = some (exo a C none)) (hat : (attr == ("__class__" : Str)) = false)
    (h : ∀ h', h'.get? s.heap.objs.size = some (PySem.W.ks_superObj C a C) → (∀ b o, s.heap.get? b = some o → h'.get? b = some o) → Q (.ref s.heap.objs.size) { s with heap := h' }) :
    _root_.PySem.wpAt (model X.prog X.w) X.A (.func body X.env) (attributeBase (.Call (.Name "super" p0) [] [] p1) attr X.env whole) Q E s := by
  obtain ⟨oc, od, osl, lf⟩ := S.fn
  obtain ⟨ar, hp, ear⟩ := S.par
  obtain ⟨ccl, cdd, vs, ccs, file, tf, lc, hvs, hfile⟩ := S.code
  obtain ⟨cl, cld, csl, lcell⟩ := S.cell
  obtain ⟨cd, hcd⟩ := S.cls
  obtain ⟨t1, hx⟩ := exo_at I.hok ha
  have KI := I.kIn
  obtain ⟨oD, hD1, hD2⟩ : ∃ oD, s.heap.get? C = some oD ∧ oD.data = .cls cd := by
    unfold PySem.W.clsIn at hcd
    split at hcd
    · rename_i c d cd' sl ho
      cases hcd
      exact ⟨_, KI _ _ ho, rfl⟩
    · cases hcd
  subst ear
  obtain ⟨hh, g, d, t, os⟩ := s
  refine PySem.ks_wpAt_super_base (env := X.env) hg hkc hat hfu (KI _ _ lf) rfl hp hco (KI _ _ lc) rfl hvs hfile S.top ?_
  obtain ⟨mb, b1, b2⟩ := I.mod.blt
  refine PySem.W.ks_loadName_global I.ok.kind hg (Calls.loadGlobal_builtin (by rw [I.ok.glob]; exact I.mod.glob.keeps I.bk) hm (by rw [I.ok.blt]; exact b1.keeps I.bk) ((b2 _ (by decide)).trans (show bootBuiltins ("super" : Str) = some (.type "super") by decide +kernel)) ⟨rfl, ?_⟩)
  refine wpAny_loadName_free I.ok.kind hkc hcl ⟨_, KI _ _ lcell, rfl⟩ ?_
  obtain ⟨m, hn, hl⟩ := I.loc
  obtain ⟨u, r, l⟩ := hl 0 _ _ hi hs (.inl hks)
  obtain rfl : u = Value.ref a := r
  rcases l with ⟨hk, hmm⟩ | ⟨hk, _⟩
  · refine wpAny_loadName_local I.ok.kind hk hn hmm ?_
    refine PySem.ks_wpAny_isType_cls hD1 hD2 ⟨rfl, ?_⟩
    refine PySem.ks_wpAny_call_super hD1 hD2 hx rfl (fun c e => nomatch e) (PySem.W.looks_mroIn KI S.sub) (fun h' e k => ?_)
    exact h h' e k
  · rcases hk with hk | hk
    · rw [hks] at hk; cases hk
    · rw [hks] at hk; cases hk
/-- super().__init__(text), the first statement -/
theorem super_stmt {body : List Stmt} {p0 p1 ap pos pos' pe : Pos} {text : Str} {j : Nat} {pl : Sem Bool} {Q : Flow → Shared → Prop} (S : SupK X.K X.prog C f cda cc fd sf) (T : OexC X.K C) (I : Inv X pins σ H s) (hfu : X.env.func = some f) (hco : X.env.code = .ref cda)
    (hcl : X.env.cells.lookup ("__class__" : Str) = some cc) (hg : Gl X ("super" : Str)) (hm : X.mg ("super" : Str) = none) (hkc : X.env.kindOf ("__class__" : Str) = some .free) (hks : X.env.kindOf sf = some .local)
    (hi : X.N[0]? = some sf) (hs : σ[0]? = some (some (.ref a))) (ha : H a = some (exo a C none)) (h : ∀ s', Inv X pins σ H s' → Q .next s')
    (he : eval (.Call (.Attribute (.Call (.Name "super" p0) [] [] p1) "__init__" ap) [.Constant (.str text) j pe] [] pos) X.env = (do
      let ov ← attributeBase (.Call (.Name "super" p0) [] [] p1) "__init__" X.env (eval (.Call (.Name "super" p0) [] [] p1) X.env)
      standAt ap.atName
      let (f, first) ← holding [ov] (getMethod ov "__init__" pl)
      callWith pos f first (backTo pos (starEach [.Constant (.str text) j pe] X.env)) []) := by rfl)
    (hin : interactive X.env = false := by rfl) (hsw : swapsWith (.Call (.Attribute (.Call (.Name "super" p0) [] [] p1) "__init__" ap) [.Constant (.str text) j pe] [] pos) none pos'.line X.env = pure false := by rfl)
    (hst : starEach [.Constant (.str text) j pe] X.env = (false, eval (.Constant (.str text) j pe) X.env) :: starEach [] X.env := by rfl) (hpl : (backTo pos (starEach [] X.env)).any (·.1) = false := by rfl) :
    _root_.PySem.wpAt (model X.prog X.w) X.A (.func body X.env) (exec (.Expr (.Call (.Attribute (.Call (.Name "super" p0) [] [] p1) "__init__" ap) [.Constant (.str text) j pe] [] pos) pos') X.env) Q X.xe s := by
  refine PySem.ks_wpAt_Expr_any (PySem.ks_wpAt_MethodCall (super_obj S I hfu hco hcl hg hm hkc hks hi hs ha (by decide) fun h' e k => ?_) he) hin hsw
  obtain ⟨cd, hcd⟩ := S.cls
  obtain ⟨t1, hx⟩ := exo_at I.hok ha
  have KI : X.K.In h' := I.kIn.keeps k
  have IA : PySem.W.InstAt h' a _ C none := ⟨k _ _ hx, rfl, rfl, trivial⟩
  have hI : PySem.W.Looks (model X.prog X.w) h' (isInstance (.ref a) (.type "ValueError")) true := IA.type.andThen (PySem.W.looks_subIn KI S.ve)
  have hsup := S.sup
  unfold PySem.W.ks_superIn at hsup
  rw [hcd] at hsup
  have I1 : Inv X pins σ H { s with heap := h' } := I.kept (t' := s.toks) k
  obtain ⟨hh, g, d, t, os⟩ := s
  refine PySem.W.kxs_getMethod PySem.W.kxs_ValueError e (PySem.W.looks_opaque KI S.ext) (l₀ := cd.mro) ?_ rfl KI hsup hI (PySem.W.ks_ne KI IA hcd) (by decide) ?_
  · exact fun A Q E s k q => wpAny_bind ((PySem.W.looks_clsIn KI hcd) A _ E s k (wpAny_pure q))
  have I2 : Inv X ((h'.objs.size, PySem.W.kxs_mw "ValueError.__init__" a) :: pins) σ H ⟨h'.push (PySem.W.kxs_mw "ValueError.__init__" a), g, d, t + 1, os⟩ :=
    ClX.pin_new I1 (fun _ _ z => Heap.get?_push_of_some _ z) (Nat.le_refl _) (Heap.get?_push_size h' rfl) (fun v z => nomatch z)
  have run := (pa_cons (X := X) (pe_str (x := text) (j := j) (pos := pe)) pa_nil hst).run pos _ _ σ H (fun vs H1 => H1 = H ∧ vs = [V.str text]) I2 ⟨rfl, rfl⟩
  have pl' : (backTo pos (starEach [.Constant (.str text) j pe] X.env)).any (·.1) = false := by
    rw [hst]
    show (false || (backTo pos (starEach [] X.env)).any (·.1)) = false
    rw [hpl]
    rfl
  refine PySem.W.kxs_callWith (i := "ValueError.__init__") (x := a) pl' ?_
  rw [hst] at run ⊢
  refine PySem.Calls.evalArgs_plain (thn run fun us s1 ⟨vs, H1, I3, r1, eH, ev⟩ => ?_)
  subst eH ev
  have hu := (I3.pin _ (List.mem_append_right _ (List.mem_cons_self ..))).1
  refine ⟨hu, ?_⟩
  obtain ⟨nm, q, N, bs, bm, sn, sub, ab, col, dd, k0, k1, k2, k3, k5, hC, hbm⟩ := T.cls
  obtain ⟨t2, hx2⟩ := exo_at I3.hok ha
  have hC' := I3.kIn _ _ hC
  have hz : us.length ≤ sizeLine := by
    rw [← Paired.length r1]
    show 1 ≤ sizeLine
    decide
  have I4 : Inv X pins σ H1 s1 := I3.pins_of fun p hp => I3.pin p (List.mem_append_right _ (List.mem_cons_of_mem _ hp))
  obtain ⟨h1, g1, d1, tk1, os1⟩ := s1
  refine wpAny_call (codeAny_of_tree ?_)
  show wpAny _ X.A.in1 (callAny (.ref h'.objs.size) ⟨us, []⟩) _ _ _
  simp only [callAny]
  refine wpAny_bind (wpAny_load hu ?_)
  simp only [PySem.W.kxs_mw, show (Value.type "method-wrapper" == Value.type "method" || Value.type "method-wrapper" == Value.type "builtin_function_or_method" || Value.type "method-wrapper" == Value.type "method-wrapper") = true by decide, if_true]
  refine PySem.W.KFB.if_so (by decide) ?_
  refine wpAny_bind (PySem.W.check_bound_init F.excBase_ValueError.toExcCallFacts hC' hx2 rfl ?_)
  refine wpAny_bind (wpAny_pure (wpAny_pure ?_))
  refine ⟨plainId_quiet F.excBase_ValueError.init.plain _, codeAny_builtin F.excBase_ValueError.initEntry ?_⟩
  refine PySem.W.exc_init_tree (cls := .ref C) (t0 := t2) (dv := none) (c2 := .none) (c3 := .none) (b4 := .bool false) hx2 hz fun h2 k2 hx3 _ => ?_
  have J := I4.write (t' := tk1) (x := a) (e := a) (o := exo a C none) (by rw [ha]; exact True.intro) (.inl rfl) k2 ⟨_, hx3⟩ (exo_ok hx3)
  have eu : upd H1 a (exo a C none) = H1 := by
    funext b
    by_cases hb : b = a
    · rw [hb, upd_same, ha]
    · rw [upd_ne hb]
  rw [eu] at J
  exact h _ J
end
end Dn
namespace Dn
open PySem PySem.Spec PyProof.Rows L2
/-- the promise of an __init__ that closes over its class, by its body -/
theorem init_ok {CX : CXT} {P : Program} {w : World} {K : PySem.W.Frag} {mg : Str → Option Value} {base : Heap} {N ps : List Str} {F : NdefX.NF} {f cc : Addr} {k : Nat} {sp : Sp} {oc dV kV doc pm ct : Value} {od an : Option Addr} {osl : Array (Option Value)}
    (S : NdefX.NScope N ps ["__class__"] F.scope) (hcl : F.cl = [(("__class__" : Str), cc)]) (lk : K.lookup f = some ⟨oc, od, .func (PySem.W.fnX F.name F.qual F.params F.body F.scope F.cl dV kV doc pm an (.ref F.c) ct), osl⟩)
    (lc : ∃ cl cld v csl, K.lookup cc = some ⟨cl, cld, .cell v, csl⟩) (hcd : PySem.W.codeIn K (.ref F.c) F.qual = true) (len : ∀ vs H Q E, sp vs H Q E → vs.length = ps.length)
    (hbody : ∀ (A : Around) (outer : List PySem.Env) (s : Shared) (H : Hp) (vs : List V) (Q : VK) (E : XK) (s1 : Shared), Room k (A.deeper (NdefX.envF F f s.heap.objs.size)) → sp vs H Q E →
      Inv (NdefX.ncx CX P w K mg base N F f A outer s H E) [] (NdefX.startF N vs [none]) H s1 →
      _root_.PySem.wpAt (model P w) (A.deeper (NdefX.envF F f s.heap.objs.size)) (.func F.body (NdefX.envF F f s.heap.objs.size)) (execs F.body (NdefX.envF F f s.heap.objs.size)) (SP (NdefX.ncx CX P w K mg base N F f A outer s H E) [] { nx := fun _ H' => Q .non H', rt := Q }) (NdefX.ncx CX P w K mg base N F f A outer s H E).xe s1) :
    FnOk P w K mg base CX (k + 1) f (PySem.W.fnX F.name F.qual F.params F.body F.scope F.cl dV kV doc pm an (.ref F.c) ct) ps sp := by
  refine ⟨len, fun A outer s H args us vs Q E hr e0 hb r hsp => ?_⟩
  have hl := len _ _ _ _ hsp
  have KX : K.In s.heap := e0.mod.kin.keeps fun b o e => (e0.bs b o e).1
  have lim : s.heap.NoLimit := e0.mod.nolimit.keeps fun b o e => (e0.bs b o e).1
  refine codeAny_call_function hr.depth (KX _ _ lk) rfl S.co S.gen rfl (PySem.W.codeRec_of KX hcd) (hb _ _ _ _ ?_)
  refine wpAny_newFunctionEnv S.nocell (fun ⟨n, _⟩ hy => S.par n (List.of_mem_zip hy).1) (fun h₁ hns hsb => ⟨lim.fresh _ hsb, ?_⟩) S.kind
  show codeAny _ _ (.func F.body (NdefX.envF F f s.heap.objs.size)) _ _
  refine PySem.ks_codeAny_funcAt ?_
  have kp : ∀ b o, s.heap.get? b = some o → h₁.get? b = some o := fun b o e => hsb.extBut b o (Nat.ne_of_lt (Heap.lt_size e)) (Heap.get?_push_of_some _ e)
  obtain ⟨cl, cld, v, csl, hc⟩ := lc
  have C : NdefX.CellsAt F.cl ["__class__"] [none] s.heap H := by
    rw [hcl]
    refine ⟨rfl, fun y c e => ?_, fun x y c e1 e2 => ?_, fun i y e => ?_⟩
    · have e' : c = cc := by
        by_cases h : y = ("__class__" : Str)
        · subst h
          simp [List.lookup] at e
          exact e.symm
        · have : (y == ("__class__" : Str)) = false := by simpa using h
          simp [List.lookup, this] at e
      subst e'
      exact ⟨(e0.bs _ _ (e0.mod.kin _ _ hc)).2, v, ⟨_, KX _ _ hc, rfl⟩⟩
    · have f1 : x = ("__class__" : Str) := by
        by_cases h : x = ("__class__" : Str)
        · exact h
        · have : (x == ("__class__" : Str)) = false := by simpa using h
          simp [List.lookup, this] at e1
      have f2 : y = ("__class__" : Str) := by
        by_cases h : y = ("__class__" : Str)
        · exact h
        · have : (y == ("__class__" : Str)) = false := by simpa using h
          simp [List.lookup, this] at e2
      rw [f1, f2]
    · cases i with
      | zero =>
        simp at e
        subst e
        exact ⟨cc, by simp [List.lookup], fun v z => by simp at z⟩
      | succ i => simp at e
  have I := NdefX.inv_startN (f := f) (CX := CX) (w := w) (P := P) (E := E) (tk := s.toks + (ps.zip us).length) S hr.hd e0 hl r C hns kp
  refine PySem.ks_wpAt_mono (hbody A outer s H vs Q E _ (hr.deeper _) hsp I) (fun fl s' hs => ?_) fun e s' hs => hs
  have fin : ∀ {σ' : L2.St} {H' : Hp} {v : V} {u : Value}, Inv (NdefX.ncx CX P w K mg base N F f A outer s H E) [] σ' H' s' → L2.RelV v u → Q v H' → CE outer P w H s Q u s' :=
    fun {σ' H' v u} J rv q => ⟨v, H', J.os, J.bare, J.base, J.hok, rv, q⟩
  cases fl with
  | ret u =>
    obtain ⟨v, σ', H', J, rv, q⟩ := hs
    exact fin J rv q
  | next =>
    obtain ⟨σ', H', J, q⟩ := hs
    exact fin (v := V.non) (u := Value.none) J rfl q
  | brk =>
    obtain ⟨_, _, _, q⟩ := hs
    exact False.elim q
  | cont =>
    obtain ⟨_, _, _, q⟩ := hs
    exact False.elim q
end Dn
namespace Dn
open PySem PySem.Spec PyProof.Rows L2
/-- what such an __init__ promises: self gets a dict with its one field -/
def initSp (C : Addr) (fld : Str) : Sp := fun vs H Q _ => ∃ a y, vs = [.ref a, y] ∧ H a = some (exo a C none) ∧ ∀ dx, H dx = none → dx ≠ a → Q .non (upd (upd H dx (exd dx [(fld, y)])) a (exo a C (some dx)))
section
variable {X : Cx} {W : WX} {k : Kx} {e : Expr} {fe : EF} {pos p : Pos} {x fld : Str} {C : Addr}
theorem s_raise1 (hk : k.K = X.K) (hmg : k.mg x = some (.ref C)) (hc : X.calm = true) (tk : Takes X W) (h : PMk X (.Call (.Name x p) [e] [] pos) (tMkO C (initSp C fld) [] (dA k W (fArgs [fe])))) {pos' : Pos} :
    PS X (.Raise (some (.Call (.Name x p) [e] [] pos)) none pos') (dS k W (sRaise1 x fld fe)) :=
  ps_weak (ps_raise hc tk h) fun D σ H ⟨G, μ, F, st, σd, S, R, h⟩ => by
    unfold sRaise1 at h
    have h1 := PostS.st R h
    refine ⟨G, μ, F, st, σd, S, R, ?_⟩
    show Post k G μ F _ _ ((fe σd st).bind fun a st1 => (fArgs [] σd st1).bind fun r st2 => .ok (a :: r) st2)
    cases q : fe σd st with
    | bad => rw [q] at h1; exact h1
    | err xx st1 => rw [q] at h1; exact h1
    | ok a st1 =>
      rw [q] at h1
      intro μ1 F1 H1 e1 S1 vs rv
      have h2 := h1 μ1 F1 H1 e1 S1
      dsimp only at h2
      cases rv with
      | @cons _ y _ _ ra rr =>
        cases rr
        refine ⟨by show 1 ≤ 1000; decide, fun ad had => ⟨ad, y, rfl, upd_same, fun dx hdx hne => ⟨rfl, dx, [(fld, y)], upd_same, ?_, ?_, ?_⟩⟩⟩
        · rw [upd_ne hne, upd_same]
        · rw [upd_ne hne] at hdx; exact hdx
        · have hdx' : H1 dx = none := by rw [upd_ne hne] at hdx; exact hdx
          split at h2
          · rename_i d st2 q2
            obtain ⟨F2, S2, x2, r2, n2⟩ := frz_ok S1 ra q2
            obtain ⟨S3, x3⟩ := S2.new (o := .xd [(fld, y)]) hdx'
            have eH : upd (del (upd (upd (upd H1 ad (exo ad C none)) dx (exd dx [(fld, y)])) ad (exo ad C (some dx))) ad) dx (.xd [(fld, y)]) = upd H1 dx (.xd [(fld, y)]) := by
              funext b
              by_cases hb : b = dx
              · subst hb; rw [upd_same, upd_same]
              · rw [upd_ne hb, upd_ne hb]
                by_cases hb2 : b = ad
                · subst hb2; rw [del_same, had]
                · rw [del_ne hb2, upd_ne hb2, upd_ne hb, upd_ne hb2]
            show W (.ref C) (some dx) σ _
            rw [eH]
            exact h2 μ1 _ _ σ _ _ (x2.trans x3) S3 ((R.ext e1).ext (x2.trans x3)) ⟨⟨C, hmg, rfl⟩, .inr ⟨dx, _, rfl, upd_same, rfl, .cons (r2.mono x3.2) .nil⟩⟩
          · exact h2.elim
end
end Dn

set_option linter.all false
set_option Elab.async false
set_option maxRecDepth 100000
/-! Exs2: try, except as. -/
namespace Dn
open PySem PySem.Spec PyProof.Rows L2
noncomputable def sTryAs (body : SF) (ct : Str → Option Bool) (i : Nat) (suite : Exc → SF) : SF := fun σ st => match body σ st with
  | .err x σ1 st1 => (match ct x.c with
    | some true => (match suite x (σ1.set i none) st1 with
      | .nx σ2 st2 => .nx (σ2.set i none) st2
      | .bk σ2 st2 => .bk (σ2.set i none) st2
      | .ct σ2 st2 => .ct (σ2.set i none) st2
      | .rt a st2 => .rt a st2
      | _ => .bad)
    | some false => .err x σ1 st1
    | none => .bad)
  | r => r
theorem XRep.mono {k : Kx} {F F' : Hp} {x : Exc} {cls : Value} {d : Option Addr} (s : Same F F') (h : XRep k F x cls d) : XRep k F' x cls d := by
  refine ⟨h.1, h.2.imp id fun ⟨dd, fs, h1, h2, h3, h4⟩ => ⟨dd, fs, h1, s _ _ h2, h3, h4.mono s⟩⟩
def kX (k : Kx) (x : Exc) (cls : Value) (d : Option Addr) : Kx := ⟨k.K, fun F => k.j F ∧ XRep k F x cls d, fun F F' s h => ⟨k.jm F F' s h.1, h.2.mono s⟩⟩
theorem ERep.gone {k : Kx} {μ : List Addr} {F : Hp} {σd : Env} {σ : St} (h : ERep k μ F σd σ) (i : Nat) (o : Option V) : ERep k μ F (σd.set i none) (σ.set i o) := by
  refine ⟨by simp [h.len], fun j b q => ?_, h.j⟩
  by_cases hj : i = j
  · subst hj
    by_cases hl : i < σd.length
    · rw [List.getElem?_set_self hl] at q; cases q
    · rw [List.getElem?_eq_none (by simp; omega)] at q; cases q
  · rw [List.getElem?_set_ne hj] at q
    obtain ⟨w, h1, h2⟩ := h.at_ j b q
    exact ⟨w, by rw [List.getElem?_set_ne hj]; exact h1, h2⟩
section
variable {X : Cx} {k : Kx} {x n : Str} {c : Value} {i : Nat} {body suite : List Stmt} {b₀ : Stmt} {np pos pos' : Pos} {Wout : WX} {bd : SF} {ct : Str → Option Bool} {su : Exc → SF}
theorem s_try_as (hk : k.K = X.K) (hs : X.stack = X.env :: X.outer) (hf : X.env.frame = some X.env.locals) (hN : X.N.Nodup) (hi : X.N[i]? = some n) (hln : X.env.kindOf n = some .local) (hc : Names X x c) (tk : Takes X Wout)
    (hct : ∀ y b C, ct y = some b → k.mg y = some (.ref C) → PySem.W.exmOne X.K (.ref C) c = some b)
    (hb : ∀ (W : WX) (pn : List (Addr × Obj)) (xe : Value → Shared → Prop), Takes (X.tr pn xe) W → PassesOwn (model X.prog X.w) X.A X.env xe → PSs (X.tr pn xe) body (dS k W bd))
    (hsu : ∀ (a : Addr) (oe : Obj) (y : Exc) (cls : Value) (d : Option Addr) (pn : List (Addr × Obj)), Zc cls d oe → (∃ vs, oe.data = .fields vs) → PSs (X.suite a ((a, oe) :: pn)) (b₀ :: suite) (dS (kX k y cls d) noW (su y))) :
    PS X (.Try body [.ExceptHandler (some (.Name x np)) (some n) (b₀ :: suite) pos'] [] [] pos) (dS k Wout (sTryAs bd ct i su)) :=
  ps_weak (ps_try_as hs hf hN hi hln hc tk (tb := fun W => dS k W bd) (ts := fun a cls d D σ H => ∃ y, dS (kX k y cls d) noW (su y) D σ H) hb
    (fun a oe cls d pn hz hv => ⟨fun pins s σ H D I ⟨y, h⟩ => (hsu a oe y cls d pn hz hv).run pins s σ H D I h⟩)) fun D σ H ⟨G, μ, F, st, σd, S, R, h⟩ => by
    refine ⟨G, μ, F, st, σd, S, R, ?_⟩
    unfold sTryAs at h
    cases q : bd σd st with
    | nx a b => rw [q] at h; exact h
    | rt a b => rw [q] at h; exact h
    | bk a b => rw [q] at h; exact h
    | ct a b => rw [q] at h; exact h
    | bad => rw [q] at h; exact h
    | err y σ1 st1 =>
      rw [q] at h
      dsimp only at h
      intro μ1 F1 H1 σ' cls d e1 S1 R1 X1
      obtain ⟨⟨C, hm, rfl⟩, _⟩ := id X1
      cases q2 : ct y.c with
      | none => rw [q2] at h; exact h.elim
      | some b =>
        rw [q2] at h
        refine ⟨b, hct _ _ _ q2 hm, fun hb' a ha => ?_, fun hb' => ?_⟩
        · subst hb'
          refine ⟨y, G, μ1, F1, st1, σ1.set i none, S1, ?_, ?_⟩
          · have R2 := R1.gone i (some (.ref a))
            exact ⟨R2.len, R2.at_, R2.j, X1⟩
          · have h2 := PostS.ext e1 h
            dsimp only at h2
            cases q3 : su y (σ1.set i none) st1 with
            | nx σ2 st2 => rw [q3] at h2; exact fun μ3 F3 H3 σ3 e3 S3 R3 => h2 μ3 F3 H3 _ e3 S3 (ERep.gone (k := k) ⟨R3.len, R3.at_, R3.j.1⟩ i none)
            | bk σ2 st2 => rw [q3] at h2; exact fun μ3 F3 H3 σ3 e3 S3 R3 => h2 μ3 F3 H3 _ e3 S3 (ERep.gone (k := k) ⟨R3.len, R3.at_, R3.j.1⟩ i none)
            | ct σ2 st2 => rw [q3] at h2; exact fun μ3 F3 H3 σ3 e3 S3 R3 => h2 μ3 F3 H3 _ e3 S3 (ERep.gone (k := k) ⟨R3.len, R3.at_, R3.j.1⟩ i none)
            | rt v st2 => rw [q3] at h2; exact fun μ3 F3 H3 v3 e3 S3 R3 => h2 μ3 F3 H3 _ e3 S3 R3
            | err _ _ _ => rw [q3] at h2; exact h2.elim
            | bad => rw [q3] at h2; exact h2.elim
        · subst hb'
          exact h μ1 F1 H1 σ' _ d e1 S1 R1 X1
end
end Dn

set_option linter.all false
set_option Elab.async false
set_option maxRecDepth 100000
/-! Exs3: what a suite asks of the exception that it holds. -/
namespace Dn
open PySem PySem.Spec PyProof.Rows L2
/-- H holds what F holds -/
def Sub (F H : Hp) : Prop := ∀ b o, F b = some o → H b = some o
/-- e, an expression of the caught exception alone, hands back the scalar v -/
def PXv (X : Cx) (k : Kx) (i : Nat) (a : Addr) (y : Exc) (cls : Value) (d : Option Addr) (e : Expr) (v : D) : Prop :=
  PE X e fun σ H Q => ∃ F, Sub F H ∧ σ[i]? = some (some (.ref a)) ∧ XRep k F y cls d ∧ ∀ u H', Sub F H' → (∀ F', Sub F F' → Rep k.K F' v u) → Q u H'
theorem lookup_reps {K : KM} {F : Hp} : ∀ (ks : List Str) (ds : List D) (fs : List (Str × V)) (f : Str) (v : D), fs.map (·.1) = ks → Reps K F ds (fs.map (·.2)) → dicGet f ks ds = some v → ∃ u, fs.lookup f = some u ∧ Rep K F v u
  | [], _, _, _, _, _, _, h => by cases h
  | _ :: _, [], _, _, _, _, _, h => by cases h
  | k :: ks, d :: ds, [], f, v, e, _, _ => by cases e
  | k :: ks, d :: ds, (k', u) :: fs, f, v, e, r, h => by
    cases e
    cases r with
    | cons r1 r2 =>
      unfold dicGet at h
      by_cases q : k' = f
      · rw [dec_pos q, if_pos rfl] at h
        cases h
        subst q
        exact ⟨u, by simp [List.lookup], r1⟩
      · rw [dec_neg q, if_neg (by decide)] at h
        obtain ⟨u', h1, h2⟩ := lookup_reps _ ds fs f v rfl r2 h
        refine ⟨u', ?_, h2⟩
        have : (f == k') = false := by simpa using fun z => q z.symm
        rw [List.lookup, this]
        exact h1
section
variable {X : Cx} {k : Kx} {i : Nat} {a : Addr} {y : Exc} {cls : Value} {d : Option Addr} {oe : Obj} {pn : List (Addr × Obj)} {n x : Str} {p pos : Pos} {C : Addr} {v : D}
/-- e.f -/
theorem px_fld (hk : k.K = X.K) (T : XfC X.K C) (hno : PySem.W.findIn X.K (.ref C) n = some none) (hc : k.mg y.c = some (.ref C)) (hz : Zc cls d oe) (hf : ∃ vs, oe.data = .fields vs) (hN : X.N[i]? = some x) (hv : Vis X.env.scope x) (hg : dicGet n y.ks y.ds = some v)
    (hd : (x == ("__debug__" : Str)) = false := by decide) (hcd : (x == ("__classdict__" : Str)) = false := by decide) : PXv (X.suite a ((a, oe) :: pn)) k i a y cls d (.Attribute (.Name x p) n pos) v := by
  refine pe_weak (pe_xf (X := X) (a := a) (oe := oe) (pn := pn) T hno hz hf (pe_var hN hv hd hcd)) fun σ H Q ⟨F, hs, hσ, hx, q⟩ => ?_
  obtain ⟨⟨C', h1, h2⟩, h3⟩ := hx
  rw [hc] at h1
  cases h1
  refine ⟨_, hσ, rfl, h2, ?_⟩
  rcases h3 with ⟨e, _⟩ | ⟨dd, fs, e1, e2, e3, e4⟩
  · rw [e] at hg
    cases hks : y.ks with
    | nil => rw [hks] at hg; cases hg
    | cons a b => rw [hks] at hg; cases hg
  · obtain ⟨u, u1, u2⟩ := lookup_reps _ _ _ _ _ e3 e4 hg
    exact ⟨dd, fs, u, e1, hs _ _ e2, u1, q u H hs fun F' s => u2.mono s⟩
end
end Dn

set_option Elab.async false
set_option linter.all false
set_option maxRecDepth 100000
set_option maxHeartbeats 4000000
/-! Exs4: isinstance of a caught error of an own class, with its dict. -/
namespace Dn
open PySem PySem.Spec PySem.Calls PyProof.Rows PySem.W
section
variable {prog : Program} {w : World} {A : Around} {E : Value → Shared → Prop} {s : Shared} {K : Frag} {x D : Addr} {ox : Obj}
theorem findObj_dataO {od : Option Obj} {C : Addr} {name : Str} {a g : Value} (hc : (clsIn K C).isSome = true) (ha : findIn K (.ref C) name = some (some a)) (hg : specialIn K a "__get__" = some (some g)) (ht : takesIn K a = some true) : findObj K C od name = some (.bind g a) := by
  obtain ⟨cd, hc⟩ := Option.isSome_iff_exists.mp hc
  unfold findObj
  rw [hc, Option.bind_some, ha, Option.bind_some]
  simp [hg, ht]
theorem kin_classO {od : Option Obj} {Q : Option Value → Shared → Prop} (hga : findIn K (.ref D) "__getattribute__" = some (some (.builtin "BaseException.__getattribute__"))) (hgt : findIn K (.ref D) "__getattr__" = some none) (hsub : subIn K (.ref D) (.type "BaseException") = some true)
    (hdct : hasDictIn K D = true) (ha : findIn K (.ref D) "__class__" = some (some (.builtin "object.__class__")))
    (hn : specialIn K (.builtin "object.__class__") "__get__" = some (some (.builtin "getset_descriptor.__get__"))) (htk : takesIn K (.builtin "object.__class__") = some true) (hm : mroIn K D (.type "object") = some true)
    (X : K.In s.heap) (I : PySem.W.InstAt s.heap x ox D od) (h : Q (some (.ref D)) { s with toks := s.toks + 1 }) : wpAny (model prog w) A (getAttr? (.ref x) "__class__") Q E s := by
  have hf : findObj K D od "__class__" = some (.bind (.builtin "getset_descriptor.__get__") (.builtin "object.__class__")) := findObj_dataO (by obtain ⟨cd, hc, _⟩ := any_some hdct; rw [hc]; rfl) ha hn htk
  obtain ⟨hp, g, d, t, os⟩ := s
  have L0 := I.type (M := model prog w)
  have L1 := looks_findIn (M := model prog w) X hga
  have L2 := looks_findIn (M := model prog w) X hgt
  have L3 := looks_find (M := model prog w) X I hf
  have sub : Looks (model prog w) hp (isInstance (.ref x) (.type "BaseException")) true := L0.andThen (looks_subIn X hsub)
  have hx0 : (false && onTheHeap (Value.builtin "BaseException.__getattribute__")) = false := rfl
  have hx2 : (Value.builtin "BaseException.__getattribute__" == Value.builtin "object.__getattribute__") = false := by decide +kernel
  have hx1 : (onTheHeap (Value.ref D) && Value.builtin "BaseException.__getattribute__" == Value.builtin "object.__getattribute__") = false := by rw [hx2]; rfl
  unfold getAttr? getAttrBy? getAttrBy
  refine wpAny_bind (wpAny_mkText (wpAny_bind (wpAny_attempt (wpAny_holding (wpAny_bind (L0.at (wpAny_bind (L1.at ?_))))))))
  show wpAny _ _ (if (onTheHeap (Value.ref D) && Value.builtin "BaseException.__getattribute__" == Value.builtin "object.__getattribute__") = true then _ else _) _ _ _
  rw [hx1, if_neg Bool.false_ne_true]
  unfold getAttrByItsOwn hookBefore
  refine wpAny_bind ?_
  rw [if_pos (show onTheHeap (Value.ref D) = true from rfl)]
  refine L2.at ?_
  refine wpAny_bind (wpAny_attempt (wpAny_holding ?_))
  unfold callGetattribute
  rw [hx0, if_neg Bool.false_ne_true]
  unfold boundAndCalled
  rw [PySem.F.excAttr_ValueError.ga.bind (.ref x)]
  refine wpAny_bind (wpAny_pure ?_)
  show wpAny _ _ (call (.builtin "BaseException.__getattribute__") [.ref x, .str "__class__" t]) _ _ _
  refine wpAny_call (codeAny_call_builtin PySem.F.excAttr_ValueError.ga.plain PySem.F.entry_bexc_ga ?_)
  refine @check_slot (model prog w) _ _ ⟨hp, g, d, t + 1, os⟩ "BaseException.__getattribute__" "BaseException" "__getattribute__" (.ref x) [.str "__class__" t] [] _ (by decide +kernel) (by decide +kernel) sub (PySem.F.args_bexc_ga (.ref x) (.str "__class__" t)) ?_
  unfold Builtin.«object.__getattribute__»
  refine wpAny_bind (wpAny_of_eq (a := ((Value.ref x : Value), [Value.str "__class__" t])) (by first | rfl | (simp only [slotArgs]; rfl)) ?_)
  refine wpAny_bind (wpAny_pure (wpAny_bind (L0.at (wpAny_bind (L3.at ?_)))))
  show wpAny _ _ (holding [Value.builtin "object.__class__"] (call (.builtin "getset_descriptor.__get__") [.builtin "object.__class__", .ref x, .ref D]) >>= ret) _ _ _
  refine wpAny_bind (wpAny_holding (wpAny_call (class_get (s := ⟨hp, g, d, t + 1, os⟩) (ox := ox) (od := od) X I hm ?_)))
  refine wpAny_pure ?_
  show wpAny _ _ (handedOut (.ref D)) _ _ _
  rw [handedOut_of (v := .ref D) rfl]
  first
    | exact wpAny_pure (wpAny_pure h)
    | exact wpAny_pure h
    | exact wpAny_pure (wpAny_bind (wpAny_pure (wpAny_pure h)))
theorem kitx_excO {od : Option Obj} (hga : findIn K (.ref D) "__getattribute__" = some (some (.builtin "BaseException.__getattribute__"))) (hgt : findIn K (.ref D) "__getattr__" = some none) (hsub : subIn K (.ref D) (.type "BaseException") = some true) (hdct : hasDictIn K D = true) (ha : findIn K (.ref D) "__class__" = some (some (.builtin "object.__class__")))
    (hn : specialIn K (.builtin "object.__class__") "__get__" = some (some (.builtin "getset_descriptor.__get__"))) (htk : takesIn K (.builtin "object.__class__") = some true) (hm : mroIn K D (.type "object") = some true) :
    KitX K (.ref x) (.ref D) (fun h => PySem.W.InstAt h x ox D od) where
  ty := fun _ _ _ I => I.type
  it := fun _ _ X _ => by
    obtain ⟨cdD, hcD, _⟩ := any_some hdct
    unfold clsIn at hcD
    split at hcD
    · rename_i c' d' cd' sl' ho
      intro A' Q' E' s' k q
      unfold isType loadHead
      exact wpAny_bind (wpAny_loadPart (k _ _ (X _ _ ho)) (wpAny_pure q))
    · cases hcD
  ne := fun h tp dd its n sl X htp => by
    obtain ⟨cdD, hcD, _⟩ := any_some hdct
    refine Bool.eq_false_iff.mpr fun q => ?_
    have e : D = tp := Value.ref.inj (beq_iff_eq.mp q)
    subst e
    unfold clsIn at hcD
    split at hcD
    · rename_i c' d' cd' sl' ho
      have z := (X _ _ ho).symm.trans htp
      cases z
    · cases hcD
  ca := fun X I k => kin_classO hga hgt hsub hdct ha hn htk hm X I k
end
end Dn

set_option linter.all false
set_option Elab.async false
set_option maxRecDepth 100000
/-! Exs5: isinstance(e, C) in a suite. -/
namespace Dn
open PySem PySem.Spec PyProof.Rows L2
def rIsO (K : PySem.W.Frag) (D a : Addr) (d : Option Addr) : List V → Hp → VK → Prop := fun xs H Q => ∃ (c : V) (cv : Value) (b : Bool), xs = [.ref a, c] ∧ (∀ u, RelV c u → u = cv) ∧ (∀ dd, d = some dd → ∃ fs, H dd = some (.xd fs)) ∧ PySem.W.kitOne K (.ref D) cv = some b ∧ Q (.bl b) H
theorem call_isO {X : Cx} {a D : Addr} {d : Option Addr} {oe : Obj} {pn : List (Addr × Obj)} (C : ExcC X.K D) (hz : Zc (.ref D) d oe) (hf : ∃ vs, oe.data = .fields vs) : CallR (X.suite a ((a, oe) :: pn)) (.builtin "isinstance") (rIsO X.K D a d) := by
  intro pins s σ H xs us Q I r h
  obtain ⟨c, cv, b, rfl, hcv, hd, e, q⟩ := h
  cases r with
  | cons rx rr =>
    cases rr with
    | cons rt rr =>
      cases rr
      cases rx
      have ec := hcv _ rt
      subst ec
      obtain ⟨hget, _⟩ := I.pin (a, oe) (List.mem_append.mpr (.inl List.mem_cons_self))
      obtain ⟨vs, hv⟩ := hf
      have J : ∃ od, PySem.W.InstAt s.heap a oe D od := by
        cases d with
        | none =>
          obtain ⟨oc, od, oda, osl⟩ := oe
          obtain ⟨h1, h2⟩ := hz
          dsimp only at h1 h2 hv
          subst h1 h2 hv
          exact ⟨none, hget, rfl, rfl, trivial⟩
        | some dd =>
          obtain ⟨fs, ea⟩ := hd dd rfl
          have hx : ObjOk X.prog X.w H s.heap dd (.xd fs) := I.hok dd _ ea
          obtain ⟨mA, hns, hr⟩ := hx
          obtain ⟨od, ho, hl⟩ := lookIn_ns hns
          exact ⟨some od, hget, hz.1, by unfold PySem.W.notCls; rw [hv] <;> rfl, by rw [hz.2]; exact ho⟩
      obtain ⟨od, J⟩ := J
      exact PySem.W.kia_one (kitx_excO C.hg C.hk C.hs C.hd C.ha C.hn C.ht C.hm) I.kIn J e (fun z => nomatch z) fun tk => ⟨.bl b, H, I.kept (t' := tk) fun _ _ z => z, rfl, q⟩
section
variable {X : Cx} {k : Kx} {i : Nat} {a : Addr} {y : Exc} {d : Option Addr} {oe : Obj} {pn : List (Addr × Obj)} {n x : Str} {p p2 p3 pos : Pos} {C C2 : Addr} {b : Bool}
/-- isinstance(e, C2) -/
theorem px_is (hk : k.K = X.K) (T : ExcC X.K C) (hc : k.mg y.c = some (.ref C)) (hz : Zc (.ref C) d oe) (hf : ∃ vs, oe.data = .fields vs) (hN : X.N[i]? = some x) (hv : Vis X.env.scope x)
    (hg : Gl (X.suite a ((a, oe) :: pn)) ("isinstance" : Str)) (hm : (X.suite a ((a, oe) :: pn)).mg ("isinstance" : Str) = none) (hgt : Gl (X.suite a ((a, oe) :: pn)) n) (hmt : (X.suite a ((a, oe) :: pn)).mg n = some (.ref C2))
    (hb : PySem.W.kitOne X.K (.ref C) (.ref C2) = some b)
    (hs : starEach [.Name x p, .Name n p2] X.env = (false, eval (.Name x p) X.env) :: starEach [.Name n p2] X.env := by rfl) (hs2 : starEach [.Name n p2] X.env = (false, eval (.Name n p2) X.env) :: starEach [] X.env := by rfl) (hpl : (backTo pos (starEach [.Name n p2] X.env)).any (·.1) = false := by rfl)
    (hd : (x == ("__debug__" : Str)) = false := by decide) (hcd : (x == ("__classdict__" : Str)) = false := by decide) (hdn : (n == ("__debug__" : Str)) = false := by decide) :
    PXv (X.suite a ((a, oe) :: pn)) k i a y (.ref C) d (.Call (.Name ("isinstance" : Str) p3) [.Name x p, .Name n p2] [] pos) (.bl b) := by
  refine pe_weak (pe_callB (call_isO (d := d) T hz hf) hg hm (by decide +kernel) (pa_cons (pe_var hN hv hd hcd) (pa_cons (pe_glob hgt hmt (v := .ref C2) rfl hdn) pa_nil hs2) hs) (by decide) (by decide) hs hpl) fun σ H Q ⟨F, hsb, hσ, hx, q⟩ => ?_
  refine ⟨_, hσ, .ref C2, .ref C2, b, rfl, fun u r => r, fun dd e => ?_, hb, q _ H hsb fun F' s => Rep.bl⟩
  rcases hx.2 with ⟨_, e2⟩ | ⟨dd', fs, e1, e2, _⟩
  · rw [e] at e2; cases e2
  · rw [e] at e1; cases e1; exact ⟨fs, hsb _ _ e2⟩
end
end Dn

set_option linter.all false
set_option Elab.async false
/-! DenX: own errors raised and caught. -/
namespace Dn
open PySem
/-- raise C() -/
noncomputable def sRaise0 (c : Str) : SF := fun σ st => .err ⟨c, [], []⟩ σ st
/-- the slot i holds the error at a -/
noncomputable def holdsX (i : Nat) (a : Addr) (σ : Env) : Bool := match σ[i]? with
  | some (some (.v (.exc b))) => dec (b = a)
  | _ => false
/-- e.f, e the error y that the slot i holds -/
noncomputable def fXf (i : Nat) (a : Addr) (y : Exc) (tb : List Str) (f : Str) : EF := fun σ st => if (holdsX i a σ && tb.contains y.c) = true then RE.of ((dicGet f y.ks y.ds).map .v) st else .bad
/-- isinstance(e, ..) -/
noncomputable def fXis (i : Nat) (a : Addr) (y : Exc) (tb : List (Str × Bool)) : EF := fun σ st => if holdsX i a σ = true then RE.of ((tb.lookup y.c).map fun c => .v (.bl c)) st else .bad
/-- the slot of the error's name is forgotten -/
noncomputable def goneS (i : Nat) : RS → RS
  | .nx σ st => .nx (σ.set i none) st
  | .bk σ st => .bk (σ.set i none) st
  | .ct σ st => .ct (σ.set i none) st
  | .rt a st => .rt a st
  | _ => .bad
noncomputable def sTry1 (body : SF) (ct : List (Str × Bool)) (i : Nat) (suite : Addr → Exc → SF) : SF := fun σ st => match body σ st with
  | .err x σ1 st1 => (match ct.lookup x.c with
    | some true => gd (∀ a : Addr, goneS i (suite a x (σ1.set i (some (.v (.exc a)))) st1) = goneS i (suite 0 x (σ1.set i (some (.v (.exc 0)))) st1)) (goneS i (suite 0 x (σ1.set i (some (.v (.exc 0)))) st1)) .bad
    | some false => .err x σ1 st1
    | none => .bad)
  | r => r
end Dn

set_option linter.all false
set_option Elab.async false
set_option maxRecDepth 100000
/-! Exs7: own errors of the top: raise C(), raise C(e). -/
namespace Dn
open PySem PySem.Spec PyProof.Rows L2
section
variable {X : Cx} {C : Addr} {bmB : List Value} {B newId initId : String}
/-- X() -/
theorem pmk_own0 {x : Str} {p pos : Pos} (F : ExcBaseFacts B newId initId bmB) (q : PySem.W.excIn X.K C bmB newId = true) (gC : X.mg x = some (.ref C)) (kC : PySem.W.keepIn X.K (.ref C) = true) (r : Raises X (.ref C)) (hg : Gl X x)
    (hdb : (x == ("__debug__" : Str)) = false := by decide) : PMk X (.Call (.Name x p) [] [] pos) (fun _ H Q => Q (.ref C) none H) := by
  intro pins s σ H Q I h
  refine wpAny_Call_Name_kw (ld_glob I hg gC ?_ hdb)
  refine PySem.W.callWith_K0 I.kIn kC ?_
  show wpAny _ _ (call (.ref C) []) _ _ _
  obtain ⟨bm, N, nm, qn, bs, hdct, sn, sub, ab, col, dd, k0, k1, k2, k3, k5, mN, hC, hN, hni, T⟩ := exc_obj I.kIn q
  refine wpAny_call_exc_subT F T hC hN hni (fun h' e hm => ?_) (Nat.zero_le _)
  exact mk_of I hm r h (I.hok.gone hm.new)
end
/-- an own error without own __init__ -/
structure Er0 (K : PySem.W.Frag) (mg : Str → Option Value) (cn : Str) where
  C : Addr
  gm : mg cn = some (.ref C)
  ex : ∃ bmB newId, PySem.W.excIn K C bmB newId = true ∧ ∃ B initId, ExcBaseFacts B newId initId bmB
  kC : PySem.W.keepIn K (.ref C) = true
  exC : PySem.W.subIn K (.ref C) (.type "BaseException") = some true
  tyC : PySem.W.typeIn K (.ref C) = some (.type "type")
theorem er0_mk {K : PySem.W.Frag} {C : Addr} {bmB : List Value} {newId B initId : String} (q : PySem.W.excIn K C bmB newId = true) (F : ExcBaseFacts B newId initId bmB) : ∃ bmB newId, PySem.W.excIn K C bmB newId = true ∧ ∃ B initId, ExcBaseFacts B newId initId bmB := ⟨_, _, q, _, _, F⟩
section
variable {X : Cx} {W : WX} {k : Kx} {x : Str} {p pos pos' : Pos}
theorem s_raise0 (hk : k.K = X.K) (hm : k.mg = X.mg) (hc : X.calm = true) (tk : Takes X W) (T : Er0 X.K X.mg x) (hg : Gl X x) (hdb : (x == ("__debug__" : Str)) = false := by decide) :
    PS X (.Raise (some (.Call (.Name x p) [] [] pos)) none pos') (dS k W (sRaise0 x)) := by
  obtain ⟨bmB, newId, q, B, initId, F⟩ := T.ex
  refine ps_weak (ps_raise hc tk (pmk_own0 F q T.gm T.kC (raises_own T.exC T.tyC) hg hdb)) fun D σ H ⟨G, μ, F, st, σd, S, R, h⟩ => ?_
  exact h μ F H σ _ _ (Ext.refl _ _) S R ⟨⟨T.C, by rw [hm]; exact T.gm, rfl⟩, .inl ⟨rfl, rfl⟩⟩
end
section
variable {P : Program} {w : World} {K : PySem.W.Frag} {mg : Str → Option Value} {base : Heap}
/-- the promise of: super().__init__(text); self.f = f -/
theorem oinit_fn {F : NdefX.NF} {f C cc : Addr} {fld text : Str} {oc dV kV doc pm ct : Value} {od an : Option Addr} {osl : Array (Option Value)} {p0 p1 p2 p3 p4 p5 p6 p7 p8 p9 : Pos} {jt : Nat}
    (S : NdefX.NScope ["self", fld, "__class__"] ["self", fld] ["__class__"] F.scope) (hcl : F.cl = [(("__class__" : Str), cc)]) (lk : K.lookup f = some ⟨oc, od, .func (PySem.W.fnX F.name F.qual F.params F.body F.scope F.cl dV kV doc pm an (.ref F.c) ct), osl⟩)
    (hcd : PySem.W.codeIn K (.ref F.c) F.qual = true) (SK : SupK K P C f F.c cc (PySem.W.fnX F.name F.qual F.params F.body F.scope F.cl dV kV doc pm an (.ref F.c) ct) "self") (T : OexC K C) (hno : PySem.W.findIn K (.ref C) fld = some none)
    (hB : F.body = [.Expr (.Call (.Attribute (.Call (.Name "super" p0) [] [] p1) "__init__" p2) [.Constant (.str text) jt p3] [] p4) p5, .Assign [.Attribute (.Name "self" p6) fld p7] (.Name fld p8) p9])
    (hsu : F.scope.names.lookup ("super" : Str) = some .globalImplicit) (hm : mg "super" = none) (hd : (fld == ("__debug__" : Str)) = false) (hcd2 : (fld == ("__classdict__" : Str)) = false)
    (hE : ∀ L : Addr, ∃ pl : Sem Bool, eval (.Call (.Attribute (.Call (.Name "super" p0) [] [] p1) "__init__" p2) [.Constant (.str text) jt p3] [] p4) (NdefX.envF F f L) = (do
      let ov ← attributeBase (.Call (.Name "super" p0) [] [] p1) "__init__" (NdefX.envF F f L) (eval (.Call (.Name "super" p0) [] [] p1) (NdefX.envF F f L))
      standAt p2.atName
      let (g, first) ← holding [ov] (getMethod ov "__init__" pl)
      callWith p4 g first (backTo p4 (starEach [.Constant (.str text) jt p3] (NdefX.envF F f L))) []))
    (hI : ∀ L : Addr, interactive (NdefX.envF F f L) = false)
    (hW1 : ∀ L : Addr, swapsWith (.Call (.Attribute (.Call (.Name "super" p0) [] [] p1) "__init__" p2) [.Constant (.str text) jt p3] [] p4) none p5.line (NdefX.envF F f L) = pure false)
    (hW2 : ∀ L : Addr, swapsWith (.Name fld p8) (some (.Attribute (.Name "self" p6) fld p7)) p9.line (NdefX.envF F f L) = pure false) :
    FnOk P w K mg base (L2.CX P w) 1 f (PySem.W.fnX F.name F.qual F.params F.body F.scope F.cl dV kV doc pm an (.ref F.c) ct) ["self", fld] (initSp C fld) := by
  refine init_ok (k := 0) S hcl lk (by obtain ⟨a, b, c, d⟩ := SK.cell; exact ⟨_, _, _, _, d⟩) hcd (fun vs H Q E h => by obtain ⟨a, y, rfl, _⟩ := h; rfl) fun A outer s H vs Q E s1 hr hsp I => ?_
  obtain ⟨a, y, rfl, ha, hq⟩ := hsp
  rw [hB]
  have hN0 : F.scope.names.lookup ("self" : Str) = some .local := S.par _ (by simp)
  have hN1 : F.scope.names.lookup fld = some .local := S.par _ (by simp)
  have hNc : F.scope.names.lookup ("__class__" : Str) = some .free := S.frk _ (by simp)
  obtain ⟨pl, hpl⟩ := hE s.heap.objs.size
  have q1 := super_stmt (X := NdefX.ncx (L2.CX P w) P w K mg base ["self", fld, "__class__"] F f A outer s H E) (body := F.body) (p0 := p0) (p1 := p1) (ap := p2) (pos := p4) (pos' := p5) (pe := p3) (text := text) (j := jt)
    (Q := fun fl s' => match fl with
      | .next => _root_.PySem.wpAt (model P w) (A.deeper (NdefX.envF F f s.heap.objs.size)) (.func F.body (NdefX.envF F f s.heap.objs.size)) (execs [.Assign [.Attribute (.Name "self" p6) fld p7] (.Name fld p8) p9] (NdefX.envF F f s.heap.objs.size))
          (SP (NdefX.ncx (L2.CX P w) P w K mg base ["self", fld, "__class__"] F f A outer s H E) [] { nx := fun _ H' => Q .non H', rt := Q }) (NdefX.ncx (L2.CX P w) P w K mg base ["self", fld, "__class__"] F f A outer s H E).xe s'
      | fl => SP (NdefX.ncx (L2.CX P w) P w K mg base ["self", fld, "__class__"] F f A outer s H E) [] { nx := fun _ H' => Q .non H', rt := Q } fl s')
    SK T I rfl rfl (by show List.lookup _ F.cl = _; rw [hcl]; rfl) hsu hm hNc hN0 rfl rfl ha (fun s' I' => ?_) hpl (hI _) (hW1 _)
  · rw [hB] at q1
    exact PySem.ks_wpAt_execs_cons q1
  · refine wpAt_of_wpAny ?_
    have hs := pss_one (ps_ost (X := NdefX.ncx (L2.CX P w) P w K mg base ["self", fld, "__class__"] F f A outer s H E) (f := fld) (p' := p7) (pos := p9) (pe_var (i := 0) (x := "self") (pos := p6) rfl (.inl hN0)) (pe_var (i := 1) (x := fld) (pos := p8) rfl (.inl hN1) hd hcd2) (hW2 _))
    exact hs.run [] s' _ H _ I' ⟨y, rfl, .ref a, rfl, a, C, rfl, T, hno, .inl ⟨ha, fun dx h1 h2 => hq dx h1 h2⟩⟩
end
/-- an own error over ValueError whose __init__ lays its one argument into a field -/
structure ErI (K : PySem.W.Frag) (mg : Str → Option Value) (P : Program) (cn fld : Str) where
  C : Addr
  gm : mg cn = some (.ref C)
  oex : OexC K C
  no : PySem.W.findIn K (.ref C) fld = some none
  f : Addr
  fd : FuncData
  ini : PySem.W.findIn K (.ref C) "__init__" = some (some (.ref f))
  ty : PySem.W.typeIn K (.ref f) = some (.type "function")
  ok : ∀ (w : World) (base : Heap), FnOk P w K mg base (L2.CX P w) 1 f fd ["self", fld] (initSp C fld)
  bd : Binds K fd ["self", fld] []
section
variable {X : Cx} {W : WX} {k : Kx} {x fld : Str} {p pos pos' : Pos} {e : Expr} {fe : EF}
theorem passes0 : Passes (L2.CX X.prog X.w) X (fun _ _ _ => False) := fun pins σ H s e s' I h => by
  obtain ⟨_, _, _, _, _, _, _, _, _, _, _, _, z⟩ := h
  exact z.elim
theorem s_raiseI (hk : k.K.K = X.K) (hm : k.mg = X.mg) (hc : X.calm = true) (tk : Takes X W) (T : ErI X.K X.mg X.prog x fld) (hr : Room 2 X.A) (hg : Gl X x) (he : PE X e (dE k W fe)) (hdb : (x == ("__debug__" : Str)) = false := by decide)
    (hs : starEach [e] X.env = (false, eval e X.env) :: starEach [] X.env := by rfl) (hpl : (backTo pos (starEach [] X.env)).any (·.1) = false := by rfl) :
    PS X (.Raise (some (.Call (.Name x p) [e] [] pos)) none pos') (dS k W (sRaise1 x fld fe)) :=
  s_raise1 hk (by rw [hm]; exact T.gm) hc tk (pmk_oex T.oex T.ini T.ty (T.ok X.w X.base) hr T.bd .nil passes0 hg T.gm (a_cons he a_nil hs) hdb hs hpl)
end
end Dn

set_option linter.all false
set_option Elab.async false
set_option maxRecDepth 100000
/-! Exs8: try, except as: the suite reads the error that it holds. -/
namespace Dn
open PySem PySem.Spec PyProof.Rows L2
theorem holds_at {k : Kx} {μ : List Addr} {F : Hp} {σd : Env} {σ : St} {i : Nat} {a : Addr} (R : ERep k μ F σd σ) (h : holdsX i a σd = true) : σ[i]? = some (some (.ref a)) := by
  unfold holdsX at h
  split at h
  · rename_i b q
    rw [dec_iff] at h
    subst h
    obtain ⟨v, h1, h2⟩ := R.at_ _ _ q
    cases h2
    exact h1
  · cases h
section
variable {X : Cx} {k : Kx} {i : Nat} {a : Addr} {y : Exc} {cls : Value} {d : Option Addr} {oe : Obj} {pn : List (Addr × Obj)} {n x : Str} {p p2 p3 pos : Pos} {tb : List Str} {tc : List (Str × Bool)}
theorem e_xf (hk : k.K = X.K) (hT : ∀ c C, tb.contains c = true → k.mg c = some (.ref C) → XfC X.K C ∧ PySem.W.findIn X.K (.ref C) n = some none) (hz : Zc cls d oe) (hf : ∃ vs, oe.data = .fields vs) (hN : X.N[i]? = some x) (hv : Vis X.env.scope x)
    (hd : (x == ("__debug__" : Str)) = false := by decide) (hcd : (x == ("__classdict__" : Str)) = false := by decide) :
    PE (X.suite a ((a, oe) :: pn)) (.Attribute (.Name x p) n pos) (dE (kX k y cls d) noW (fXf i a y tb n)) := by
  refine ⟨fun pins s σ H Q I ⟨G, μ, F, st, σd, S, R, h⟩ => ?_⟩
  unfold fXf at h
  split at h
  case isFalse => exact h.elim
  rename_i hh
  rw [Bool.and_eq_true] at hh
  obtain ⟨⟨C, hC, rfl⟩, hX⟩ := R.j.2
  obtain ⟨T, hno⟩ := hT _ _ hh.2 hC
  refine (pe_xf (X := X) (a := a) (oe := oe) (pn := pn) T hno hz hf (pe_var hN hv hd hcd)).run pins s σ H Q I ⟨_, holds_at R hh.1, rfl, rfl, ?_⟩
  obtain ⟨z, q1, h1⟩ := Post.of h
  cases q2 : dicGet n y.ks y.ds with
  | none => rw [q2] at q1; cases q1
  | some v =>
    rw [q2] at q1; cases q1
    rcases hX with ⟨e, _⟩ | ⟨dd, fs, e1, e2, e3, e4⟩
    · rw [e] at q2
      cases hks : y.ks with
      | nil => rw [hks] at q2; cases q2
      | cons a b => rw [hks] at q2; cases q2
    · obtain ⟨u, u1, u2⟩ := lookup_reps _ _ _ _ _ e3 e4 q2
      exact ⟨dd, fs, u, e1, S.sub _ _ e2, u1, h1 μ F H (Ext.refl _ _) S u u2⟩
/-- isinstance(e, C2), C2 of the top -/
theorem e_xis (hk : k.K = X.K) {C2 : Addr} (hT : ∀ c b C, tc.lookup c = some b → k.mg c = some (.ref C) → ExcC X.K C ∧ PySem.W.kitOne X.K (.ref C) (.ref C2) = some b) (hz : Zc cls d oe) (hf : ∃ vs, oe.data = .fields vs) (hN : X.N[i]? = some x) (hv : Vis X.env.scope x)
    (hg : Gl (X.suite a ((a, oe) :: pn)) ("isinstance" : Str)) (hm : (X.suite a ((a, oe) :: pn)).mg ("isinstance" : Str) = none) (hgt : Gl (X.suite a ((a, oe) :: pn)) n) (hmt : (X.suite a ((a, oe) :: pn)).mg n = some (.ref C2))
    (hs : starEach [.Name x p, .Name n p2] X.env = (false, eval (.Name x p) X.env) :: starEach [.Name n p2] X.env := by rfl) (hs2 : starEach [.Name n p2] X.env = (false, eval (.Name n p2) X.env) :: starEach [] X.env := by rfl) (hpl : (backTo pos (starEach [.Name n p2] X.env)).any (·.1) = false := by rfl)
    (hd : (x == ("__debug__" : Str)) = false := by decide) (hcd : (x == ("__classdict__" : Str)) = false := by decide) (hdn : (n == ("__debug__" : Str)) = false := by decide) :
    PE (X.suite a ((a, oe) :: pn)) (.Call (.Name ("isinstance" : Str) p3) [.Name x p, .Name n p2] [] pos) (dE (kX k y cls d) noW (fXis i a y tc)) := by
  refine ⟨fun pins s σ H Q I ⟨G, μ, F, st, σd, S, R, h⟩ => ?_⟩
  unfold fXis at h
  split at h
  case isFalse => exact h.elim
  rename_i hh
  obtain ⟨⟨C, hC, rfl⟩, hX⟩ := R.j.2
  obtain ⟨z, q1, h1⟩ := Post.of h
  cases q2 : tc.lookup y.c with
  | none => rw [q2] at q1; cases q1
  | some b =>
    rw [q2] at q1; cases q1
    obtain ⟨T, hb⟩ := hT _ _ _ q2 hC
    refine (pe_callB (call_isO (d := d) T hz hf) hg hm (by decide +kernel) (pa_cons (pe_var hN hv hd hcd) (pa_cons (pe_glob hgt hmt (v := .ref C2) rfl hdn) pa_nil hs2) hs) (by decide) (by decide) hs hpl).run pins s σ H Q I ?_
    refine ⟨_, holds_at R hh, .ref C2, .ref C2, b, rfl, fun u r => r, fun dd e => ?_, hb, h1 μ F H (Ext.refl _ _) S _ Rep.bl⟩
    rcases hX with ⟨_, e2⟩ | ⟨dd', fs, e1, e2, _⟩
    · rw [e] at e2; cases e2
    · rw [e] at e1; cases e1; exact ⟨fs, S.sub _ _ e2⟩
/-- isinstance(e, T), T a built-in class -/
theorem e_xisB (hk : k.K = X.K) {T : String} (hT : ∀ c b C, tc.lookup c = some b → k.mg c = some (.ref C) → ExcC X.K C ∧ PySem.W.kitOne X.K (.ref C) (.type T) = some b) (hz : Zc cls d oe) (hf : ∃ vs, oe.data = .fields vs) (hN : X.N[i]? = some x) (hv : Vis X.env.scope x)
    (hg : Gl (X.suite a ((a, oe) :: pn)) ("isinstance" : Str)) (hm : (X.suite a ((a, oe) :: pn)).mg ("isinstance" : Str) = none) (hgt : Gl (X.suite a ((a, oe) :: pn)) n) (hmt : (X.suite a ((a, oe) :: pn)).mg n = none) (hbt : bootBuiltins n = some (.type T))
    (hs : starEach [.Name x p, .Name n p2] X.env = (false, eval (.Name x p) X.env) :: starEach [.Name n p2] X.env := by rfl) (hs2 : starEach [.Name n p2] X.env = (false, eval (.Name n p2) X.env) :: starEach [] X.env := by rfl) (hpl : (backTo pos (starEach [.Name n p2] X.env)).any (·.1) = false := by rfl)
    (hd : (x == ("__debug__" : Str)) = false := by decide) (hcd : (x == ("__classdict__" : Str)) = false := by decide) (hdn : (n == ("__debug__" : Str)) = false := by decide) (hnn : n ≠ "__name__" := by decide) :
    PE (X.suite a ((a, oe) :: pn)) (.Call (.Name ("isinstance" : Str) p3) [.Name x p, .Name n p2] [] pos) (dE (kX k y cls d) noW (fXis i a y tc)) := by
  refine ⟨fun pins s σ H Q I ⟨G, μ, F, st, σd, S, R, h⟩ => ?_⟩
  unfold fXis at h
  split at h
  case isFalse => exact h.elim
  rename_i hh
  obtain ⟨⟨C, hC, rfl⟩, hX⟩ := R.j.2
  obtain ⟨z, q1, h1⟩ := Post.of h
  cases q2 : tc.lookup y.c with
  | none => rw [q2] at q1; cases q1
  | some b =>
    rw [q2] at q1; cases q1
    obtain ⟨T', hb⟩ := hT _ _ _ q2 hC
    refine (pe_callB (call_isO (d := d) T' hz hf) hg hm (by decide +kernel) (pa_cons (pe_var hN hv hd hcd) (pa_cons (pe_bltn hgt hmt hbt (show RelV (.ty T) _ from rfl) hnn hdn) pa_nil hs2) hs) (by decide) (by decide) hs hpl).run pins s σ H Q I ?_
    refine ⟨_, holds_at R hh, .ty T, .type T, b, rfl, fun u r => r, fun dd e => ?_, hb, h1 μ F H (Ext.refl _ _) S _ Rep.bl⟩
    rcases hX with ⟨_, e2⟩ | ⟨dd', fs, e1, e2, _⟩
    · rw [e] at e2; cases e2
    · rw [e] at e1; cases e1; exact ⟨fs, S.sub _ _ e2⟩
end
/-! isinstance(e, (A, B, ..)) -/
def rIsT (K : PySem.W.Frag) (D a : Addr) (d : Option Addr) : List V → Hp → VK → Prop := fun xs H Q => ∃ (tp : Addr) (cs : List Addr) (b : Bool), xs = [.ref a, .ref tp] ∧ H tp = some (.tup (cs.map V.ref)) ∧ (∀ dd, d = some dd → ∃ fs, H dd = some (.xd fs)) ∧ PySem.W.kitAny K (.ref D) (cs.map Value.ref) = some b ∧ Q (.bl b) H
theorem refs_vals : ∀ {cs : List Addr} {us : List Value}, Vals (cs.map V.ref) us → us = cs.map Value.ref
  | [], _, .nil => rfl
  | c :: cs, _, .cons h r => by
    have h' := refs_vals r
    obtain rfl := h
    subst h'
    rfl
theorem call_isT {X : Cx} {a D : Addr} {d : Option Addr} {oe : Obj} {pn : List (Addr × Obj)} (C : ExcC X.K D) (hz : Zc (.ref D) d oe) (hf : ∃ vs, oe.data = .fields vs) : CallR (X.suite a ((a, oe) :: pn)) (.builtin "isinstance") (rIsT X.K D a d) := by
  intro pins s σ H xs us Q I r h
  obtain ⟨tp, cs, b, rfl, htp, hd, e, q⟩ := h
  cases r with
  | cons rx rr =>
    cases rr with
    | cons rt rr =>
      cases rr
      cases rx
      cases rt
      obtain ⟨hget, _⟩ := I.pin (a, oe) (List.mem_append.mpr (.inl List.mem_cons_self))
      obtain ⟨vs, hv⟩ := hf
      have J : ∃ od, PySem.W.InstAt s.heap a oe D od := by
        cases d with
        | none =>
          obtain ⟨oc, od, oda, osl⟩ := oe
          obtain ⟨h1, h2⟩ := hz
          dsimp only at h1 h2 hv
          subst h1 h2 hv
          exact ⟨none, hget, rfl, rfl, trivial⟩
        | some dd =>
          obtain ⟨fs, ea⟩ := hd dd rfl
          have hx : ObjOk X.prog X.w H s.heap dd (.xd fs) := I.hok dd _ ea
          obtain ⟨mA, hns, hr⟩ := hx
          obtain ⟨od, ho, hl⟩ := lookIn_ns hns
          exact ⟨some od, hget, hz.1, by unfold PySem.W.notCls; rw [hv] <;> rfl, by rw [hz.2]; exact ho⟩
      obtain ⟨od, J⟩ := J
      have hx : ObjOk X.prog X.w H s.heap tp (.tup (cs.map V.ref)) := I.hok tp _ htp
      obtain ⟨hzl, us, hr, o, hget2, hcl, n, hdat⟩ := hx
      have eu := refs_vals hr
      subst eu
      obtain ⟨oc, odd, oda, osl⟩ := o
      dsimp only at hcl hdat
      subst hcl hdat
      exact PySem.W.kia_tup (kitx_excO C.hg C.hk C.hs C.hd C.ha C.hn C.ht C.hm) I.kIn J hget2 e (fun z => nomatch z) fun tk => ⟨.bl b, H, I.kept (t' := tk) fun _ _ z => z, rfl, q⟩
/-- a row of classes of the top -/
inductive PCl (X : Cx) : List Expr → List Addr → Prop
  | nil : PCl X [] []
  | cons {x : Str} {pos : Pos} {C : Addr} {es : List Expr} {cs : List Addr} (hg : Gl X x) (hm : X.mg x = some (.ref C)) (r : PCl X es cs) (hd : (x == ("__debug__" : Str)) = false := by decide)
      (hs : starEach (.Name x pos :: es) X.env = (false, eval (.Name x pos) X.env) :: starEach es X.env := by rfl) : PCl X (.Name x pos :: es) (C :: cs)
theorem PCl.pa {X : Cx} : ∀ {es : List Expr} {cs : List Addr}, PCl X es cs → PA X es (fun _ H Q => Q (cs.map V.ref) H)
  | _, _, .nil => pa_nil
  | _, _, .cons hg hm r hd hs => pa_weak (pa_cons (pe_glob hg hm (show RelV (.ref _) _ from rfl) hd) r.pa hs) fun σ H Q h => h
section
variable {X : Cx} {k : Kx} {i : Nat} {a : Addr} {y : Exc} {cls : Value} {d : Option Addr} {oe : Obj} {pn : List (Addr × Obj)} {n x : Str} {p p2 p3 pos : Pos} {tc : List (Str × Bool)} {es : List Expr} {cs : List Addr} {kk : Nat}
theorem e_xisT (hk : k.K = X.K) (hT : ∀ c b C, tc.lookup c = some b → k.mg c = some (.ref C) → ExcC X.K C ∧ PySem.W.kitAny X.K (.ref C) (cs.map Value.ref) = some b) (hz : Zc cls d oe) (hf : ∃ vs, oe.data = .fields vs) (hN : X.N[i]? = some x) (hv : Vis X.env.scope x)
    (hg : Gl (X.suite a ((a, oe) :: pn)) ("isinstance" : Str)) (hm : (X.suite a ((a, oe) :: pn)).mg ("isinstance" : Str) = none) (hcs : PCl (X.suite a ((a, oe) :: pn)) es cs) (hl : cs.length ≤ 100)
    (hs : starEach [.Name x p, .Tuple es kk p2] X.env = (false, eval (.Name x p) X.env) :: starEach [.Tuple es kk p2] X.env := by rfl) (hs2 : starEach [.Tuple es kk p2] X.env = (false, eval (.Tuple es kk p2) X.env) :: starEach [] X.env := by rfl) (hpl : (backTo pos (starEach [.Tuple es kk p2] X.env)).any (·.1) = false := by rfl)
    (hd : (x == ("__debug__" : Str)) = false := by decide) (hcd : (x == ("__classdict__" : Str)) = false := by decide) :
    PE (X.suite a ((a, oe) :: pn)) (.Call (.Name ("isinstance" : Str) p3) [.Name x p, .Tuple es kk p2] [] pos) (dE (kX k y cls d) noW (fXis i a y tc)) := by
  refine ⟨fun pins s σ H Q I ⟨G, μ, F, st, σd, S, R, h⟩ => ?_⟩
  unfold fXis at h
  split at h
  case isFalse => exact h.elim
  rename_i hh
  obtain ⟨⟨C, hC, rfl⟩, hX⟩ := R.j.2
  obtain ⟨z, q1, h1⟩ := Post.of h
  cases q2 : tc.lookup y.c with
  | none => rw [q2] at q1; cases q1
  | some b =>
    rw [q2] at q1; cases q1
    obtain ⟨T', hb⟩ := hT _ _ _ q2 hC
    refine (pe_callB (call_isT (d := d) T' hz hf) hg hm (by decide +kernel) (pa_cons (pe_var hN hv hd hcd) (pa_cons (pe_tup hcs.pa) pa_nil hs2) hs) (by decide) (by decide) hs hpl).run pins s σ H Q I ?_
    refine ⟨_, holds_at R hh, ?_⟩
    refine ⟨by rw [List.length_map, sizeLine_eq]; omega, fun tp htp => ?_⟩
    have S2 := S.heap (o := .tup (cs.map V.ref)) htp
    refine ⟨tp, cs, b, rfl, upd_same, fun dd e => ?_, hb, h1 μ F _ (Ext.refl _ _) S2 _ Rep.bl⟩
    rcases hX with ⟨_, e2⟩ | ⟨dd', fs, e1, e2, _⟩
    · rw [e] at e2; cases e2
    · rw [e] at e1; cases e1; exact ⟨fs, S2.sub _ _ e2⟩
end
/-! the tables of classes -/
theorem kit_mk {K : PySem.W.Frag} {C C2 : Addr} {b : Bool} (hd : PySem.W.hasDictIn K C2 = true) (ht : PySem.W.typeIn K (.ref C2) = some (.type "type")) (h : PySem.W.subIn K (.ref C) (.ref C2) = some b) (hs : PySem.W.subIn K (.ref C2) (.ref C2) = some true) : PySem.W.kitOne K (.ref C) (.ref C2) = some b := by
  unfold PySem.W.kitOne
  split
  · rename_i q
    have e := beq_iff_eq.mp q
    rw [e, hs] at h
    exact h
  · obtain ⟨cd, hc, _⟩ := PySem.W.any_some hd
    have e2 : ((PySem.W.clsIn K C2).isSome && PySem.W.typeIn K (.ref C2) == some (.type "type")) = true := by rw [hc, ht] <;> rfl
    show (if ((PySem.W.clsIn K C2).isSome && PySem.W.typeIn K (.ref C2) == some (.type "type")) = true then PySem.W.subIn K (.ref C) (.ref C2) else none) = some b
    rw [if_pos e2]
    exact h
theorem kit_ve {K : PySem.W.Frag} {C : Addr} {b : Bool} (h : PySem.W.subIn K (.ref C) (.type "ValueError") = some b) : PySem.W.kitOne K (.ref C) (.type "ValueError") = some b := by
  unfold PySem.W.kitOne
  rw [if_neg (by simp)]
  show (if PySem.W.kitMeta "ValueError" = true then PySem.W.subIn K (.ref C) (.type "ValueError") else none) = some b
  rw [if_pos (by decide +kernel)]
  exact h
theorem kita_nil {K : PySem.W.Frag} {t : Value} : PySem.W.kitAny K t (([] : List Addr).map Value.ref) = some false := rfl
theorem kita_t {K : PySem.W.Frag} {t : Value} {c : Addr} {r : List Addr} (h : PySem.W.kitOne K t (.ref c) = some true) : PySem.W.kitAny K t ((c :: r).map Value.ref) = some true := by
  show (match PySem.W.kitOne K t (.ref c) with
    | some true => some true
    | some false => PySem.W.kitAny K t (r.map Value.ref)
    | none => none) = _
  rw [h]
theorem kita_f {K : PySem.W.Frag} {t : Value} {c : Addr} {r : List Addr} {b : Bool} (h : PySem.W.kitOne K t (.ref c) = some false) (h2 : PySem.W.kitAny K t (r.map Value.ref) = some b) : PySem.W.kitAny K t ((c :: r).map Value.ref) = some b := by
  show (match PySem.W.kitOne K t (.ref c) with
    | some true => some true
    | some false => PySem.W.kitAny K t (r.map Value.ref)
    | none => none) = _
  rw [h]
  exact h2
theorem tc_nil {mg : Str → Option Value} {P : Bool → Addr → Prop} : ∀ (c : Str) (b : Bool) (C : Addr), ([] : List (Str × Bool)).lookup c = some b → mg c = some (.ref C) → P b C := fun c b C h => by cases h
theorem tc_cons {mg : Str → Option Value} {P : Bool → Addr → Prop} {c0 : Str} {b0 : Bool} {C0 : Addr} {r : List (Str × Bool)} (hm : mg c0 = some (.ref C0)) (h : P b0 C0) (t : ∀ (c : Str) (b : Bool) (C : Addr), r.lookup c = some b → mg c = some (.ref C) → P b C) :
    ∀ (c : Str) (b : Bool) (C : Addr), ((c0, b0) :: r).lookup c = some b → mg c = some (.ref C) → P b C := fun c b C q e => by
  by_cases hc : c = c0
  · subst hc
    have : List.lookup c ((c, b0) :: r) = some b0 := by simp [List.lookup]
    rw [this] at q
    cases q
    rw [hm] at e
    cases e
    exact h
  · have hb : (c == c0) = false := by simpa using hc
    rw [List.lookup, hb] at q
    exact t c b C q e
theorem tb_nil {mg : Str → Option Value} {P : Addr → Prop} : ∀ (c : Str) (C : Addr), ([] : List Str).contains c = true → mg c = some (.ref C) → P C := fun c C h => by simp at h
theorem tb_cons {mg : Str → Option Value} {P : Addr → Prop} {c0 : Str} {C0 : Addr} {r : List Str} (hm : mg c0 = some (.ref C0)) (h : P C0) (t : ∀ (c : Str) (C : Addr), r.contains c = true → mg c = some (.ref C) → P C) :
    ∀ (c : Str) (C : Addr), (c0 :: r).contains c = true → mg c = some (.ref C) → P C := fun c C q e => by
  by_cases hc : c = c0
  · subst hc
    rw [hm] at e
    cases e
    exact h
  · refine t c C ?_ e
    rw [List.contains_cons] at q
    have hb : (c == c0) = false := by simpa using hc
    rw [hb] at q
    simpa using q
/-! the statement -/
section
variable {X : Cx} {k : Kx} {x n : Str} {c : Value} {i : Nat} {body suite : List Stmt} {b₀ : Stmt} {np pos pos' : Pos} {Wout : WX} {bd : SF} {ct : List (Str × Bool)} {su : Addr → Exc → SF}
theorem s_try1 (hk : k.K = X.K) (hs : X.stack = X.env :: X.outer) (hf : X.env.frame = some X.env.locals) (hN : X.N.Nodup) (hi : X.N[i]? = some n) (hln : X.env.kindOf n = some .local) (hc : Names X x c) (tk : Takes X Wout)
    (hct : ∀ y b C, ct.lookup y = some b → k.mg y = some (.ref C) → PySem.W.exmOne X.K (.ref C) c = some b)
    (hb : ∀ (W : WX) (pn : List (Addr × Obj)) (xe : Value → Shared → Prop), Takes (X.tr pn xe) W → PassesOwn (model X.prog X.w) X.A X.env xe → PSs (X.tr pn xe) body (dS k W bd))
    (hsu : ∀ (a : Addr) (oe : Obj) (y : Exc) (cls : Value) (d : Option Addr) (pn : List (Addr × Obj)), Zc cls d oe → (∃ vs, oe.data = .fields vs) → PSs (X.suite a ((a, oe) :: pn)) (b₀ :: suite) (dS (kX k y cls d) noW (su a y))) :
    PS X (.Try body [.ExceptHandler (some (.Name x np)) (some n) (b₀ :: suite) pos'] [] [] pos) (dS k Wout (sTry1 bd ct i su)) :=
  ps_weak (ps_try_as hs hf hN hi hln hc tk (tb := fun W => dS k W bd) (ts := fun a cls d D σ H => ∃ y, dS (kX k y cls d) noW (su a y) D σ H) hb
    (fun a oe cls d pn hz hv => ⟨fun pins s σ H D I ⟨y, h⟩ => (hsu a oe y cls d pn hz hv).run pins s σ H D I h⟩)) fun D σ H ⟨G, μ, F, st, σd, S, R, h⟩ => by
    refine ⟨G, μ, F, st, σd, S, R, ?_⟩
    unfold sTry1 at h
    cases q : bd σd st with
    | nx a b => rw [q] at h; exact h
    | rt a b => rw [q] at h; exact h
    | bk a b => rw [q] at h; exact h
    | ct a b => rw [q] at h; exact h
    | bad => rw [q] at h; exact h
    | err y σ1 st1 =>
      rw [q] at h
      dsimp only at h
      intro μ1 F1 H1 σ' cls d e1 S1 R1 X1
      obtain ⟨⟨C, hm, rfl⟩, _⟩ := id X1
      cases q2 : ct.lookup y.c with
      | none => rw [q2] at h; exact h.elim
      | some b =>
        rw [q2] at h
        refine ⟨b, hct _ _ _ q2 hm, fun hb' a ha => ?_, fun hb' => ?_⟩
        · subst hb'
          dsimp only at h
          by_cases hall : ∀ a : Addr, goneS i (su a y (σ1.set i (some (.v (.exc a)))) st1) = goneS i (su 0 y (σ1.set i (some (.v (.exc 0)))) st1)
          case neg => rw [gd_neg hall] at h; exact h.elim
          rw [gd_pos hall, ← hall a] at h
          refine ⟨y, G, μ1, F1, st1, σ1.set i (some (.v (.exc a))), S1, ?_, ?_⟩
          · have R2 := R1.set i (a := .v (.exc a)) (v := .ref a) Rep.exc
            exact ⟨R2.len, R2.at_, R2.j, X1⟩
          · have h2 := PostS.ext e1 h
            cases q3 : su a y (σ1.set i (some (.v (.exc a)))) st1 with
            | nx σ2 st2 => rw [q3] at h2; exact fun μ3 F3 H3 σ3 e3 S3 R3 => h2 μ3 F3 H3 _ e3 S3 (ERep.gone (k := k) ⟨R3.len, R3.at_, R3.j.1⟩ i none)
            | bk σ2 st2 => rw [q3] at h2; exact fun μ3 F3 H3 σ3 e3 S3 R3 => h2 μ3 F3 H3 _ e3 S3 (ERep.gone (k := k) ⟨R3.len, R3.at_, R3.j.1⟩ i none)
            | ct σ2 st2 => rw [q3] at h2; exact fun μ3 F3 H3 σ3 e3 S3 R3 => h2 μ3 F3 H3 _ e3 S3 (ERep.gone (k := k) ⟨R3.len, R3.at_, R3.j.1⟩ i none)
            | rt v st2 => rw [q3] at h2; exact fun μ3 F3 H3 v3 e3 S3 R3 => h2 μ3 F3 H3 _ e3 S3 R3
            | err _ _ _ => rw [q3] at h2; exact h2.elim
            | bad => rw [q3] at h2; exact h2.elim
        · subst hb'
          exact h μ1 F1 H1 σ' _ d e1 S1 R1 X1
end
end Dn

set_option linter.all false
set_option Elab.async false
set_option maxRecDepth 100000
/-! Exs9: own errors of the top, as facts. -/
namespace Dn
open PySem PySem.Spec PyProof.Rows L2
/-- an own error's class -/
structure Ec (K : PySem.W.Frag) (mg : Str → Option Value) (cn : Str) where
  C : Addr
  gm : mg cn = some (.ref C)
  exC : PySem.W.subIn K (.ref C) (.type "BaseException") = some true
  hd : PySem.W.hasDictIn K C = true
  ty : PySem.W.typeIn K (.ref C) = some (.type "type")
  self : PySem.W.subIn K (.ref C) (.ref C) = some true
  ga : PySem.W.findIn K (.ref C) "__getattribute__" = some (some (.builtin "BaseException.__getattribute__"))
  gg : PySem.W.findIn K (.ref C) "__getattr__" = some none
  ha : PySem.W.findIn K (.ref C) "__class__" = some (some (.builtin "object.__class__"))
  hm : PySem.W.mroIn K C (.type "object") = some true
  ve : PySem.W.subIn K (.ref C) (.type "ValueError") = some true
  hn : PySem.W.specialIn K (.builtin "object.__class__") "__get__" = some (some (.builtin "getset_descriptor.__get__"))
  ht : PySem.W.takesIn K (.builtin "object.__class__") = some true
section
variable {K : PySem.W.Frag} {mg : Str → Option Value} {cn : Str}
theorem Ec.xfc (e : Ec K mg cn) : XfC K e.C := ⟨e.ga, e.gg, e.exC, e.hd⟩
theorem Ec.excc (e : Ec K mg cn) : ExcC K e.C := ⟨e.ga, e.gg, e.exC, e.hd, e.ha, e.hn, e.ht, e.hm⟩
def er0_of {C : Addr} (gm : mg cn = some (.ref C)) (q : PySem.W.excIn K C [.type "ValueError", .type "Exception", .type "BaseException", .type "object"] "ValueError.__new__" = true) (kC : PySem.W.keepIn K (.ref C) = true)
    (exC : PySem.W.subIn K (.ref C) (.type "BaseException") = some true) (tyC : PySem.W.typeIn K (.ref C) = some (.type "type")) : Er0 K mg cn := ⟨C, gm, er0_mk q PySem.F.excBase_ValueError, kC, exC, tyC⟩
def eri_of {P : Program} {fld qual text : Str} {st : Stmt} {C f cc cda : Addr} {oc kV doc pm ct ccl cl : Value} {od an cdd cld : Option Addr} {osl ccs csl : Array (Option Value)} {p0 p1 p2 p3 p4 p5 p6 p7 p8 p9 : Pos} {jt : Nat} {cvs : Array Value} {file : Str} {tf : Tok}
    {nm q : Str} {N : Addr} {bs bm : List Value} {sn : List Str} {sub : List Value} {ab : Bool} {col : Option Bool} {dd : Option Addr} {m0 m1 m2 m3 m5 : Option Value}
    (gm : mg cn = some (.ref C)) (xL : K.lookup C = some (excClassObj nm q C N bs bm true sn sub ab col dd m0 m1 m2 m3 m5 "ValueError.__new__")) (hbm : PySem.HandSPX.refsVE bm = true) (sa : PySem.W.findIn K (.ref C) "__setattr__" = some (some (.builtin "object.__setattr__")))
    (exC : PySem.W.subIn K (.ref C) (.type "BaseException") = some true) (tyC : PySem.W.typeIn K (.ref C) = some (.type "type")) (kC : PySem.W.keepIn K (.ref C) = true) (ve : PySem.W.subIn K (.ref C) (.type "ValueError") = some true)
    (no : PySem.W.findIn K (.ref C) fld = some none) (ini : PySem.W.findIn K (.ref C) "__init__" = some (some (.ref f))) (tf' : PySem.W.typeIn K (.ref f) = some (.type "function"))
    (lk : K.lookup f = some ⟨oc, od, .func (PySem.W.fnX "__init__" qual (defArgs st) (defBody st) (defScope st) [(("__class__" : Str), cc)] .none kV doc pm an (.ref cda) ct), osl⟩)
    (hcd : PySem.W.codeIn K (.ref cda) qual = true) (lc : K.lookup cda = some ⟨ccl, cdd, .fields cvs, ccs⟩) (hv2 : cvs[2]? = some (.str file tf)) (hfile : ((P.main.file : Str) == file) = true)
    (lcell : K.lookup cc = some ⟨cl, cld, .cell (some (.ref C)), csl⟩) (msub : PySem.W.mroIn K C (.ref C) = some true) (sup : PySem.W.ks_superIn K C C "__init__" = some (some (.builtin "ValueError.__init__")))
    (ext : PySem.W.nsIn K cStatics "thirdparty.any" = some none) (top : (P.main.scope.names.lookup ("super" : Str)).isSome = false) (hm : mg "super" = none)
    (S : NdefX.NScope ["self", fld, "__class__"] ["self", fld] ["__class__"] (defScope st))
    (par : ∃ ar : Arg, ((defArgs st).posonlyargs ++ (defArgs st).args).head? = some ar ∧ ar.arg = ("self" : Str))
    (hB : defBody st = [.Expr (.Call (.Attribute (.Call (.Name "super" p0) [] [] p1) "__init__" p2) [.Constant (.str text) jt p3] [] p4) p5, .Assign [.Attribute (.Name "self" p6) fld p7] (.Name fld p8) p9])
    (hsu : (defScope st).names.lookup ("super" : Str) = some .globalImplicit) (hd : (fld == ("__debug__" : Str)) = false) (hcd2 : (fld == ("__classdict__" : Str)) = false)
    (hE : ∀ L : Addr, ∃ pl : Sem Bool, eval (.Call (.Attribute (.Call (.Name "super" p0) [] [] p1) "__init__" p2) [.Constant (.str text) jt p3] [] p4) (NdefX.envF ⟨"__init__", qual, defArgs st, defBody st, defScope st, [(("__class__" : Str), cc)], cda⟩ f L) = (do
      let ov ← attributeBase (.Call (.Name "super" p0) [] [] p1) "__init__" (NdefX.envF ⟨"__init__", qual, defArgs st, defBody st, defScope st, [(("__class__" : Str), cc)], cda⟩ f L) (eval (.Call (.Name "super" p0) [] [] p1) (NdefX.envF ⟨"__init__", qual, defArgs st, defBody st, defScope st, [(("__class__" : Str), cc)], cda⟩ f L))
      standAt p2.atName
      let (g, first) ← holding [ov] (getMethod ov "__init__" pl)
      callWith p4 g first (backTo p4 (starEach [.Constant (.str text) jt p3] (NdefX.envF ⟨"__init__", qual, defArgs st, defBody st, defScope st, [(("__class__" : Str), cc)], cda⟩ f L))) []))
    (hI : ∀ L : Addr, interactive (NdefX.envF ⟨"__init__", qual, defArgs st, defBody st, defScope st, [(("__class__" : Str), cc)], cda⟩ f L) = false)
    (hW1 : ∀ L : Addr, swapsWith (.Call (.Attribute (.Call (.Name "super" p0) [] [] p1) "__init__" p2) [.Constant (.str text) jt p3] [] p4) none p5.line (NdefX.envF ⟨"__init__", qual, defArgs st, defBody st, defScope st, [(("__class__" : Str), cc)], cda⟩ f L) = pure false)
    (hW2 : ∀ L : Addr, swapsWith (.Name fld p8) (some (.Attribute (.Name "self" p6) fld p7)) p9.line (NdefX.envF ⟨"__init__", qual, defArgs st, defBody st, defScope st, [(("__class__" : Str), cc)], cda⟩ f L) = pure false)
    (bd : Binds K (PySem.W.fnX "__init__" qual (defArgs st) (defBody st) (defScope st) [(("__class__" : Str), cc)] .none kV doc pm an (.ref cda) ct) ["self", fld] []) : ErI K mg P cn fld :=
  have oex : OexC K C := ⟨⟨nm, q, N, bs, bm, sn, sub, ab, col, dd, m0, m1, m2, m3, m5, xL, hbm⟩, sa, exC, tyC, kC⟩
  have hcls : ∃ cd, PySem.W.clsIn K C = some cd := ⟨{ name := nm, bases := bs, mro := .ref C :: bm, ns := N, qualname := q, hasDict := true, slotNames := sn, subclasses := sub, abstract := ab, collection := col, hasDel := false }, by unfold PySem.W.clsIn; rw [xL] <;> rfl⟩
  have SK : SupK K P C f cda cc (PySem.W.fnX "__init__" qual (defArgs st) (defBody st) (defScope st) [(("__class__" : Str), cc)] .none kV doc pm an (.ref cda) ct) "self" :=
    ⟨⟨_, _, _, lk⟩, par, ⟨_, _, _, _, _, _, lc, hv2, hfile⟩, ⟨_, _, _, lcell⟩, hcls, msub, ve, sup, ext, top⟩
  ⟨C, gm, oex, no, f, _, ini, tf', fun w base => oinit_fn (F := ⟨"__init__", qual, defArgs st, defBody st, defScope st, [(("__class__" : Str), cc)], cda⟩) S rfl lk hcd SK oex no hB hsu hm hd hcd2 hE hI hW1 hW2, bd⟩
end
end Dn

set_option linter.all false
set_option Elab.async false
set_option maxRecDepth 100000
/-! The functions that all laws share. -/
namespace Pre
open PySem Dn
noncomputable def b__law_pool : SF := (sSeq (sSet 2 (fC (.int 0)))
  (sSeq (sIf (tCmp (fOp oLtU (fVar 1) (fLen (fVar 0))))
  (sSet 2 (fOp oAddU (fOp oMulU (fC (.int 2)) (fB bAbs [(fB bInt [(fIx (fVar 0) (fVar 1))])])) (fB bInt [(fOp oLtU (fIx (fVar 0) (fVar 1)) (fC (.int 0)))])))
  sNil)
  (sSeq (sSet 3 (fC (.int 0)))
  (sSeq (sIf (tCmp (fOp oGe (fVar 2) (fOp oPow (fC (.int 10)) (fC (.int 18)))))
  (sSet 3 (fVar 2))
  sNil)
  (sRet (fLive (lDisp [(fVar 3), (fOp oMod (fB bInt [(fOp oAddU (fVar 2) (fOp oMulU (fC (.int 1000003)) (fOp oAddU (fVar 1) (fC (.int 1)))))]) (fC (.int 2147483647))), (fC (.int 0))])))))))

noncomputable def d__law_pool : List A → Store → RE (List A) := fnL 4 b__law_pool

noncomputable def b__law_draw : SF := (sSeq (sIf (tCmp (fOp oGt (fIx (fVar 0) (fC (.int 0))) (fC (.int 0))))
  (sSeq (sSet 2 (fOp oMod (fB bInt [(fIx (fVar 0) (fC (.int 0)))]) (fVar 1)))
  (sSeq (sAsg (fOp oDiv (fIx (fVar 0) (fC (.int 0))) (fVar 1)) (tgSub (fVar 0) (fC (.int 0))))
  (sRet (fVar 2))))
  sNil)
  (sSeq (sAsg (fOp oAddU (fIx (fVar 0) (fC (.int 2))) (fC (.int 1))) (tgSub (fVar 0) (fC (.int 2))))
  (sSeq (sSet 3 (fOp oMod (fB bInt [(fOp oAddU (fIx (fVar 0) (fC (.int 1))) (fOp oMulU (fIx (fVar 0) (fC (.int 2))) (fC (.int 7368787))))]) (fC (.int 2147483647))))
  (sSeq (sSet 3 (fOp oMod (fB bInt [(fOp oAddU (fOp oAddU (fOp oMulU (fVar 3) (fVar 3)) (fOp oMulU (fC (.int 69621)) (fVar 3))) (fIx (fVar 0) (fC (.int 2))))]) (fC (.int 2147483629))))
  (sSeq (sSet 3 (fOp oMod (fB bInt [(fOp oAddU (fOp oAddU (fOp oMulU (fVar 3) (fVar 3)) (fOp oMulU (fC (.int 48271)) (fVar 3))) (fC (.int 12820163)))]) (fC (.int 2147483587))))
  (sRet (fOp oMod (fB bInt [(fOp oDiv (fVar 3) (fC (.int 8)))]) (fVar 1))))))))

noncomputable def d__law_draw : List A → Store → RE A := fnV 4 b__law_draw

noncomputable def b__law_pick : SF := (sRet (fIx (fVar 1) (fCall d__law_draw [(fVar 0), (fLen (fVar 1))])))

noncomputable def d__law_pick : List A → Store → RE A := fnV 2 b__law_pick

noncomputable def b__law_up : SF := (sSeq (sIf (tCmp (fOp oGt (fCall d__law_draw [(fVar 0), (fC (.int 4))]) (fC (.int 0))))
  (sRet (fCall d__law_draw [(fVar 0), (fVar 1)]))
  sNil)
  (sRet (fCall d__law_draw [(fVar 0), (fVar 2)])))

noncomputable def d__law_up : List A → Store → RE A := fnV 3 b__law_up

noncomputable def d__law_same : Nat → List A → Store → RE A
  | 0 => fun _ _ => .bad
  | n + 1 => fnV 3 ((sSeq (sIf (tOf (fIsi (fVar 1) .tuple))
  (sSeq (sIf (tOr (tNot (tOf (fIsi (fVar 0) .tuple))) (tCmp (fOp oNeG (fLen (fVar 0)) (fLen (fVar 1)))))
  (sRet (fC (.bl false)))
  sNil)
  (sRet (fOp oEqG (fFrz (lComp (iRange1 (fLen (fVar 1))) (tgName 2) (tNot (tOf (fCall (d__law_same n) [(fIx (fVar 0) (fVar 2)), (fIx (fVar 1) (fVar 2))]))) (fVar 2) [2])) (fFrz (lDisp [])))))
  sNil)
  (sSeq (sIf (tCmp (fOp oIsN (fVar 1) (fC .non)))
  (sRet (fOp oIsN (fVar 0) (fC .non)))
  sNil)
  (sSeq (sIf (tOr (tCmp (fOp oIsB (fVar 1) (fC (.bl true)))) (tCmp (fOp oIsB (fVar 1) (fC (.bl false)))))
  (sRet (fAnd (fIsi (fVar 0) .bool) (fOp oEqG (fVar 0) (fVar 1))))
  sNil)
  (sSeq (sIf (tOf (fIsi (fVar 1) .str))
  (sRet (fAnd (fIsi (fVar 0) .str) (fOp oEqG (fVar 0) (fVar 1))))
  sNil)
  (sRet (fAnd (fIsi (fVar 0) .int) (fAnd (fNot (fIsi (fVar 0) .bool)) (fOp oEqG (fVar 0) (fVar 1))))))))))

noncomputable def b__law_same (n : Nat) : SF := (sSeq (sIf (tOf (fIsi (fVar 1) .tuple))
  (sSeq (sIf (tOr (tNot (tOf (fIsi (fVar 0) .tuple))) (tCmp (fOp oNeG (fLen (fVar 0)) (fLen (fVar 1)))))
  (sRet (fC (.bl false)))
  sNil)
  (sRet (fOp oEqG (fFrz (lComp (iRange1 (fLen (fVar 1))) (tgName 2) (tNot (tOf (fCall (d__law_same n) [(fIx (fVar 0) (fVar 2)), (fIx (fVar 1) (fVar 2))]))) (fVar 2) [2])) (fFrz (lDisp [])))))
  sNil)
  (sSeq (sIf (tCmp (fOp oIsN (fVar 1) (fC .non)))
  (sRet (fOp oIsN (fVar 0) (fC .non)))
  sNil)
  (sSeq (sIf (tOr (tCmp (fOp oIsB (fVar 1) (fC (.bl true)))) (tCmp (fOp oIsB (fVar 1) (fC (.bl false)))))
  (sRet (fAnd (fIsi (fVar 0) .bool) (fOp oEqG (fVar 0) (fVar 1))))
  sNil)
  (sSeq (sIf (tOf (fIsi (fVar 1) .str))
  (sRet (fAnd (fIsi (fVar 0) .str) (fOp oEqG (fVar 0) (fVar 1))))
  sNil)
  (sRet (fAnd (fIsi (fVar 0) .int) (fAnd (fNot (fIsi (fVar 0) .bool)) (fOp oEqG (fVar 0) (fVar 1)))))))))

end Pre

set_option linter.all false
set_option Elab.async false
set_option maxRecDepth 100000
/-! Pre: what the shared functions do. -/
namespace Pre
open PySem Dn
structure Pool where
  f : Int
  s : Int
  c : Int
def pl (p : Pool) : Cell := .lst [.v (.int p.f), .v (.int p.s), .v (.int p.c)]
theorem mulOk_mod (x y : Int) (m : Int) (h : 0 < m := by decide) (h2 : m < 2 ^ 64 := by decide) : mulOk (x.fmod m) y := by
  have a := Int.fmod_nonneg_of_pos x h
  have b := Int.fmod_lt_of_pos x h
  exact .inl (.inl (by omega))
def mix1 (p : Pool) : Int := (p.s + (p.c + 1) * 7368787).fmod 2147483647
def mix2 (p : Pool) : Int := (mix1 p * mix1 p + 69621 * mix1 p + (p.c + 1)).fmod 2147483629
def mix3 (p : Pool) : Int := (mix2 p * mix2 p + 48271 * mix2 p + 12820163).fmod 2147483587
def drawV (p : Pool) (m : Int) : Int := if 0 < p.f then p.f.fmod m else (((mix3 p).fdiv 8).fmod m)
def drawP (p : Pool) (m : Int) : Pool := if 0 < p.f then ⟨p.f.fdiv m, p.s, p.c⟩ else ⟨p.f, p.s, p.c + 1⟩
theorem draw_lo (p : Pool) {m : Int} (h : 1 ≤ m) : 0 ≤ drawV p m := by
  unfold drawV
  split <;> exact Int.fmod_nonneg_of_pos _ (by omega)
theorem draw_hi (p : Pool) {m : Int} (h : 1 ≤ m) : drawV p m < m := by
  unfold drawV
  split <;> exact Int.fmod_lt_of_pos _ (by omega)
theorem draw_at (p : Pool) (m : Int) (h1 : 1 ≤ m) (h2 : m < 18446744073709551616) (i : Nat) (st : Store) (hi : st[i]? = some (pl p)) :
    d__law_draw [.ref i, .v (.int m)] st = .ok (.v (.int (drawV p m))) (st.set i (pl (drawP p m))) := by
  have e1 : m ≠ 0 := by omega
  have e2 : divOk m := divOk_of e1 (by omega)
  have e8 : divOk 8 := divOk_of (by decide) (by decide)
  have hl : i < st.length := (List.getElem?_eq_some_iff.mp hi).1
  have c1 : mulOk (p.c + 1) 7368787 := .inl (.inr (by decide))
  have c2 : ∀ x, mulOk 69621 x := fun x => .inl (.inl (by decide))
  have c3 : ∀ x, mulOk 48271 x := fun x => .inl (.inl (by decide))
  have d1 : ∀ x y, mulOk (Int.fmod x 2147483647) y := fun x y => mulOk_mod x y _
  have d2 : ∀ x y, mulOk (Int.fmod x 2147483629) y := fun x y => mulOk_mod x y _
  have s1 : ∀ a b : Cell, ((st.set i a).set i b) = st.set i b := fun a b => List.set_set ..
  have s2 : ∀ a : Cell, (st.set i a)[i]? = some a := fun a => List.getElem?_set_self hl
  have s3 : ∀ a : Cell, (st.set i a).take st.length = st.set i a := fun a => List.take_of_length_le (by simp)
  have hi' : st[i]? = some (Cell.lst [.v (.int p.f), .v (.int p.s), .v (.int p.c)]) := hi
  by_cases hf : 0 < p.f
  · simp [d__law_draw, b__law_draw, fnV, seq_eq, sIf, tCmp, fOp, fIx, fVar, fC, A.elems, A.int?, ixOf, A.view, oGt, A.bl?, hf, sSet, fB, fArgs, viewL, bInt, oMod, sAsg, tgSub, setL, putA, A.below, oDiv, sRet, retA, drawV, drawP, pl, e1, e2, e8, e8, hi', s1, s2, s3]
  · simp [d__law_draw, b__law_draw, fnV, seq_eq, sIf, tCmp, fOp, fIx, fVar, fC, A.elems, A.int?, ixOf, A.view, oGt, A.bl?, hf, sSet, fB, fArgs, viewL, bInt, oMod, sAsg, tgSub, setL, putA, A.below, oDiv, sRet, retA, drawV, drawP, pl, e1, e2, e8, oAddU, oMulU, c1, c2, c3, d1, d2, sNil, mix1, mix2, mix3, hi', s1, s2, s3]
theorem draw_spec (p : Pool) (m : Int) (h1 : 1 ≤ m) (h2 : m < 18446744073709551616) (st : Store) :
    d__law_draw [.ref 0, .v (.int m)] (pl p :: st) = .ok (.v (.int (drawV p m))) (pl (drawP p m) :: st) := draw_at p m h1 h2 0 _ rfl
/-- pick of a row: an item of it -/
theorem pick_elems (p : Pool) (a : A) (xs : List A) (st : Store) (h : ∀ q, a.elems (pl q :: st) = some xs) (hl : xs ≠ []) (hm : xs.length < 1073741824) :
    ∃ j x p', j < xs.length ∧ xs[j]? = some x ∧ d__law_pick [.ref 0, a] (pl p :: st) = retA (st.length + 1) x (pl p' :: st) := by
  have hp : 1 ≤ (xs.length : Int) := by
    cases xs with
    | nil => exact absurd rfl hl
    | cons _ _ => simp; omega
  have b1 := draw_lo p hp
  have b2 := draw_hi p hp
  have hj : (drawV p xs.length).toNat < xs.length := by omega
  refine ⟨(drawV p xs.length).toNat, xs[(drawV p xs.length).toNat], drawP p xs.length, hj, List.getElem?_eq_getElem hj, ?_⟩
  simp [d__law_pick, b__law_pick, fnV, sRet, fIx, fVar, fCall, fArgs, fLen, h, draw_spec p xs.length hp (by omega), A.int?, ixOf_lt b1 b2, hj]
theorem pick_vals (p : Pool) (a : A) (ds : List D) (st : Store) (h : ∀ q, a.elems (pl q :: st) = some (ds.map .v)) (hl : ds ≠ []) (hm : ds.length < 1073741824) :
    ∃ d p', d ∈ ds ∧ d__law_pick [.ref 0, a] (pl p :: st) = .ok (.v d) (pl p' :: st) := by
  obtain ⟨j, x, p', h1, h2, h3⟩ := pick_elems p a (ds.map .v) st h (by simpa using hl) (by simpa using hm)
  rw [List.length_map] at h1
  rw [List.getElem?_map, List.getElem?_eq_getElem h1] at h2
  cases h2
  refine ⟨ds[j], p', List.getElem_mem h1, ?_⟩
  rw [h3]
  show RE.ok _ ((pl p' :: st).take (st.length + 1)) = _
  rw [List.take_of_length_le (by simp)]
theorem pick_lst (p : Pool) (ds : List D) (st : Store) (hl : ds ≠ []) (hm : ds.length < 1073741824) :
    ∃ d p', d ∈ ds ∧ d__law_pick [.ref 0, .v (.lst ds)] (pl p :: st) = .ok (.v d) (pl p' :: st) := by
  obtain ⟨j, x, p', h1, h2, h3⟩ := pick_elems p (.v (.lst ds)) (ds.map .v) st (fun _ => rfl) (by simpa using hl) (by simpa using hm)
  rw [List.length_map] at h1
  rw [List.getElem?_map, List.getElem?_eq_getElem h1] at h2
  cases h2
  refine ⟨ds[j], p', List.getElem_mem h1, ?_⟩
  rw [h3]
  show RE.ok _ ((pl p' :: st).take (st.length + 1)) = _
  rw [List.take_of_length_le (by simp)]
theorem up_spec (p : Pool) (a b : Int) (h1 : 1 ≤ a) (h2 : a < 18446744073709551616) (h3 : 1 ≤ b) (h4 : b < 18446744073709551616) (st : Store) :
    ∃ v p', 0 ≤ v ∧ v < max a b ∧ d__law_up [.ref 0, .v (.int a), .v (.int b)] (pl p :: st) = .ok (.v (.int v)) (pl p' :: st) := by
  have q := draw_spec p 4 (by decide) (by decide) st
  have t : ∀ c : Cell, (c :: st).take (st.length + 1) = c :: st := fun c => List.take_of_length_le (by simp)
  by_cases hc : 0 < drawV p 4
  · have l1 := draw_lo (drawP p 4) h1
    have l2 := draw_hi (drawP p 4) h1
    refine ⟨drawV (drawP p 4) a, drawP (drawP p 4) a, l1, by omega, ?_⟩
    · simp [d__law_up, b__law_up, fnV, seq_eq, sIf, tCmp, fOp, fVar, fC, fCall, fArgs, q, A.view, oGt, hc, A.bl?, sRet, draw_spec _ a h1 h2, retA, A.below, t]
  · have l1 := draw_lo (drawP p 4) h3
    have l2 := draw_hi (drawP p 4) h3
    refine ⟨drawV (drawP p 4) b, drawP (drawP p 4) b, l1, by omega, ?_⟩
    · simp [d__law_up, b__law_up, fnV, seq_eq, sIf, tCmp, fOp, fVar, fC, fCall, fArgs, q, A.view, oGt, hc, A.bl?, sRet, draw_spec _ b h3 h4, retA, A.below, t, sNil]
theorem pool_spec (ns : List Int) (i : Nat) (st : Store) (hi : i ≤ 1000) : ∃ p : Pool, d__law_pool [.v (.ro (ns.map D.int)), .v (.int i)] st = .ok [.v (.int p.f), .v (.int p.s), .v (.int p.c)] st := by
  have c1 : ∀ x, mulOk 2 x := fun x => .inl (.inl (by decide))
  have c2 : ∀ x, mulOk 1000003 x := fun x => .inl (.inl (by decide))
  have t : st.take st.length = st := List.take_length
  have t1 : ∀ c : Cell, (st ++ [c]).take st.length = st := fun c => by simp
  by_cases hl : i < ns.length
  · have e : (ns.map D.int)[i]? = some (.int ns[i]) := by rw [List.getElem?_map, List.getElem?_eq_getElem hl]; rfl
    have hix : ixOf (ns.map D.int).length (i : Int) = some i := by rw [ixOf_lt (by omega) (by simpa using hl)]; simp
    have hix' : ixOf ns.length (i : Int) = some i := by simpa using hix
    have hlt : (i : Int) < (ns.length : Int) := by omega
    have key : ∀ z : Int, ns[i] = z → ∃ p : Pool, d__law_pool [.v (.ro (ns.map D.int)), .v (.int i)] st = .ok [.v (.int p.f), .v (.int p.s), .v (.int p.c)] st := by
      intro z hz
      rw [hz] at e
      by_cases hb : (1000000000000000000 : Int) ≤ (2 * if z < 0 then -z else z) + (if z < 0 then 1 else 0)
      · refine ⟨⟨(2 * if z < 0 then -z else z) + (if z < 0 then 1 else 0), (((2 * if z < 0 then -z else z) + (if z < 0 then 1 else 0)) + 1000003 * ((i : Int) + 1)).fmod 2147483647, 0⟩, ?_⟩
        simp [d__law_pool, b__law_pool, fnL, seq_eq, sSet, fC, sIf, tCmp, fOp, fVar, fLen, A.elems, A.view, oLt, oLtU, A.bl?, hlt, fB, fArgs, viewL, fIx, A.int?, hix', hl, hz, bInt, bAbs, oMulU, oAddU, c1, c2, oGe, oPow, hb, sRet, fLive, lDisp, oMod, A.below, t1]
      · refine ⟨⟨0, (((2 * if z < 0 then -z else z) + (if z < 0 then 1 else 0)) + 1000003 * ((i : Int) + 1)).fmod 2147483647, 0⟩, ?_⟩
        simp [d__law_pool, b__law_pool, fnL, seq_eq, sSet, fC, sIf, tCmp, fOp, fVar, fLen, A.elems, A.view, oLt, oLtU, A.bl?, hlt, fB, fArgs, viewL, fIx, A.int?, hix', hl, hz, bInt, bAbs, oMulU, oAddU, c1, c2, oGe, oPow, hb, sRet, fLive, lDisp, oMod, A.below, t1, sNil]
    exact key _ rfl
  · have hlt : ¬ (i : Int) < (ns.length : Int) := by omega
    refine ⟨⟨0, (0 + 1000003 * ((i : Int) + 1)).fmod 2147483647, 0⟩, ?_⟩
    simp [d__law_pool, b__law_pool, fnL, seq_eq, sSet, fC, sIf, tCmp, fOp, fVar, fLen, A.elems, A.view, oLt, oLtU, A.bl?, hlt, fB, fArgs, viewL, fIx, A.int?, bInt, bAbs, oMulU, oAddU, c1, c2, oGe, oPow, sRet, fLive, lDisp, oMod, A.below, t1, sNil]
/-- what _law_same may be asked -/
def Good : Nat → D → Prop
  | 0, _ => False
  | n + 1, .tup ds => ds.length ≤ sizeMax ∧ ∀ d ∈ ds, Good n d
  | _ + 1, .non => True
  | _ + 1, .bl _ => True
  | _ + 1, .int _ => True
  | _ + 1, .str _ => True
  | _ + 1, _ => False
theorem same_key (n : Nat) (ds : List D) (st : Store) (h1 : ds.length ≤ sizeMax) (hg : ∀ d ∈ ds, d__law_same n [.v d, .v d] st = .ok (.v (.bl true)) st) :
    compL (tgName 2) (tNot (tOf (fCall (d__law_same n) [(fIx (fVar 0) (fVar 2)), (fIx (fVar 1) (fVar 2))]))) (fVar 2) [2] (fun _ => True) [some (.v (.tup ds)), some (.v (.tup ds)), none] (rangeA 0 ds.length) [] st = .ok [] st := by
  rw [rangeA_eq]
  have := comp_pure (fun i : Nat => A.v (.int (0 + (i : Nat)))) (fun _ => false) (fun i : Nat => A.v (.int (0 + (i : Nat)))) (t := tgName 2) (c := tNot (tOf (fCall (d__law_same n) [(fIx (fVar 0) (fVar 2)), (fIx (fVar 1) (fVar 2))]))) (e := fVar 2) (vs := [2]) (g := fun _ => True) (σ := [some (.v (.tup ds)), some (.v (.tup ds)), none]) (st := st) trivial (List.range ds.length) [] (fun y hy => ?_) (by simpa using h1)
  · rw [this]; simp
  · have hy' : y < ds.length := List.mem_range.mp hy
    have hgy := hg ds[y] (List.getElem_mem hy')
    have hix : ixOf ds.length (y : Int) = some y := by rw [ixOf_lt (by omega) (by omega)]; simp
    refine ⟨_, rfl, ?_, fun z => by cases z⟩
    simp [Dn.tNot, tOf, fCall, fArgs, fIx, fVar, A.elems, A.int?, hix, hy', hgy, truth, wipeE]
theorem same_tup (n : Nat) (ds : List D) (st : Store) (h1 : ds.length ≤ sizeMax) (hg : ∀ d ∈ ds, d__law_same n [.v d, .v d] st = .ok (.v (.bl true)) st) : d__law_same (n + 1) [.v (.tup ds), .v (.tup ds)] st = .ok (.v (.bl true)) st := by
  have t : st.take st.length = st := List.take_length
  have hok : okR (ds.length : Int) := by
    have h3 : ds.length ≤ 16777216 := h1
    exact ⟨by omega, by omega⟩
  have key := same_key n ds st h1 hg
  simp [d__law_same, fnV, seq_eq, sIf, tOf, Dn.tOr, Dn.tNot, tCmp, fIsi, fVar, A.view, isTy, tyOk, truth, sNil, fOp, fC, A.bl?, sRet, retA, A.below, t, fLen, A.elems, oNeS, oNeG, eqS, fFrz, lComp, iRange1, hok, key, frzL, lDisp, fArgs, oEqU, oEqG, eqU]
theorem same_sc (n : Nat) (d : D) (st : Store) (h : Good (n + 1) d) (hd : ∀ ds, d ≠ .tup ds) : d__law_same (n + 1) [.v d, .v d] st = .ok (.v (.bl true)) st := by
  have t : st.take st.length = st := List.take_length
  cases d with
  | non => simp [d__law_same, fnV, seq_eq, sIf, tOf, Dn.tOr, tCmp, fIsi, fVar, A.view, isTy, tyOk, truth, sNil, fOp, oIsN, fC, A.bl?, sRet, retA, A.below, t]
  | bl b => cases b <;> simp [d__law_same, fnV, seq_eq, sIf, tOf, Dn.tOr, tCmp, fIsi, fVar, A.view, isTy, tyOk, truth, sNil, fOp, oIsN, oIsB, fC, A.bl?, sRet, retA, A.below, t, fAnd, oEqU, oEqG, eqU, eqS]
  | int i => simp [d__law_same, fnV, seq_eq, sIf, tOf, Dn.tOr, tCmp, fIsi, fVar, A.view, isTy, tyOk, truth, sNil, fOp, oIsN, oIsB, fC, A.bl?, sRet, retA, A.below, t, fAnd, oEqU, oEqG, eqU, eqS, fNot]
  | str x => simp [d__law_same, fnV, seq_eq, sIf, tOf, Dn.tOr, tCmp, fIsi, fVar, A.view, isTy, tyOk, truth, sNil, fOp, oIsN, oIsB, fC, A.bl?, sRet, retA, A.below, t, fAnd, oEqU, oEqG, eqU, eqS]
  | lst xs => exact h.elim
  | ro xs => exact h.elim
  | obj _ _ _ => exact h.elim
  | dic _ _ => exact h.elim
  | fn _ => exact h.elim
  | exc _ => exact h.elim
  | tup ds => exact absurd rfl (hd ds)
theorem same_refl (n : Nat) : ∀ (d : D) (st : Store), Good n d → d__law_same n [.v d, .v d] st = .ok (.v (.bl true)) st := by
  induction n with
  | zero => intro _ _ h; exact h.elim
  | succ n ih =>
    intro d st h
    cases d with
    | tup ds => exact same_tup n ds st h.1 fun d hd => ih d st (h.2 d hd)
    | _ => exact same_sc n _ st h (fun _ e => by cases e)

/-- [f(pool) for _ in range(n)], ints -/
theorem ints_comp (P : Int → Prop) (n k : Nat) (p : Pool) (st : Store) {i : IF} {e : EF} {g : Store → Prop} {σ : Dn.Env} (hi : ∀ q, i σ (pl q :: st) = .ok ⟨(List.range n).map fun j => A.v (.int (0 + (j : Nat))), g⟩ (pl q :: st)) (hg : ∀ q, g (pl q :: st))
    (h : ∀ (j : Nat) q, j < n → ∃ v q', e ((wipeE σ [k]).set k (some (.v (.int (0 + (j : Nat)))))) (pl q :: st) = .ok (.v (.int v)) (pl q' :: st) ∧ P v) (hl : n ≤ sizeMax) :
    ∃ (ns : List Int) (p' : Pool), fFrz (lComp i (tgName k) tYes e [k]) σ (pl p :: st) = .ok (.v (.lst (ns.map D.int))) (pl p' :: st) ∧ ns.length = n ∧ ∀ x ∈ ns, P x := by
  obtain ⟨ds, p', h1, h2, h3⟩ := frz_inv (fun j : Nat => A.v (.int (0 + (j : Nat)))) (fun q : Pool => pl q :: st) (fun _ d => ∃ v, d = .int v ∧ P v) (List.range n) p (t := tgName k) (c := tYes) (e := e) (vs := [k]) (g := g) (σ := σ) hi hg
    (fun y hy q => by
      obtain ⟨v, q', h4, h5⟩ := h y q (List.mem_range.mp hy)
      exact ⟨_, q', _, rfl, rfl, h4, v, rfl, h5⟩) (by rw [List.length_range]; exact hl)
  rw [List.length_range] at h2
  obtain ⟨ns, rfl, h5⟩ := ints_of (P := P) ds fun d hd => by
    obtain ⟨j, hj⟩ := List.getElem?_of_mem hd
    have hjl : j < n := by have := (List.getElem?_eq_some_iff.mp hj).1; omega
    exact h3 j j d (by rw [List.getElem?_range hjl]) hj
  exact ⟨ns, p', h1, by simpa using h2, h5⟩
end Pre

set_option linter.all false
set_option Elab.async false
set_option maxRecDepth 100000
/-! The functions that all laws share. -/
namespace PreW
open PySem Dn Pre
noncomputable def b_Line_init : SF := (sSeq (sFldSet 0 48 (fVar 0) (fVar 1))
  (sSeq (sFldSet 0 49 (fVar 0) (fVar 2))
  (sSeq (sFldSet 0 50 (fVar 0) (fVar 3))
  (sSeq (sFldSet 0 51 (fVar 0) (fVar 4))
  (sSeq (sFldSet 0 52 (fVar 0) (fVar 5))
  (sSeq (sFldSet 0 53 (fVar 0) (fVar 6))
  (sSeq (sFldSet 0 54 (fVar 0) (fVar 7))
  (sSeq (sFldSet 0 55 (fVar 0) (fVar 8))
  (sSeq (sFldSet 0 56 (fVar 0) (fVar 9))
  (sFldSet 0 57 (fVar 0) (fVar 10)))))))))))

noncomputable def d_Line_init : List A → Store → RE A := fnV 11 b_Line_init

noncomputable def b_Plant_init : SF := (sSeq (sFldSet 1 58 (fVar 0) (fVar 1))
  (sSeq (sFldSet 1 59 (fVar 0) (fVar 2))
  (sSeq (sFldSet 1 60 (fVar 0) (fVar 3))
  (sSeq (sFldSet 1 61 (fVar 0) (fVar 4))
  (sSeq (sFldSet 1 62 (fVar 0) (fVar 5))
  (sSeq (sFldSet 1 63 (fVar 0) (fVar 6))
  (sSeq (sFldSet 1 57 (fVar 0) (fVar 7))
  (sSeq (sFldSet 1 64 (fVar 0) (fVar 8))
  (sSeq (sFldSet 1 65 (fVar 0) (fVar 9))
  (sSeq (sFldSet 1 66 (fVar 0) (fVar 10))
  (sSeq (sFldSet 1 67 (fVar 0) (fVar 11))
  (sFldSet 1 68 (fVar 0) (fVar 12)))))))))))))

noncomputable def d_Plant_init : List A → Store → RE A := fnV 13 b_Plant_init

noncomputable def b_Store_init : SF := (sSeq (sFldSet 2 58 (fVar 0) (fVar 1))
  (sSeq (sFldSet 2 69 (fVar 0) (fVar 2))
  (sSeq (sFldSet 2 70 (fVar 0) (fVar 3))
  (sSeq (sFldSet 2 71 (fVar 0) (fVar 4))
  (sFldSet 2 72 (fVar 0) (fVar 5))))))

noncomputable def d_Store_init : List A → Store → RE A := fnV 6 b_Store_init

noncomputable def b_Load_init : SF := (sSeq (sFldSet 3 58 (fVar 0) (fVar 1))
  (sSeq (sFldSet 3 73 (fVar 0) (fVar 2))
  (sFldSet 3 74 (fVar 0) (fVar 3))))

noncomputable def d_Load_init : List A → Store → RE A := fnV 4 b_Load_init

noncomputable def b_line_checks : SF := (sRet (fTup [(fTup [(fC (.str "a")), (fChain oLe oLt (fC (.int 0)) (fFld 48 (fVar 1)) (fVar 0))]), (fTup [(fC (.str "b")), (fAnd (fChain oLe oLt (fC (.int 0)) (fFld 49 (fVar 1)) (fVar 0)) (fOp oNeG (fFld 49 (fVar 1)) (fFld 48 (fVar 1))))]), (fTup [(fC (.str "weight")), (fChain oLe oLe (fC (.int 1)) (fFld 50 (fVar 1)) (fC (.int 9)))]), (fTup [(fC (.str "rating")), (fChain oLe oLe (fC (.int 0)) (fFld 51 (fVar 1)) (fC (.int 999)))]), (fTup [(fC (.str "peak")), (fChain oLe oLe (fFld 51 (fVar 1)) (fFld 52 (fVar 1)) (fC (.int 999)))]), (fTup [(fC (.str "hold")), (fChain oLe oLe (fC (.int 1)) (fFld 53 (fVar 1)) (fC (.int 8)))]), (fTup [(fC (.str "burn")), (fChain oLt oLe (fFld 53 (fVar 1)) (fFld 54 (fVar 1)) (fC (.int 9)))]), (fTup [(fC (.str "backup")), (fChain oLe oLe (fC (.int 0)) (fFld 55 (fVar 1)) (fC (.int 4)))]), (fTup [(fC (.str "reclose")), (fChain oLe oLe (fC (.int 0)) (fFld 56 (fVar 1)) (fC (.int 4)))]), (fTup [(fC (.str "repair")), (fChain oLe oLe (fC (.int 1)) (fFld 57 (fVar 1)) (fC (.int 6)))])]))

noncomputable def d_line_checks : List A → Store → RE A := fnV 2 b_line_checks

noncomputable def b_plant_checks : SF := (sRet (fTup [(fTup [(fC (.str "node")), (fChain oLe oLt (fC (.int 0)) (fFld 58 (fVar 1)) (fVar 0))]), (fTup [(fC (.str "least")), (fChain oLe oLe (fC (.int 0)) (fFld 59 (fVar 1)) (fC (.int 60)))]), (fTup [(fC (.str "most")), (fChain oLe oLe (fB bMax2 [(fC (.int 1)), (fFld 59 (fVar 1))]) (fFld 60 (fVar 1)) (fC (.int 60)))]), (fTup [(fC (.str "ramp")), (fChain oLe oLe (fC (.int 1)) (fFld 61 (fVar 1)) (fC (.int 60)))]), (fTup [(fC (.str "share")), (fChain oLe oLe (fC (.int 1)) (fFld 62 (fVar 1)) (fC (.int 9)))]), (fTup [(fC (.str "warm")), (fChain oLe oLe (fC (.int 0)) (fFld 63 (fVar 1)) (fC (.int 4)))]), (fTup [(fC (.str "repair")), (fChain oLe oLe (fC (.int 1)) (fFld 57 (fVar 1)) (fC (.int 6)))]), (fTup [(fC (.str "unit")), (fChain oLe oLe (fC (.int 0)) (fFld 65 (fVar 1)) (fC (.int 99)))]), (fTup [(fC (.str "idle")), (fChain oLe oLe (fC (.int 0)) (fFld 66 (fVar 1)) (fC (.int 99)))]), (fTup [(fC (.str "launch")), (fChain oLe oLe (fC (.int 0)) (fFld 67 (fVar 1)) (fC (.int 99)))]), (fTup [(fC (.str "fuel")), (fChain oLe oLe (fUn oNeg (fC (.int 1))) (fFld 68 (fVar 1)) (fC (.int 999)))])]))

noncomputable def d_plant_checks : List A → Store → RE A := fnV 2 b_plant_checks

noncomputable def b_store_checks : SF := (sRet (fTup [(fTup [(fC (.str "node")), (fChain oLe oLt (fC (.int 0)) (fFld 58 (fVar 1)) (fVar 0))]), (fTup [(fC (.str "capacity")), (fChain oLe oLe (fC (.int 0)) (fFld 69 (fVar 1)) (fC (.int 30)))]), (fTup [(fC (.str "power")), (fChain oLe oLe (fC (.int 0)) (fFld 70 (fVar 1)) (fC (.int 30)))]), (fTup [(fC (.str "loss")), (fOr (fOp oEqG (fFld 71 (fVar 1)) (fC (.int 0))) (fChain oLe oLe (fC (.int 2)) (fFld 71 (fVar 1)) (fC (.int 9))))]), (fTup [(fC (.str "charge")), (fChain oLe oLe (fC (.int 0)) (fFld 72 (fVar 1)) (fFld 69 (fVar 1)))])]))

noncomputable def d_store_checks : List A → Store → RE A := fnV 2 b_store_checks

noncomputable def b_load_checks : SF := (sRet (fTup [(fTup [(fC (.str "node")), (fChain oLe oLt (fC (.int 0)) (fFld 58 (fVar 1)) (fVar 0))]), (fTup [(fC (.str "rank")), (fChain oLe oLe (fC (.int 1)) (fFld 73 (fVar 1)) (fC (.int 9)))]), (fTup [(fC (.str "patience")), (fChain oLe oLe (fUn oNeg (fC (.int 1))) (fFld 74 (fVar 1)) (fC (.int 8)))])]))

noncomputable def d_load_checks : List A → Store → RE A := fnV 2 b_load_checks

noncomputable def b_bad_number : SF := (sSeq (sIf (tCmp (fChain oLe oLe (fVar 2) (fVar 1) (fVar 3)))
  (sRet (fC .non))
  sNil)
  (sRet (fTup [(fVar 0)])))

noncomputable def d_bad_number : List A → Store → RE A := fnV 4 b_bad_number

noncomputable def l1_bad_parts : SF := (sIf (tNot (tOf (fVar 8)))
  (sRet (fTup [(fVar 0), (fVar 5), (fVar 7)]))
  sNil)

noncomputable def l2_bad_parts : SF := (sFor (iSeq (fCallV 3 [(163, d_line_checks), (169, d_load_checks), (173, d_plant_checks), (180, d_store_checks)] [(fVar 4), (fVar 6)])) (tgTup [(tgName 7), (tgName 8)])
  l1_bad_parts)

noncomputable def b_bad_parts : SF := (sSeq (sIf (tCmp (fOp oGt (fLen (fVar 1)) (fVar 2)))
  (sRet (fTup [(fVar 0)]))
  sNil)
  (sSeq (sFor (iEnum (fVar 1)) (tgTup [(tgName 5), (tgName 6)])
  l2_bad_parts)
  (sRet (fC .non))))

noncomputable def d_bad_parts : List A → Store → RE A := fnV 9 b_bad_parts

noncomputable def l1_weather_fits : SF := (sIf (tNot (tCmp (fChain oLe oLe (fC (.int 0)) (fVar 4) (fC (.int 60)))))
  (sRet (fC (.bl false)))
  sNil)

noncomputable def l2_weather_fits : SF := (sIf (tNot (tCmp (fChain oLe oLe (fFld 59 (fVar 5)) (fVar 6) (fC (.int 99)))))
  (sRet (fC (.bl false)))
  sNil)

noncomputable def b_weather_fits : SF := (sSeq (sAsg (fVar 1) (tgTup [(tgName 2), (tgName 3)]))
  (sSeq (sFor (iSeq (fVar 2)) (tgName 4)
  l1_weather_fits)
  (sSeq (sFor (iZip (fVar 0) (fVar 3)) (tgTup [(tgName 5), (tgName 6)])
  l2_weather_fits)
  (sRet (fC (.bl true))))))

noncomputable def d_weather_fits : List A → Store → RE A := fnV 7 b_weather_fits

noncomputable def l1_bad_weathers : SF := (sIf (tNot (tOf (fCall d_weather_fits [(fFld 77 (fVar 0)), (fVar 3)])))
  (sRet (fTup [(fC (.str "weathers")), (fVar 1)]))
  sNil)

noncomputable def l2_bad_weathers : SF := (sSeq (sIf (tNot (tCmp (fChain oLe oLe (fC (.int 1)) (fLen (fVar 2)) (fC (.int 8)))))
  (sRet (fTup [(fC (.str "weathers")), (fVar 1)]))
  sNil)
  (sFor (iSeq (fVar 2)) (tgName 3)
  l1_bad_weathers))

noncomputable def b_bad_weathers : SF := (sSeq (sIf (tCmp (fOp oNeG (fLen (fFld 82 (fVar 0))) (fFld 80 (fVar 0))))
  (sRet (fTup [(fC (.str "weathers"))]))
  sNil)
  (sSeq (sFor (iEnum (fFld 82 (fVar 0))) (tgTup [(tgName 1), (tgName 2)])
  l2_bad_weathers)
  (sRet (fC .non))))

noncomputable def d_bad_weathers : List A → Store → RE A := fnV 4 b_bad_weathers

noncomputable def l1_bad_items : SF := (sIf (tCmp (fOp oInG (fVar 5) (fSlice (fVar 1) none (some (fVar 4)))))
  (sRet (fTup [(fVar 0)]))
  sNil)

noncomputable def l2_bad_items : SF := (sIf (tOr (tCmp (fOp oNotInG (fVar 6) (fVar 3))) (tNot (tCmp (fChain oLe oLt (fC (.int 0)) (fVar 7) (fDget (fVar 3) (fVar 6))))))
  (sRet (fTup [(fVar 0), (fVar 4)]))
  sNil)

noncomputable def b_bad_items : SF := (sSeq (sIf (tCmp (fOp oGt (fLen (fVar 1)) (fVar 2)))
  (sRet (fTup [(fVar 0)]))
  sNil)
  (sSeq (sFor (iEnum (fVar 1)) (tgTup [(tgName 4), (tgName 5)])
  l1_bad_items)
  (sSeq (sFor (iEnum (fVar 1)) (tgTup [(tgName 4), (tgTup [(tgName 6), (tgName 7)])])
  l2_bad_items)
  (sRet (fC .non)))))

noncomputable def d_bad_items : List A → Store → RE A := fnV 8 b_bad_items

noncomputable def l1_bad_handovers : SF := (sSeq (sIf (tNot (tCmp (fChain oLt oLt (fVar 1) (fVar 2) (fOp oMulU (fFld 80 (fVar 0)) (fFld 81 (fVar 0))))))
  (sRet (fTup [(fC (.str "handovers"))]))
  sNil)
  (sSet 1 (fVar 2)))

noncomputable def b_bad_handovers : SF := (sSeq (sSet 1 (fUn oNeg (fC (.int 1))))
  (sSeq (sFor (iSeq (fFld 86 (fVar 0))) (tgName 2)
  l1_bad_handovers)
  (sRet (fC .non))))

noncomputable def d_bad_handovers : List A → Store → RE A := fnV 3 b_bad_handovers

noncomputable def l1_bad_place : SF := (sIf (tCmp (fOp oNotN (fVar 7) (fC .non)))
  (sRet (fVar 7))
  sNil)

noncomputable def b_bad_place : SF := (sSeq (sSet 1 (fLen (fFld 76 (fVar 0))))
  (sSeq (sSet 2 (fLen (fFld 77 (fVar 0))))
  (sSeq (sSet 3 (fDic ["line", "relay", "plant"] [(fVar 1), (fVar 1), (fVar 2)]))
  (sSeq (sSet 4 (fDic ["line", "plant", "load", "store"] [(fVar 1), (fVar 2), (fLen (fFld 79 (fVar 0))), (fLen (fFld 78 (fVar 0)))]))
  (sSeq (sSet 5 (fDic ["close", "open", "start", "stop", "raise", "lower", "free"] [(fVar 1), (fVar 1), (fVar 2), (fVar 2), (fVar 2), (fVar 2), (fVar 2)]))
  (sSeq (sSet 6 (fTup [(fCall d_bad_number [(fC (.str "nodes")), (fFld 75 (fVar 0)), (fC (.int 1)), (fC (.int 8))]), (fCall d_bad_parts [(fC (.str "lines")), (fFld 76 (fVar 0)), (fC (.int 10)), (fC (.fn 163)), (fFld 75 (fVar 0))]), (fCall d_bad_parts [(fC (.str "plants")), (fFld 77 (fVar 0)), (fC (.int 5)), (fC (.fn 173)), (fFld 75 (fVar 0))]), (fCall d_bad_parts [(fC (.str "stores")), (fFld 78 (fVar 0)), (fC (.int 3)), (fC (.fn 180)), (fFld 75 (fVar 0))]), (fCall d_bad_parts [(fC (.str "loads")), (fFld 79 (fVar 0)), (fC (.int 6)), (fC (.fn 169)), (fFld 75 (fVar 0))]), (fCall d_bad_number [(fC (.str "hours")), (fFld 80 (fVar 0)), (fC (.int 1)), (fC (.int 24))]), (fCall d_bad_number [(fC (.str "beats")), (fFld 81 (fVar 0)), (fC (.int 1)), (fC (.int 4))]), (fCall d_bad_weathers [(fVar 0)]), (fCall d_bad_items [(fC (.str "frail")), (fFld 83 (fVar 0)), (fC (.int 6)), (fVar 3)]), (fCall d_bad_items [(fC (.str "meters")), (fFld 84 (fVar 0)), (fC (.int 4)), (fVar 4)]), (fCall d_bad_items [(fC (.str "orders")), (fFld 85 (fVar 0)), (fC (.int 5)), (fVar 5)]), (fCall d_bad_handovers [(fVar 0)]), (fCall d_bad_number [(fC (.str "lag")), (fFld 87 (fVar 0)), (fC (.int 0)), (fC (.int 2))]), (fCall d_bad_number [(fC (.str "rest")), (fFld 88 (fVar 0)), (fC (.int 1)), (fC (.int 20))]), (fCall d_bad_number [(fC (.str "tolerance")), (fFld 89 (fVar 0)), (fC (.int 0)), (fC (.int 99))])]))
  (sSeq (sFor (iSeq (fVar 6)) (tgName 7)
  l1_bad_place)
  (sRet (fC .non)))))))))

noncomputable def d_bad_place : List A → Store → RE A := fnV 8 b_bad_place

noncomputable def b_World_init : SF := (sSeq (sFldSet 4 75 (fVar 0) (fVar 1))
  (sSeq (sFldSet 4 76 (fVar 0) (fVar 2))
  (sSeq (sFldSet 4 77 (fVar 0) (fVar 3))
  (sSeq (sFldSet 4 78 (fVar 0) (fVar 4))
  (sSeq (sFldSet 4 79 (fVar 0) (fVar 5))
  (sSeq (sFldSet 4 80 (fVar 0) (fVar 6))
  (sSeq (sFldSet 4 81 (fVar 0) (fVar 7))
  (sSeq (sFldSet 4 82 (fVar 0) (fVar 8))
  (sSeq (sFldSet 4 83 (fVar 0) (fVar 9))
  (sSeq (sFldSet 4 84 (fVar 0) (fVar 10))
  (sSeq (sFldSet 4 85 (fVar 0) (fVar 11))
  (sSeq (sFldSet 4 86 (fVar 0) (fVar 12))
  (sSeq (sFldSet 4 87 (fVar 0) (fVar 13))
  (sSeq (sFldSet 4 88 (fVar 0) (fVar 14))
  (sSeq (sFldSet 4 89 (fVar 0) (fVar 15))
  (sSeq (sSet 16 (fCall d_bad_place [(fVar 0)]))
  (sIf (tCmp (fOp oNotN (fVar 16) (fC .non)))
  sBad
  sNil)))))))))))))))))

noncomputable def d_World_init : List A → Store → RE A := fnV 17 b_World_init

end PreW

set_option linter.all false
set_option Elab.async false
/-! WpS: stores with a pool and new lists behind them. -/
namespace Dn
open PySem Pre
/-- the store st with the pool p at i, new cells behind it -/
def S (st : Store) (i : Nat) (p : Pool) (ext : List Cell) : Store := st.set i (pl p) ++ ext
/-- the store st, new cells behind it -/
def T (st : Store) (ext : List Cell) : Store := st ++ ext
theorem S_at {st : Store} {i : Nat} {p : Pool} (h : st[i]? = some (pl p)) : S st i p [] = st := by
  unfold S
  rw [List.append_nil]
  have hi := (List.getElem?_eq_some_iff.mp h)
  obtain ⟨h1, h2⟩ := hi
  rw [← h2, List.set_getElem_self]
theorem T_nil (st : Store) : T st [] = st := List.append_nil st
section
variable {st : Store} {i : Nat} {p q : Pool} {ext : List Cell}
theorem S_pool (hi : i < st.length) : (S st i p ext)[i]? = some (pl p) := by
  unfold S
  rw [List.getElem?_append_left (by simpa using hi), List.getElem?_set_self hi]
theorem S_setp (hi : i < st.length) : (S st i p ext).set i (pl q) = S st i q ext := by
  unfold S
  rw [List.set_append_left _ _ (by simpa using hi), List.set_set]
theorem S_len : (S st i p ext).length = st.length + ext.length := by unfold S; simp
theorem S_get (k : Nat) : (S st i p ext)[st.length + k]? = ext[k]? := by
  unfold S
  rw [List.getElem?_append_right (by simp)]
  simp
theorem S_set (k : Nat) (c : Cell) : (S st i p ext).set (st.length + k) c = S st i p (ext.set k c) := by
  unfold S
  rw [List.set_append_right _ _ (by simp)]
  simp
theorem S_app (more : List Cell) : S st i p ext ++ more = S st i p (ext ++ more) := by unfold S; rw [List.append_assoc]
theorem S_take (n : Nat) (h : n = st.length) : (S st i p ext).take n = S st i p [] := by
  subst h
  unfold S
  rw [List.take_append_of_le_length (by simp), List.append_nil, List.take_of_length_le (by simp)]
theorem S_S (hi : i < st.length) : S (S st i p ext) i q [] = S st i q ext := by
  show (S st i p ext).set i (pl q) ++ [] = _
  rw [List.append_nil, S_setp hi]
theorem T_len : (T st ext).length = st.length + ext.length := by unfold T; simp
theorem T_get (k : Nat) : (T st ext)[st.length + k]? = ext[k]? := by
  unfold T
  rw [List.getElem?_append_right (by simp)]
  simp
theorem T_set (k : Nat) (c : Cell) : (T st ext).set (st.length + k) c = T st (ext.set k c) := by
  unfold T
  rw [List.set_append_right _ _ (by simp)]
  simp
theorem T_app (more : List Cell) : T st ext ++ more = T st (ext ++ more) := by unfold T; rw [List.append_assoc]
theorem T_take (n : Nat) (h : n = st.length) : (T st ext).take n = st := by
  subst h
  unfold T
  simp
end
section
variable {α : Type} {st : Store} {i : Nat} {p : Pool} {ext : List Cell} {Q : A → Store → Prop} {E : Exc → Store → Prop} {QL : List A → Store → Prop} {σ : Env} {l : LF} {sb : SF} {N : Nat} {xs : List A} {a e : EF}
/-! draws -/
theorem draw_w {m : Int} (hi : i < st.length) (h1 : 1 ≤ m) (h2 : m < 18446744073709551616) (h : ∀ v q, 0 ≤ v → v < m → Q (.v (.int v)) (S st i q ext)) : okE (d__law_draw [.ref i, .v (.int m)] (S st i p ext)) Q E := by
  rw [draw_at p m h1 h2 i _ (S_pool hi), S_setp hi]
  exact h _ _ (draw_lo p h1) (draw_hi p h1)
theorem pick_at (p : Pool) (x : A) (xs : List A) (hi : i < st.length) (h : ∀ q, x.elems (S st i q ext) = some xs) (hl : xs ≠ []) (hm : xs.length < 1073741824) :
    ∃ j y q, j < xs.length ∧ xs[j]? = some y ∧ d__law_pick [.ref i, x] (S st i p ext) = retA (S st i q ext).length y (S st i q ext) := by
  have hp : 1 ≤ (xs.length : Int) := by
    cases xs with
    | nil => exact absurd rfl hl
    | cons _ _ => simp; omega
  have b1 := draw_lo p hp
  have b2 := draw_hi p hp
  have hj : (drawV p xs.length).toNat < xs.length := by omega
  refine ⟨(drawV p xs.length).toNat, xs[(drawV p xs.length).toNat], drawP p xs.length, hj, List.getElem?_eq_getElem hj, ?_⟩
  have e := draw_at p xs.length hp (by omega) i (S st i p ext) (S_pool hi)
  rw [S_setp hi] at e
  have l : (S st i p ext).length = (S st i (drawP p xs.length) ext).length := by rw [S_len, S_len]
  simp [d__law_pick, b__law_pick, fnV, sRet, fIx, fVar, fCall, fArgs, fLen, h, e, A.int?, ixOf_lt b1 b2, hj, l]
theorem pick_w {ds : List D} (hi : i < st.length) (hl : ds ≠ []) (hm : ds.length < 1073741824) (h : ∀ d q, d ∈ ds → Q (.v d) (S st i q ext)) : okE (d__law_pick [.ref i, .v (.lst ds)] (S st i p ext)) Q E := by
  obtain ⟨j, y, q, h1, h2, h3⟩ := pick_at (ext := ext) p (.v (.lst ds)) (ds.map .v) hi (fun _ => rfl) (by simpa using hl) (by simpa using hm)
  rw [List.length_map] at h1
  rw [List.getElem?_map, List.getElem?_eq_getElem h1] at h2
  cases h2
  rw [h3]
  refine w_retv (st' := S st i q ext) (List.take_of_length_le (Nat.le_refl _)) (h _ _ (List.getElem_mem h1))
theorem pick_wt {ds : List D} (hi : i < st.length) (hl : ds ≠ []) (hm : ds.length < 1073741824) (h : ∀ d q, d ∈ ds → Q (.v d) (S st i q ext)) : okE (d__law_pick [.ref i, .v (.tup ds)] (S st i p ext)) Q E := by
  obtain ⟨j, y, q, h1, h2, h3⟩ := pick_at (ext := ext) p (.v (.tup ds)) (ds.map .v) hi (fun _ => rfl) (by simpa using hl) (by simpa using hm)
  rw [List.length_map] at h1
  rw [List.getElem?_map, List.getElem?_eq_getElem h1] at h2
  cases h2
  rw [h3]
  refine w_retv (st' := S st i q ext) (List.take_of_length_le (Nat.le_refl _)) (h _ _ (List.getElem_mem h1))
theorem pick_i2 {x0 x1 : Int} (hi : i < st.length) (h : ∀ v q, (v = x0 ∨ v = x1) → Q (.v (.int v)) (S st i q ext)) : okE (d__law_pick [.ref i, .v (.lst [.int x0, .int x1])] (S st i p ext)) Q E := by
  refine pick_w hi (by simp) (by simp) fun d q hd => ?_
  simp only [List.mem_cons, List.not_mem_nil, or_false] at hd
  rcases hd with rfl | rfl
  · exact h _ q (by simp)
  · exact h _ q (by simp)
theorem pick_i3 {x0 x1 x2 : Int} (hi : i < st.length) (h : ∀ v q, (v = x0 ∨ v = x1 ∨ v = x2) → Q (.v (.int v)) (S st i q ext)) : okE (d__law_pick [.ref i, .v (.lst [.int x0, .int x1, .int x2])] (S st i p ext)) Q E := by
  refine pick_w hi (by simp) (by simp) fun d q hd => ?_
  simp only [List.mem_cons, List.not_mem_nil, or_false] at hd
  rcases hd with rfl | rfl | rfl
  · exact h _ q (by simp)
  · exact h _ q (by simp)
  · exact h _ q (by simp)
theorem pick_i4 {x0 x1 x2 x3 : Int} (hi : i < st.length) (h : ∀ v q, (v = x0 ∨ v = x1 ∨ v = x2 ∨ v = x3) → Q (.v (.int v)) (S st i q ext)) : okE (d__law_pick [.ref i, .v (.lst [.int x0, .int x1, .int x2, .int x3])] (S st i p ext)) Q E := by
  refine pick_w hi (by simp) (by simp) fun d q hd => ?_
  simp only [List.mem_cons, List.not_mem_nil, or_false] at hd
  rcases hd with rfl | rfl | rfl | rfl
  · exact h _ q (by simp)
  · exact h _ q (by simp)
  · exact h _ q (by simp)
  · exact h _ q (by simp)
theorem pick_i5 {x0 x1 x2 x3 x4 : Int} (hi : i < st.length) (h : ∀ v q, (v = x0 ∨ v = x1 ∨ v = x2 ∨ v = x3 ∨ v = x4) → Q (.v (.int v)) (S st i q ext)) : okE (d__law_pick [.ref i, .v (.lst [.int x0, .int x1, .int x2, .int x3, .int x4])] (S st i p ext)) Q E := by
  refine pick_w hi (by simp) (by simp) fun d q hd => ?_
  simp only [List.mem_cons, List.not_mem_nil, or_false] at hd
  rcases hd with rfl | rfl | rfl | rfl | rfl
  · exact h _ q (by simp)
  · exact h _ q (by simp)
  · exact h _ q (by simp)
  · exact h _ q (by simp)
  · exact h _ q (by simp)
theorem pick_i6 {x0 x1 x2 x3 x4 x5 : Int} (hi : i < st.length) (h : ∀ v q, (v = x0 ∨ v = x1 ∨ v = x2 ∨ v = x3 ∨ v = x4 ∨ v = x5) → Q (.v (.int v)) (S st i q ext)) : okE (d__law_pick [.ref i, .v (.lst [.int x0, .int x1, .int x2, .int x3, .int x4, .int x5])] (S st i p ext)) Q E := by
  refine pick_w hi (by simp) (by simp) fun d q hd => ?_
  simp only [List.mem_cons, List.not_mem_nil, or_false] at hd
  rcases hd with rfl | rfl | rfl | rfl | rfl | rfl
  · exact h _ q (by simp)
  · exact h _ q (by simp)
  · exact h _ q (by simp)
  · exact h _ q (by simp)
  · exact h _ q (by simp)
  · exact h _ q (by simp)
theorem pick_i7 {x0 x1 x2 x3 x4 x5 x6 : Int} (hi : i < st.length) (h : ∀ v q, (v = x0 ∨ v = x1 ∨ v = x2 ∨ v = x3 ∨ v = x4 ∨ v = x5 ∨ v = x6) → Q (.v (.int v)) (S st i q ext)) : okE (d__law_pick [.ref i, .v (.lst [.int x0, .int x1, .int x2, .int x3, .int x4, .int x5, .int x6])] (S st i p ext)) Q E := by
  refine pick_w hi (by simp) (by simp) fun d q hd => ?_
  simp only [List.mem_cons, List.not_mem_nil, or_false] at hd
  rcases hd with rfl | rfl | rfl | rfl | rfl | rfl | rfl
  · exact h _ q (by simp)
  · exact h _ q (by simp)
  · exact h _ q (by simp)
  · exact h _ q (by simp)
  · exact h _ q (by simp)
  · exact h _ q (by simp)
  · exact h _ q (by simp)
theorem pick_i8 {x0 x1 x2 x3 x4 x5 x6 x7 : Int} (hi : i < st.length) (h : ∀ v q, (v = x0 ∨ v = x1 ∨ v = x2 ∨ v = x3 ∨ v = x4 ∨ v = x5 ∨ v = x6 ∨ v = x7) → Q (.v (.int v)) (S st i q ext)) : okE (d__law_pick [.ref i, .v (.lst [.int x0, .int x1, .int x2, .int x3, .int x4, .int x5, .int x6, .int x7])] (S st i p ext)) Q E := by
  refine pick_w hi (by simp) (by simp) fun d q hd => ?_
  simp only [List.mem_cons, List.not_mem_nil, or_false] at hd
  rcases hd with rfl | rfl | rfl | rfl | rfl | rfl | rfl | rfl
  · exact h _ q (by simp)
  · exact h _ q (by simp)
  · exact h _ q (by simp)
  · exact h _ q (by simp)
  · exact h _ q (by simp)
  · exact h _ q (by simp)
  · exact h _ q (by simp)
  · exact h _ q (by simp)
theorem pick_i9 {x0 x1 x2 x3 x4 x5 x6 x7 x8 : Int} (hi : i < st.length) (h : ∀ v q, (v = x0 ∨ v = x1 ∨ v = x2 ∨ v = x3 ∨ v = x4 ∨ v = x5 ∨ v = x6 ∨ v = x7 ∨ v = x8) → Q (.v (.int v)) (S st i q ext)) : okE (d__law_pick [.ref i, .v (.lst [.int x0, .int x1, .int x2, .int x3, .int x4, .int x5, .int x6, .int x7, .int x8])] (S st i p ext)) Q E := by
  refine pick_w hi (by simp) (by simp) fun d q hd => ?_
  simp only [List.mem_cons, List.not_mem_nil, or_false] at hd
  rcases hd with rfl | rfl | rfl | rfl | rfl | rfl | rfl | rfl | rfl
  · exact h _ q (by simp)
  · exact h _ q (by simp)
  · exact h _ q (by simp)
  · exact h _ q (by simp)
  · exact h _ q (by simp)
  · exact h _ q (by simp)
  · exact h _ q (by simp)
  · exact h _ q (by simp)
  · exact h _ q (by simp)

abbrev LivS (st : Store) (i : Nat) (xs : List A) (st1 : Store) (R : Pool → List Cell → Prop) : Prop := ∃ q ext', st1 = S st i q ext' ∧ xs.all (A.below (st.length + ext'.length)) = true ∧ R q ext'
abbrev LivT (st : Store) (xs : List A) (st1 : Store) (R : List Cell → Prop) : Prop := ∃ ext', st1 = T st ext' ∧ xs.all (A.below (st.length + ext'.length)) = true ∧ R ext'
abbrev ApS1 (st : Store) (i : Nat) (x : A) (st1 : Store) (R : Nat → Prop) : Prop := ∃ q ext' k xs0, x = .ref (st.length + k) ∧ st1 = S st i q ext' ∧ ext'[k]? = some (.lst xs0) ∧ R k
abbrev ApS2 (st : Store) (i k : Nat) (y : A) (st2 : Store) (R : D → Pool → List Cell → List A → Prop) : Prop := ∃ d q2 ext2 xs, y = .v d ∧ st2 = S st i q2 ext2 ∧ ext2[k]? = some (.lst xs) ∧ xs.length < sizeMax ∧ R d q2 ext2 xs
abbrev ApT1 (st : Store) (x : A) (st1 : Store) (R : Nat → Prop) : Prop := ∃ ext' k xs0, x = .ref (st.length + k) ∧ st1 = T st ext' ∧ ext'[k]? = some (.lst xs0) ∧ R k
abbrev ApT2 (st : Store) (k : Nat) (y : A) (st2 : Store) (R : D → List Cell → List A → Prop) : Prop := ∃ d ext2 xs, y = .v d ∧ st2 = T st ext2 ∧ ext2[k]? = some (.lst xs) ∧ xs.length < sizeMax ∧ R d ext2 xs
abbrev TuX (x : A) (st1 : Store) (R : List D → Prop) : Prop := ∃ ds, x.elems st1 = some (ds.map .v) ∧ R ds
theorem livS_i {q : Pool} {ys : List A} {R : Pool → List Cell → Prop} (h : ys.all (A.below (st.length + ext.length)) = true) (r : R q ext) : LivS st i ys (S st i q ext) R := ⟨_, _, rfl, h, r⟩
theorem livT_i {ys : List A} {R : List Cell → Prop} (h : ys.all (A.below (st.length + ext.length)) = true) (r : R ext) : LivT st ys (T st ext) R := ⟨_, rfl, h, r⟩
theorem apS1_i {q : Pool} {k : Nat} {xs0 : List A} {R : Nat → Prop} (h : ext[k]? = some (.lst xs0)) (r : R k) : ApS1 st i (.ref (st.length + k)) (S st i q ext) R := ⟨_, _, _, _, rfl, rfl, h, r⟩
theorem apS2_i {q : Pool} {k : Nat} {d : D} {xs0 : List A} {R : D → Pool → List Cell → List A → Prop} (h : ext[k]? = some (.lst xs0)) (hl : xs0.length < sizeMax) (r : R d q ext xs0) : ApS2 st i k (.v d) (S st i q ext) R := ⟨_, _, _, _, rfl, rfl, h, hl, r⟩
theorem apT1_i {k : Nat} {xs0 : List A} {R : Nat → Prop} (h : ext[k]? = some (.lst xs0)) (r : R k) : ApT1 st (.ref (st.length + k)) (T st ext) R := ⟨_, _, _, rfl, rfl, h, r⟩
theorem apT2_i {k : Nat} {d : D} {xs0 : List A} {R : D → List Cell → List A → Prop} (h : ext[k]? = some (.lst xs0)) (hl : xs0.length < sizeMax) (r : R d ext xs0) : ApT2 st k (.v d) (T st ext) R := ⟨_, _, _, rfl, rfl, h, hl, r⟩
theorem tuS_i {q : Pool} {k : Nat} {ds : List D} {R : List D → Prop} (h : ext[k]? = some (.lst (ds.map .v))) (r : R ds) : TuX (.ref (st.length + k)) (S st i q ext) R := ⟨ds, by unfold A.elems; dsimp only; rw [S_get, h], r⟩
theorem tuT_i {k : Nat} {ds : List D} {R : List D → Prop} (h : ext[k]? = some (.lst (ds.map .v))) (r : R ds) : TuX (.ref (st.length + k)) (T st ext) R := ⟨ds, by unfold A.elems; dsimp only; rw [T_get, h], r⟩
theorem tuV_l {ds : List D} {R : List D → Prop} (r : R ds) : TuX (.v (.lst ds)) st R := ⟨ds, rfl, r⟩
theorem tuV_t {ds : List D} {R : List D → Prop} (r : R ds) : TuX (.v (.tup ds)) st R := ⟨ds, rfl, r⟩
theorem tuV_r {ds : List D} {R : List D → Prop} (r : R ds) : TuX (.v (.ro ds)) st R := ⟨ds, rfl, r⟩
abbrev RetS (st : Store) (i : Nat) (x : A) (st' : Store) (P : D → Prop) : Prop := ∃ d q ext', st' = S st i q ext' ∧ (x = .v d ∨ ∃ k ds, x = .ref (st.length + k) ∧ ext'[k]? = some (.lst (ds.map .v)) ∧ d = .lst ds) ∧ P d
abbrev RetT (st : Store) (x : A) (st' : Store) (P : D → Prop) : Prop := ∃ d ext', st' = T st ext' ∧ (x = .v d ∨ ∃ k ds, x = .ref (st.length + k) ∧ ext'[k]? = some (.lst (ds.map .v)) ∧ d = .lst ds) ∧ P d
theorem retS_v {q : Pool} {d : D} {P : D → Prop} (h : P d) : RetS st i (.v d) (S st i q ext) P := ⟨_, _, _, rfl, .inl rfl, h⟩
theorem retT_v {d : D} {P : D → Prop} (h : P d) : RetT st (.v d) (T st ext) P := ⟨_, _, rfl, .inl rfl, h⟩
theorem retS_r {q : Pool} {k : Nat} {ds : List D} {P : D → Prop} (e : ext[k]? = some (.lst (ds.map .v))) (h : P (.lst ds)) : RetS st i (.ref (st.length + k)) (S st i q ext) P := ⟨_, _, _, rfl, .inr ⟨_, _, rfl, e, rfl⟩, h⟩
theorem retT_r {k : Nat} {ds : List D} {P : D → Prop} (e : ext[k]? = some (.lst (ds.map .v))) (h : P (.lst ds)) : RetT st (.ref (st.length + k)) (T st ext) P := ⟨_, _, rfl, .inr ⟨_, _, rfl, e, rfl⟩, h⟩
theorem live_S {ys : List A} {n : Nat} (h : okE (l σ st) QL E) : okE (l σ st) QL E := h
theorem w_liveS (h : okE (l σ (S st i p ext)) (fun xs st1 => LivS st i xs st1 fun q ext' => Q (.ref (st.length + ext'.length)) (S st i q (ext' ++ [.lst xs]))) E) : okE (fLive l σ (S st i p ext)) Q E :=
  w_live (okE_mono h fun xs st1 ⟨q, ext', e, h1, h2⟩ => by
    subst e
    rw [S_len, S_app]
    exact ⟨h1, h2⟩)
theorem w_liveT (h : okE (l σ (T st ext)) (fun xs st1 => LivT st xs st1 fun ext' => Q (.ref (st.length + ext'.length)) (T st (ext' ++ [.lst xs]))) E) : okE (fLive l σ (T st ext)) Q E :=
  w_live (okE_mono h fun xs st1 ⟨ext', e, h1, h2⟩ => by
    subst e
    rw [T_len, T_app]
    exact ⟨h1, h2⟩)
/-- o.append(e), e data -/
theorem w_appS (h : okE (a σ (S st i p ext)) (fun x st1 => ApS1 st i x st1 fun k => okE (e σ st1) (fun y st2 => ApS2 st i k y st2 fun d q2 ext2 xs => Q (.v .non) (S st i q2 (ext2.set k (.lst (xs ++ [.v d]))))) E) E) : okE (fAppend a e σ (S st i p ext)) Q E := by
  refine w_append (okE_mono h fun x st1 ⟨q, ext', k, xs0, e1, e2, e3, h1⟩ => ⟨_, e1, ?_, ?_⟩)
  · subst e2
    rw [S_get, e3]; rfl
  · refine okE_mono h1 fun y st2 ⟨d, q2, ext2, xs, e4, e5, e6, e7, e8⟩ => ?_
    subst e4 e5
    refine ⟨.v d, S st i q2 ext2, xs, rfl, by rw [S_get, e6], e7, ?_⟩
    rw [S_set]
    exact e8
theorem w_appT (h : okE (a σ (T st ext)) (fun x st1 => ApT1 st x st1 fun k => okE (e σ st1) (fun y st2 => ApT2 st k y st2 fun d ext2 xs => Q (.v .non) (T st (ext2.set k (.lst (xs ++ [.v d]))))) E) E) : okE (fAppend a e σ (T st ext)) Q E := by
  refine w_append (okE_mono h fun x st1 ⟨ext', k, xs0, e1, e2, e3, h1⟩ => ⟨_, e1, ?_, ?_⟩)
  · subst e2
    rw [T_get, e3]; rfl
  · refine okE_mono h1 fun y st2 ⟨d, ext2, xs, e4, e5, e6, e7, e8⟩ => ?_
    subst e4 e5
    refine ⟨.v d, T st ext2, xs, rfl, by rw [T_get, e6], e7, ?_⟩
    rw [T_set]
    exact e8
/-- tuple(x) of a live list of data -/
theorem w_tupX (h : okE (a σ st) (fun x st1 => TuX x st1 fun ds => Q (.v (.tup ds)) st1) E) : okE (fTuple a σ st) Q E :=
  w_tuple (okE_mono h fun x st1 ⟨ds, e3, h1⟩ => ⟨ds.map .v, e3, ds, _, frzL_vals _ _, h1⟩)
/-- a def with the pool as first argument: hands back data of P -/
theorem w_fnS (hi : i < st.length) (P : D → Prop) (h : ∀ st1 : Store, i < st1.length → okS (sb (xs.map some ++ List.replicate (N - xs.length) none) (S st1 i p []))
      ⟨fun _ st' => (∃ q ext', st' = S st1 i q ext') ∧ P .non, fun x st' => RetS st1 i x st' P, fun _ _ => False, fun _ _ => False, fun _ _ _ => False⟩)
    (hQ : ∀ d q, P d → Q (.v d) (S st i q ext)) : okE (fnV N sb xs (S st i p ext)) Q E := by
  have hl : i < (S st i p ext).length := by rw [S_len]; omega
  have h' := h (S st i p ext) hl
  rw [S_S hi] at h'
  refine w_fn ?_
  cases q : sb (xs.map some ++ List.replicate (N - xs.length) none) (S st i p ext) with
  | nx σ1 st1 =>
    rw [q] at h'
    obtain ⟨⟨q1, ext', e⟩, h2⟩ := h'
    subst e
    show Q _ (List.take _ _)
    rw [S_take _ rfl, S_S hi]
    exact hQ _ _ h2
  | rt x s =>
    rw [q] at h'
    obtain ⟨d, q1, ext', e, hx, h2⟩ := h'
    subst e
    show okE (retA _ x _) Q E
    rcases hx with rfl | ⟨k, ds, rfl, e3, rfl⟩
    · exact w_retv (by rw [S_take _ rfl, S_S hi]) (hQ _ _ h2)
    · unfold retA
      have hb : ((A.ref ((S st i p ext).length + k)).below (S st i p ext).length = true) = False := by
        simp [A.below]
      rw [if_neg (by rw [hb]; exact id)]
      have hf : (A.ref ((S st i p ext).length + k)).frz (S (S st i p ext) i q1 ext') = some (.lst ds, (S (S st i p ext) i q1 ext').set ((S st i p ext).length + k) (.frz ds)) := by
        unfold A.frz
        dsimp only
        rw [S_get, e3]
        dsimp only
        rw [vals_map]
        rfl
      rw [hf]
      show Q _ (List.take _ _)
      rw [S_set, S_take _ rfl, S_S hi]
      exact hQ _ _ h2
  | bk x s => rw [q] at h'; exact h'
  | ct x s => rw [q] at h'; exact h'
  | err x y s => rw [q] at h'; exact h'.elim
  | bad => rw [q] at h'; exact h'
/-- a def without a pool: hands back data of P -/
theorem w_fnT (P : D → Prop) (h : okS (sb (xs.map some ++ List.replicate (N - xs.length) none) (T st []))
      ⟨fun _ st' => (∃ ext', st' = T st ext') ∧ P .non, fun x st' => RetT st x st' P, fun _ _ => False, fun _ _ => False, fun _ _ _ => False⟩)
    (hQ : ∀ d, P d → Q (.v d) st) : okE (fnV N sb xs st) Q E := by
  rw [T_nil] at h
  refine w_fn ?_
  cases q : sb (xs.map some ++ List.replicate (N - xs.length) none) st with
  | nx σ1 st1 =>
    rw [q] at h
    obtain ⟨⟨ext', e⟩, h2⟩ := h
    subst e
    show Q _ (List.take _ _)
    rw [T_take _ rfl]
    exact hQ _ h2
  | rt x s =>
    rw [q] at h
    obtain ⟨d, ext', e, hx, h2⟩ := h
    subst e
    show okE (retA _ x _) Q E
    rcases hx with rfl | ⟨k, ds, rfl, e3, rfl⟩
    · exact w_retv (by rw [T_take _ rfl]) (hQ _ h2)
    · unfold retA
      have hb : ((A.ref (st.length + k)).below st.length = true) = False := by
        simp [A.below]
      rw [if_neg (by rw [hb]; exact id)]
      have hf : (A.ref (st.length + k)).frz (T st ext') = some (.lst ds, (T st ext').set (st.length + k) (.frz ds)) := by
        unfold A.frz
        dsimp only
        rw [T_get, e3]
        dsimp only
        rw [vals_map]
        rfl
      rw [hf]
      show Q _ (List.take _ _)
      rw [T_set, T_take _ rfl]
      exact hQ _ h2
  | bk x s => rw [q] at h; exact h
  | ct x s => rw [q] at h; exact h
  | err x y s => rw [q] at h; exact h.elim
  | bad => rw [q] at h; exact h
abbrev Atk (xs : List A) (k : Nat) (Q : A → Prop) : Prop := ∃ z, xs[k]? = some z ∧ Q z
theorem atk_i {xs : List A} {k : Nat} {Q : A → Prop} {z : A} (h : xs[k]? = some z) (q : Q z) : Atk xs k Q := ⟨_, h, q⟩
theorem w_ix0 (h : okE (a σ st) (fun x st1 => Els st1 x fun xs => Atk xs 0 fun z => Q z st1) E) : okE (fIx a (fC (.int 0)) σ st) Q E :=
  w_ix (okE_mono h fun x st1 ⟨xs, h1, z, h2, h3⟩ => ⟨xs, 0, 0, z, h1, rfl, ixLit 0 ((List.getElem?_eq_some_iff.mp h2).1), h2, h3⟩)
theorem w_ix1 (h : okE (a σ st) (fun x st1 => Els st1 x fun xs => Atk xs 1 fun z => Q z st1) E) : okE (fIx a (fC (.int 1)) σ st) Q E :=
  w_ix (okE_mono h fun x st1 ⟨xs, h1, z, h2, h3⟩ => ⟨xs, 1, 1, z, h1, rfl, ixLit 1 ((List.getElem?_eq_some_iff.mp h2).1), h2, h3⟩)
theorem w_ix2 (h : okE (a σ st) (fun x st1 => Els st1 x fun xs => Atk xs 2 fun z => Q z st1) E) : okE (fIx a (fC (.int 2)) σ st) Q E :=
  w_ix (okE_mono h fun x st1 ⟨xs, h1, z, h2, h3⟩ => ⟨xs, 2, 2, z, h1, rfl, ixLit 2 ((List.getElem?_eq_some_iff.mp h2).1), h2, h3⟩)
theorem w_ix3 (h : okE (a σ st) (fun x st1 => Els st1 x fun xs => Atk xs 3 fun z => Q z st1) E) : okE (fIx a (fC (.int 3)) σ st) Q E :=
  w_ix (okE_mono h fun x st1 ⟨xs, h1, z, h2, h3⟩ => ⟨xs, 3, 3, z, h1, rfl, ixLit 3 ((List.getElem?_eq_some_iff.mp h2).1), h2, h3⟩)
theorem w_ix4 (h : okE (a σ st) (fun x st1 => Els st1 x fun xs => Atk xs 4 fun z => Q z st1) E) : okE (fIx a (fC (.int 4)) σ st) Q E :=
  w_ix (okE_mono h fun x st1 ⟨xs, h1, z, h2, h3⟩ => ⟨xs, 4, 4, z, h1, rfl, ixLit 4 ((List.getElem?_eq_some_iff.mp h2).1), h2, h3⟩)
theorem w_ix5 (h : okE (a σ st) (fun x st1 => Els st1 x fun xs => Atk xs 5 fun z => Q z st1) E) : okE (fIx a (fC (.int 5)) σ st) Q E :=
  w_ix (okE_mono h fun x st1 ⟨xs, h1, z, h2, h3⟩ => ⟨xs, 5, 5, z, h1, rfl, ixLit 5 ((List.getElem?_eq_some_iff.mp h2).1), h2, h3⟩)
theorem w_ix6 (h : okE (a σ st) (fun x st1 => Els st1 x fun xs => Atk xs 6 fun z => Q z st1) E) : okE (fIx a (fC (.int 6)) σ st) Q E :=
  w_ix (okE_mono h fun x st1 ⟨xs, h1, z, h2, h3⟩ => ⟨xs, 6, 6, z, h1, rfl, ixLit 6 ((List.getElem?_eq_some_iff.mp h2).1), h2, h3⟩)
theorem w_ix7 (h : okE (a σ st) (fun x st1 => Els st1 x fun xs => Atk xs 7 fun z => Q z st1) E) : okE (fIx a (fC (.int 7)) σ st) Q E :=
  w_ix (okE_mono h fun x st1 ⟨xs, h1, z, h2, h3⟩ => ⟨xs, 7, 7, z, h1, rfl, ixLit 7 ((List.getElem?_eq_some_iff.mp h2).1), h2, h3⟩)
theorem w_ix8 (h : okE (a σ st) (fun x st1 => Els st1 x fun xs => Atk xs 8 fun z => Q z st1) E) : okE (fIx a (fC (.int 8)) σ st) Q E :=
  w_ix (okE_mono h fun x st1 ⟨xs, h1, z, h2, h3⟩ => ⟨xs, 8, 8, z, h1, rfl, ixLit 8 ((List.getElem?_eq_some_iff.mp h2).1), h2, h3⟩)
theorem w_ix9 (h : okE (a σ st) (fun x st1 => Els st1 x fun xs => Atk xs 9 fun z => Q z st1) E) : okE (fIx a (fC (.int 9)) σ st) Q E :=
  w_ix (okE_mono h fun x st1 ⟨xs, h1, z, h2, h3⟩ => ⟨xs, 9, 9, z, h1, rfl, ixLit 9 ((List.getElem?_eq_some_iff.mp h2).1), h2, h3⟩)
theorem w_ix10 (h : okE (a σ st) (fun x st1 => Els st1 x fun xs => Atk xs 10 fun z => Q z st1) E) : okE (fIx a (fC (.int 10)) σ st) Q E :=
  w_ix (okE_mono h fun x st1 ⟨xs, h1, z, h2, h3⟩ => ⟨xs, 10, 10, z, h1, rfl, ixLit 10 ((List.getElem?_eq_some_iff.mp h2).1), h2, h3⟩)
theorem w_ix11 (h : okE (a σ st) (fun x st1 => Els st1 x fun xs => Atk xs 11 fun z => Q z st1) E) : okE (fIx a (fC (.int 11)) σ st) Q E :=
  w_ix (okE_mono h fun x st1 ⟨xs, h1, z, h2, h3⟩ => ⟨xs, 11, 11, z, h1, rfl, ixLit 11 ((List.getElem?_eq_some_iff.mp h2).1), h2, h3⟩)
theorem w_ix12 (h : okE (a σ st) (fun x st1 => Els st1 x fun xs => Atk xs 12 fun z => Q z st1) E) : okE (fIx a (fC (.int 12)) σ st) Q E :=
  w_ix (okE_mono h fun x st1 ⟨xs, h1, z, h2, h3⟩ => ⟨xs, 12, 12, z, h1, rfl, ixLit 12 ((List.getElem?_eq_some_iff.mp h2).1), h2, h3⟩)
theorem w_ix13 (h : okE (a σ st) (fun x st1 => Els st1 x fun xs => Atk xs 13 fun z => Q z st1) E) : okE (fIx a (fC (.int 13)) σ st) Q E :=
  w_ix (okE_mono h fun x st1 ⟨xs, h1, z, h2, h3⟩ => ⟨xs, 13, 13, z, h1, rfl, ixLit 13 ((List.getElem?_eq_some_iff.mp h2).1), h2, h3⟩)
theorem w_ix14 (h : okE (a σ st) (fun x st1 => Els st1 x fun xs => Atk xs 14 fun z => Q z st1) E) : okE (fIx a (fC (.int 14)) σ st) Q E :=
  w_ix (okE_mono h fun x st1 ⟨xs, h1, z, h2, h3⟩ => ⟨xs, 14, 14, z, h1, rfl, ixLit 14 ((List.getElem?_eq_some_iff.mp h2).1), h2, h3⟩)
theorem w_ix15 (h : okE (a σ st) (fun x st1 => Els st1 x fun xs => Atk xs 15 fun z => Q z st1) E) : okE (fIx a (fC (.int 15)) σ st) Q E :=
  w_ix (okE_mono h fun x st1 ⟨xs, h1, z, h2, h3⟩ => ⟨xs, 15, 15, z, h1, rfl, ixLit 15 ((List.getElem?_eq_some_iff.mp h2).1), h2, h3⟩)
end
end Dn

set_option linter.all false
set_option Elab.async false
set_option maxRecDepth 100000
/-! PreM: worlds as data, and that good ones are made. -/
set_option hygiene false
local macro_rules
  | `(tactic| repeat1' $s:tacticSeq) => `(tactic| repeat' (first | with_reducible refine w_seq ?_ | with_reducible refine w_set ?_ | with_reducible refine w_sif ?_ | with_reducible refine w_ret ?_ | with_reducible refine w_expr ?_ | with_reducible refine w_snil ?_ | with_reducible refine w_asg ?_ | with_reducible refine w_tcmp ?_ | with_reducible refine w_op ?_ | with_reducible refine w_C ?_ | with_reducible refine w_call ?_ | with_reducible refine w_cons ?_ | with_reducible refine w_nil ?_ | with_reducible refine w_tup ?_ | with_reducible refine w_B ?_ | with_reducible refine w_un ?_ | with_reducible refine w_frz ?_ | with_reducible refine w_disp ?_ | with_reducible refine w_liveS ?_ | with_reducible refine w_liveT ?_ | with_reducible refine w_fld ?_ | with_reducible refine w_ix0 ?_ | with_reducible refine w_ix1 ?_ | with_reducible refine w_ix2 ?_ | with_reducible refine w_ix3 ?_ | with_reducible refine w_ix4 ?_ | with_reducible refine w_ix5 ?_ | with_reducible refine w_ix6 ?_ | with_reducible refine w_ix7 ?_ | with_reducible refine w_ix8 ?_ | with_reducible refine w_ix9 ?_ | with_reducible refine w_ix10 ?_ | with_reducible refine w_ix11 ?_ | with_reducible refine w_ix12 ?_ | with_reducible refine w_ix13 ?_ | with_reducible refine w_ix14 ?_ | with_reducible refine w_ix15 ?_ | with_reducible refine w_tand ?_ | with_reducible refine w_tor ?_ | with_reducible refine w_tnot ?_ | with_reducible refine w_tyes ?_ | with_reducible refine w_tof ?_ | with_reducible refine w_if ?_ | with_reducible refine w_chain ?_ | with_reducible refine w_len ?_ | with_reducible refine w_isi ?_ | with_reducible refine w_opM ?_ | with_reducible refine w_unM ?_ | with_reducible refine w_bM ?_ | with_reducible refine w_met ?_ | with_reducible refine w_isC ?_ | with_reducible refine opM_int ?_ | with_reducible refine opM_lst ?_ | with_reducible refine opM_tup ?_ | with_reducible refine unM_int ?_ | with_reducible refine opM_obj ?_ | with_reducible refine unM_obj ?_ | with_reducible refine w_fand ?_ | with_reducible refine w_for_ ?_ | with_reducible refine w_fnot ?_ | with_reducible refine w_pass ?_ | with_reducible refine w_brk ?_ | with_reducible refine w_cont ?_ | with_reducible refine w_retN ?_ | with_reducible refine w_par ?_ | with_reducible refine w_appS ?_ | with_reducible refine w_appT ?_ | with_reducible refine w_tupX ?_ | with_reducible refine tuV_l ?_ | with_reducible refine tuV_t ?_ | with_reducible refine tuV_r ?_ | with_reducible refine w_lcall ?_ | with_reducible refine w_lrange1 ?_ | with_reducible refine w_list ?_ | with_reducible refine w_ixm ?_ | with_reducible refine w_ixv ?_ | with_reducible refine w_new ?_ | with_reducible refine w_sun ?_ | with_reducible refine w_slice1 ?_ | with_reducible refine w_sliceG ?_ | with_reducible refine slG_t ?_ | with_reducible refine slG_l ?_ | with_reducible refine w_sliceT ?_ | with_reducible refine w_sliceD ?_ | with_reducible refine slT_i ?_ | with_reducible refine slT_s ?_ | with_reducible refine w_dget ?_ | with_reducible refine w_sfor ?_ | with_reducible refine w_dic ?_ | with_reducible refine w_comp ?_ | with_reducible refine w_range1 ?_ | with_reducible refine w_range2 ?_ | with_reducible refine w_iseq ?_ | with_reducible refine w_ienum ?_ | with_reducible refine w_izip ?_ | with_reducible refine w_izip3 ?_ | with_reducible refine isq_l ?_ | with_reducible refine isq_t ?_ | with_reducible refine isq_r ?_ | with_reducible refine retS_v ?_ | with_reducible refine retT_v ?_ | ((with_reducible refine w_aug (x := ?_) ?_ ?_); rotate_left; rfl) | ((with_reducible refine aug_i (z := ?_) ?_ ?_); rotate_left; rfl) | with_reducible refine w_sum ?_ | with_reducible refine w_sumT ?_ | ((with_reducible refine visi_i (d := ?_) ?_ ?_ ?_); rotate_left; rfl; rfl) | ((with_reducible refine bmi_i ?_)) | ((with_reducible refine bmo_i ?_)) | ((with_reducible refine met_i ?_ ?_); rfl) | ((with_reducible refine isC_i (z := ?_) ?_ ?_); rotate_left; (first | exact isC_obj | exact isC_not rfl)) | ((with_reducible refine w_var (x := ?_) ?_ ?_); rotate_left; rfl) | with_reducible refine w_max2 (fun m h1 h2 h3 => ?_) | with_reducible refine w_min2 (fun m h1 h2 h3 => ?_) | with_reducible refine w_abs (fun m h1 h2 => ?_) | ((with_reducible refine w_of (z := ?_) ?_ ?_); rotate_left; rfl) | ((with_reducible refine frz_i (ds := ?_) (st2 := ?_) ?_ ?_); rotate_left; rotate_left; rfl; (try dsimp only)) | ((with_reducible refine els_i (xs := ?_) ?_ ?_); rotate_left; rfl) | ((with_reducible refine elsT_i (xs := ?_) ?_ ?_); rotate_left; rfl) | ((with_reducible refine elsS_i (xs := ?_) ?_ ?_); rotate_left; rfl) | ((with_reducible refine livT_i ?_ ?_); exact all_vals _ _) | ((with_reducible refine livS_i ?_ ?_); exact all_vals _ _) | ((with_reducible refine atk_i (z := ?_) ?_ ?_); rotate_left; rfl) | ((with_reducible refine boo_i (c := ?_) ?_ ?_); rotate_left; rfl) | with_reducible refine frz_i (frzL_vals _ _) ?_ | with_reducible refine frz_v ?_ | with_reducible refine frz_nil ?_ | ((with_reducible refine frzS_ref (ds := ?_) ?_ ?_); rotate_left; rfl) | ((with_reducible refine frzT_ref (ds := ?_) ?_ ?_); rotate_left; rfl) | with_reducible refine ixn_i ?_ | ((with_reducible refine sqd_i (ds := ?_) (g := ?_) ?_ ?_); rotate_left; rotate_left; rfl) | ((with_reducible refine rg1_i ?_ ?_); (first | omega | (simp only [List.length_map]; omega))) | ((with_reducible refine rg2_i ?_ ?_); omega) | ((with_reducible refine retS_r (ds := ?_) ?_ ?_); rotate_left; rfl) | ((with_reducible refine retT_r (ds := ?_) ?_ ?_); rotate_left; rfl) | ((with_reducible refine tgt_i (σ2 := ?_) (st2 := ?_) ?_ ?_); rotate_left; rotate_left; rfl; (try dsimp only)) | ((with_reducible refine vie_i (d := ?_) ?_ ⟨rfl, ?_⟩); rotate_left; rfl) | ((with_reducible refine w_mul ?_ ?_); (first | exact .inl (.inl (by omega)) | exact .inl (.inr (by omega)))) | ((with_reducible refine w_mod ?_ ?_); omega) | ((with_reducible refine w_div ?_ ?_); exact divOk_of (by omega) (by omega)) | ((with_reducible refine br_eqt (dec_pos ?_) ?_); (with_reducible rfl)) | ((with_reducible refine br_in2 (fun bh => ?_) (fun bh => ?_)) <;> try (exfalso; omega)) | ((with_reducible refine br_inS (dec_pos ?_) ?_); (first | exact .inl rfl | exact .inr rfl)) | ((with_reducible refine br_inS (dec_neg ?_) ?_); exact (fun q => q.elim (ne_str (by decide)) (ne_str (by decide)))) | ((with_reducible refine br_eqf (dec_neg ?_) ?_); (with_reducible exact ne_str (by decide))) | ((with_reducible refine br_dec (fun bh => ?_) (fun bh => ?_)) <;> try (exfalso; (try simp only [List.length_map, List.length_nil, List.length_cons] at bh); omega)) | with_reducible refine br_t ?_ | with_reducible refine br_f ?_ | with_reducible refine br_not ?_ | ((with_reducible refine br_eqt ?_ ?_); rfl) | ((with_reducible refine br_eqf ?_ ?_); rfl) | ((with_reducible refine livS_i ?_ ?_); (first | rfl | (simp; done))) | ((with_reducible refine livT_i ?_ ?_); (first | rfl | (simp; done))) | ((with_reducible refine apS1_i (xs0 := ?_) ?_ ?_); rotate_left; rfl) | ((with_reducible refine apT1_i (xs0 := ?_) ?_ ?_); rotate_left; rfl) | ((with_reducible refine apS2_i (xs0 := ?_) ?_ ?_ ?_); rotate_left; rfl; (first | (simp only [sizeMax, List.length_map, List.length_append, List.length_cons, List.length_nil]; omega) | skip)) | ((with_reducible refine apT2_i (xs0 := ?_) ?_ ?_ ?_); rotate_left; rfl; (first | (simp only [sizeMax, List.length_map, List.length_append, List.length_cons, List.length_nil]; omega) | skip)) | ((with_reducible refine tuS_i (ds := ?_) ?_ ?_); rotate_left; rfl) | ((with_reducible refine tuT_i (ds := ?_) ?_ ?_); rotate_left; rfl) | ((with_reducible refine draw_w (by assumption) ?_ ?_ (fun v q h1 h2 => ?_)); omega; omega) | with_reducible refine pick_i2 (by assumption) (fun v q h1 => ?_) | with_reducible refine pick_i3 (by assumption) (fun v q h1 => ?_) | with_reducible refine pick_i4 (by assumption) (fun v q h1 => ?_) | with_reducible refine pick_i5 (by assumption) (fun v q h1 => ?_) | with_reducible refine pick_i6 (by assumption) (fun v q h1 => ?_) | with_reducible refine pick_i7 (by assumption) (fun v q h1 => ?_) | with_reducible refine pick_i8 (by assumption) (fun v q h1 => ?_) | with_reducible refine pick_i9 (by assumption) (fun v q h1 => ?_) | ($s)))
set_option hygiene true
namespace PreW
open PySem Dn Pre
structure LineV where
  (a b weight rating peak hold burn backup reclose repair : Int)
structure PlantV where
  (node least most ramp share warm repair : Int)
  black : Bool
  (unit idle launch fuel : Int)
structure StoreV where
  (node capacity power loss charge : Int)
structure LoadV where
  (node rank patience : Int)
structure WorldV where
  nodes : Int
  lines : List LineV
  plants : List PlantV
  stores : List StoreV
  loads : List LoadV
  (hours beats : Int)
  weathers : List (List (List Int × List Int))
  (frail meters orders : List (Str × Int))
  handovers : List Int
  (lag rest tolerance : Int)
noncomputable def lineD (l : LineV) : D := .obj 0 [48, 49, 50, 51, 52, 53, 54, 55, 56, 57] [.int l.a, .int l.b, .int l.weight, .int l.rating, .int l.peak, .int l.hold, .int l.burn, .int l.backup, .int l.reclose, .int l.repair]
noncomputable def plantD (l : PlantV) : D := .obj 1 [58, 59, 60, 61, 62, 63, 57, 64, 65, 66, 67, 68] [.int l.node, .int l.least, .int l.most, .int l.ramp, .int l.share, .int l.warm, .int l.repair, .bl l.black, .int l.unit, .int l.idle, .int l.launch, .int l.fuel]
noncomputable def storeD (l : StoreV) : D := .obj 2 [58, 69, 70, 71, 72] [.int l.node, .int l.capacity, .int l.power, .int l.loss, .int l.charge]
noncomputable def loadD (l : LoadV) : D := .obj 3 [58, 73, 74] [.int l.node, .int l.rank, .int l.patience]
noncomputable def skyD (s : List Int × List Int) : D := .tup [.tup (s.1.map D.int), .tup (s.2.map D.int)]
noncomputable def itemD (s : Str × Int) : D := .tup [.str s.1, .int s.2]
noncomputable def worldL (w : WorldV) : List D := [.int w.nodes, .tup (w.lines.map lineD), .tup (w.plants.map plantD), .tup (w.stores.map storeD), .tup (w.loads.map loadD), .int w.hours, .int w.beats, .tup (w.weathers.map fun r => .tup (r.map skyD)),
  .tup (w.frail.map itemD), .tup (w.meters.map itemD), .tup (w.orders.map itemD), .tup (w.handovers.map D.int), .int w.lag, .int w.rest, .int w.tolerance]
noncomputable def worldD (w : WorldV) : D := .obj 4 [75, 76, 77, 78, 79, 80, 81, 82, 83, 84, 85, 86, 87, 88, 89] (worldL w)
def LineOk (n : Int) (l : LineV) : Prop := (0 ≤ l.a ∧ l.a < n) ∧ (0 ≤ l.b ∧ l.b < n ∧ l.b ≠ l.a) ∧ (1 ≤ l.weight ∧ l.weight ≤ 9) ∧ (0 ≤ l.rating ∧ l.rating ≤ 999) ∧ (l.rating ≤ l.peak ∧ l.peak ≤ 999) ∧ (1 ≤ l.hold ∧ l.hold ≤ 8) ∧ (l.hold < l.burn ∧ l.burn ≤ 9) ∧ (0 ≤ l.backup ∧ l.backup ≤ 4) ∧ (0 ≤ l.reclose ∧ l.reclose ≤ 4) ∧ (1 ≤ l.repair ∧ l.repair ≤ 6)
def PlantOk (n : Int) (l : PlantV) : Prop := (0 ≤ l.node ∧ l.node < n) ∧ (0 ≤ l.least ∧ l.least ≤ 60) ∧ (1 ≤ l.most ∧ l.least ≤ l.most ∧ l.most ≤ 60) ∧ (1 ≤ l.ramp ∧ l.ramp ≤ 60) ∧ (1 ≤ l.share ∧ l.share ≤ 9) ∧ (0 ≤ l.warm ∧ l.warm ≤ 4) ∧ (1 ≤ l.repair ∧ l.repair ≤ 6) ∧ (0 ≤ l.unit ∧ l.unit ≤ 99) ∧ (0 ≤ l.idle ∧ l.idle ≤ 99) ∧ (0 ≤ l.launch ∧ l.launch ≤ 99) ∧ (-1 ≤ l.fuel ∧ l.fuel ≤ 999)
def StoreOk (n : Int) (l : StoreV) : Prop := (0 ≤ l.node ∧ l.node < n) ∧ (0 ≤ l.capacity ∧ l.capacity ≤ 30) ∧ (0 ≤ l.power ∧ l.power ≤ 30) ∧ (l.loss = 0 ∨ (2 ≤ l.loss ∧ l.loss ≤ 9)) ∧ (0 ≤ l.charge ∧ l.charge ≤ l.capacity)
def LoadOk (n : Int) (l : LoadV) : Prop := (0 ≤ l.node ∧ l.node < n) ∧ (1 ≤ l.rank ∧ l.rank ≤ 9) ∧ (-1 ≤ l.patience ∧ l.patience ≤ 8)
abbrev yesL (xs : List Str) : D := .tup (xs.map fun x => .tup [.str x, .bl true])
section
variable {st : Store} {Q : A → Store → Prop} {E : Exc → Store → Prop}
theorem line_checks_w (n : Int) (l : LineV) (ok : LineOk n l) (h : ∀ xs, Q (.v (yesL xs)) st) : okE (d_line_checks [.v (.int n), .v (lineD l)] st) Q E := by
  obtain ⟨⟨a1, a2⟩, ⟨b1, b2, b3⟩, ⟨c1, c2⟩, ⟨d1, d2⟩, ⟨e1, e2⟩, ⟨f1, f2⟩, ⟨g1, g2⟩, ⟨i1, i2⟩, ⟨j1, j2⟩, ⟨k1, k2⟩⟩ := ok
  refine w_fnT (fun d => ∃ xs, d = yesL xs) ?_ fun d ⟨xs, e⟩ => by rw [e]; exact h xs
  unfold b_line_checks
  repeat1' fail
  refine ⟨["a", "b", "weight", "rating", "peak", "hold", "burn", "backup", "reclose", "repair"], ?_⟩
  simp only [yesL, List.map_cons, List.map_nil, dec_pos a2, dec_neg b3, dec_pos c2, dec_pos d2, dec_pos e2, dec_pos f2, dec_pos g2, dec_pos i2, dec_pos j2, dec_pos k2, Bool.not_false]
theorem plant_checks_w (n : Int) (l : PlantV) (ok : PlantOk n l) (h : ∀ xs, Q (.v (yesL xs)) st) : okE (d_plant_checks [.v (.int n), .v (plantD l)] st) Q E := by
  obtain ⟨⟨a1, a2⟩, ⟨b1, b2⟩, ⟨c1, c2, c3⟩, ⟨d1, d2⟩, ⟨e1, e2⟩, ⟨f1, f2⟩, ⟨g1, g2⟩, ⟨i1, i2⟩, ⟨j1, j2⟩, ⟨k1, k2⟩, ⟨l1, l2⟩⟩ := ok
  refine w_fnT (fun d => ∃ xs, d = yesL xs) ?_ fun d ⟨xs, e⟩ => by rw [e]; exact h xs
  unfold b_plant_checks
  repeat1' fail
  refine ⟨["node", "least", "most", "ramp", "share", "warm", "repair", "unit", "idle", "launch", "fuel"], ?_⟩
  simp only [yesL, List.map_cons, List.map_nil, dec_pos a2, dec_pos b2, dec_pos c3, dec_pos d2, dec_pos e2, dec_pos f2, dec_pos g2, dec_pos i2, dec_pos j2, dec_pos k2, dec_pos l2]
theorem store_checks_w (n : Int) (l : StoreV) (ok : StoreOk n l) (h : ∀ xs, Q (.v (yesL xs)) st) : okE (d_store_checks [.v (.int n), .v (storeD l)] st) Q E := by
  obtain ⟨⟨a1, a2⟩, ⟨b1, b2⟩, ⟨c1, c2⟩, d1, ⟨e1, e2⟩⟩ := ok
  refine w_fnT (fun d => ∃ xs, d = yesL xs) ?_ fun d ⟨xs, e⟩ => by rw [e]; exact h xs
  unfold b_store_checks
  repeat1' fail
  all_goals refine ⟨["node", "capacity", "power", "loss", "charge"], ?_⟩
  · simp only [yesL, List.map_cons, List.map_nil, dec_pos a2, dec_pos b2, dec_pos c2, dec_pos e2]
  · simp only [yesL, List.map_cons, List.map_nil, dec_pos a2, dec_pos b2, dec_pos c2, dec_pos e2, dec_pos (show l.loss ≤ 9 by omega)]
theorem load_checks_w (n : Int) (l : LoadV) (ok : LoadOk n l) (h : ∀ xs, Q (.v (yesL xs)) st) : okE (d_load_checks [.v (.int n), .v (loadD l)] st) Q E := by
  obtain ⟨⟨a1, a2⟩, ⟨b1, b2⟩, ⟨c1, c2⟩⟩ := ok
  refine w_fnT (fun d => ∃ xs, d = yesL xs) ?_ fun d ⟨xs, e⟩ => by rw [e]; exact h xs
  unfold b_load_checks
  repeat1' fail
  refine ⟨["node", "rank", "patience"], ?_⟩
  simp only [yesL, List.map_cons, List.map_nil, dec_pos a2, dec_pos b2, dec_pos c2]
theorem bad_number_w (f : Str) (v lo hi : Int) (h1 : lo ≤ v) (h2 : v ≤ hi) (h : Q (.v .non) st) : okE (d_bad_number [.v (.str f), .v (.int v), .v (.int lo), .v (.int hi)] st) Q E := by
  refine w_fnT (fun d => d = .non) ?_ fun d e => by rw [e]; exact h
  unfold b_bad_number
  repeat1' fail
  rfl
/-- no fault in a field of parts -/
theorem bad_parts_w (f : Str) (ds : List D) (most n : Int) (c : Nat) (g : List A → Store → RE A) (hg : (List.find? (fun p => decide (p.1 = c)) [(163, d_line_checks), (169, d_load_checks), (173, d_plant_checks), (180, d_store_checks)]) = some (c, g)) (hl : (ds.length : Int) ≤ most)
    (hc : ∀ d ∈ ds, ∀ (Q : A → Store → Prop) (E : Exc → Store → Prop), (∀ xs, Q (.v (yesL xs)) (T st [])) → okE (g [.v (.int n), .v d] (T st [])) Q E) (h : Q (.v .non) st) :
    okE (d_bad_parts [.v (.str f), .v (.tup ds), .v (.int most), .v (.fn c), .v (.int n)] st) Q E := by
  refine w_fnT (fun d => d = .non) ?_ fun d e => by rw [e]; exact h
  unfold b_bad_parts
  repeat1' fail
  refine ⟨fun j σ st' => ∃ t5 t6 t7 t8, σ = [some (.v (.str f)), some (.v (.tup ds)), some (.v (.int most)), some (.v (.fn c)), some (.v (.int n)), t5, t6, t7, t8] ∧ st' = T st [], ⟨_, _, _, _, rfl, rfl⟩, fun _ _ _ _ => trivial, ?_, ?_⟩
  · rintro j x σ st' hx ⟨t5, t6, t7, t8, rfl, rfl⟩
    obtain ⟨d, hd, rfl⟩ := enum0_get hx
    refine ⟨_, _, rfl, ?_⟩
    unfold l2_bad_parts
    refine w_sfor (w_iseq (w_callV rfl hg ?_))
    repeat1' fail
    refine hc d (List.mem_of_getElem? hd) _ _ fun xs => ?_
    repeat1' fail
    refine ⟨fun k σ st' => ∃ t5 t6 t7 t8, σ = [some (.v (.str f)), some (.v (.tup ds)), some (.v (.int most)), some (.v (.fn c)), some (.v (.int n)), t5, t6, t7, t8] ∧ st' = T st [], ⟨_, _, _, _, rfl, rfl⟩, fun _ _ _ _ => trivial, ?_, fun σ st' h => h⟩
    rintro k y σ st' hy ⟨t5, t6, t7, t8, rfl, rfl⟩
    obtain ⟨z, hz, rfl⟩ := map_get hy
    refine ⟨_, _, rfl, ?_⟩
    unfold l1_bad_parts
    repeat1' fail
    exact ⟨_, _, _, _, rfl, rfl⟩
  · rintro σ st' ⟨t5, t6, t7, t8, rfl, rfl⟩
    repeat1' fail
    rfl
def SkyOk (ps : List PlantV) (s : List Int × List Int) : Prop := (∀ d ∈ s.1, 0 ≤ d ∧ d ≤ 60) ∧ ∀ (j : Nat) (p : PlantV) (c : Int), ps[j]? = some p → s.2[j]? = some c → p.least ≤ c ∧ c ≤ 99
theorem weather_fits_w (ps : List PlantV) (s : List Int × List Int) (ok : SkyOk ps s) (h : Q (.v (.bl true)) st) : okE (d_weather_fits [.v (.tup (ps.map plantD)), .v (skyD s)] st) Q E := by
  refine w_fnT (fun d => d = .bl true) ?_ fun d e => by rw [e]; exact h
  unfold b_weather_fits
  repeat1' fail
  refine ⟨fun j σ st' => ∃ t4, σ = [some (.v (.tup (ps.map plantD))), some (.v (skyD s)), some (.v (.tup (s.1.map D.int))), some (.v (.tup (s.2.map D.int))), t4, none, none] ∧ st' = T st [], ⟨_, rfl, rfl⟩, fun _ _ _ _ => trivial, ?_, ?_⟩
  · rintro j x σ st' hx ⟨t4, rfl, rfl⟩
    obtain ⟨z, hz, rfl⟩ := map_get hx
    obtain ⟨z1, z2⟩ := ok.1 z (List.mem_of_getElem? hz)
    refine ⟨_, _, rfl, ?_⟩
    unfold l1_weather_fits
    repeat1' fail
    exact ⟨_, rfl, rfl⟩
  · rintro σ st' ⟨t4, rfl, rfl⟩
    repeat1' fail
    refine ⟨fun j σ st' => ∃ t5 t6, σ = [some (.v (.tup (ps.map plantD))), some (.v (skyD s)), some (.v (.tup (s.1.map D.int))), some (.v (.tup (s.2.map D.int))), t4, t5, t6] ∧ st' = T st [], ⟨_, _, rfl, rfl⟩, fun _ _ _ _ => ⟨trivial, trivial⟩, ?_, ?_⟩
    · rintro j x σ st' hx ⟨t5, t6, rfl, rfl⟩
      obtain ⟨d, e, hd, he, rfl⟩ := zipW_get _ _ _ _ hx
      obtain ⟨p, hp, rfl⟩ := mapD_get hd
      obtain ⟨c, hc, rfl⟩ := mapD_get he
      obtain ⟨z1, z2⟩ := ok.2 j p c hp hc
      refine ⟨_, _, rfl, ?_⟩
      unfold l2_weather_fits
      repeat1' fail
      exact ⟨_, _, rfl, rfl⟩
    · rintro σ st' ⟨t5, t6, rfl, rfl⟩
      repeat1' fail
      rfl
/-- a value that has the fields of a world -/
structure WF (x : A) (st : Store) (w : WorldV) : Prop where
  all : ∀ f d, fldL f [75, 76, 77, 78, 79, 80, 81, 82, 83, 84, 85, 86, 87, 88, 89] (worldL w) = some d → x.fld st f = some (.v d)
theorem bad_weathers_w (x : A) (w : WorldV) (hx : ∀ st', WF x (T st st') w) (h1 : (w.weathers.length : Int) = w.hours) (ok : ∀ r ∈ w.weathers, (1 ≤ (r.length : Int) ∧ (r.length : Int) ≤ 8) ∧ ∀ s ∈ r, SkyOk w.plants s) (h : Q (.v .non) st) : okE (d_bad_weathers [x] st) Q E := by
  have f82 : ∀ st', x.fld (T st st') 82 = some (.v (.tup (w.weathers.map fun r => .tup (r.map skyD)))) := fun st' => (hx st').all 82 _ rfl
  have f80 : ∀ st', x.fld (T st st') 80 = some (.v (.int w.hours)) := fun st' => (hx st').all 80 _ rfl
  have f77 : ∀ st', x.fld (T st st') 77 = some (.v (.tup (w.plants.map plantD))) := fun st' => (hx st').all 77 _ rfl
  refine w_fnT (fun d => d = .non) ?_ fun d e => by rw [e]; exact h
  unfold b_bad_weathers
  repeat1' (first | with_reducible refine w_of (f82 _) ?_ | with_reducible refine w_of (f80 _) ?_ | with_reducible refine w_of (f77 _) ?_)
  refine ⟨fun j σ st' => ∃ t1 t2 t3, σ = [some x, t1, t2, t3] ∧ st' = T st [], ⟨_, _, _, rfl, rfl⟩, fun _ _ _ _ => trivial, ?_, ?_⟩
  · rintro j y σ st' hy ⟨t1, t2, t3, rfl, rfl⟩
    obtain ⟨d, hd, rfl⟩ := enum0_get hy
    obtain ⟨r, hr, rfl⟩ := mapD_get hd
    obtain ⟨⟨r1, r2⟩, r3⟩ := ok r (List.mem_of_getElem? hr)
    refine ⟨_, _, rfl, ?_⟩
    unfold l2_bad_weathers
    repeat1' fail
    refine ⟨fun k σ st' => ∃ t3, σ = [some x, some (.v (.int (j : Int))), some (.v (.tup (r.map skyD))), t3] ∧ st' = T st [], ⟨_, rfl, rfl⟩, fun _ _ _ _ => trivial, ?_, ?_⟩
    · rintro k y σ st' hy ⟨t3, rfl, rfl⟩
      obtain ⟨z, hz, rfl⟩ := map_get hy
      refine ⟨_, _, rfl, ?_⟩
      unfold l1_bad_weathers
      repeat1' (first | with_reducible refine w_of (f77 _) ?_ | refine weather_fits_w _ _ (r3 z (List.mem_of_getElem? hz)) ?_)
      exact ⟨_, rfl, rfl⟩
    · rintro σ st' ⟨t3, rfl, rfl⟩
      exact ⟨_, _, _, rfl, rfl⟩
  · rintro σ st' ⟨t1, t2, t3, rfl, rfl⟩
    repeat1' fail
    rfl
/-- ascending clocks above last, below n -/
def HandOk (n : Int) : Int → List Int → Prop
  | _, [] => True
  | last, c :: r => last < c ∧ c < n ∧ HandOk n c r
theorem handOk_at {n : Int} : ∀ {last : Int} {l : List Int} {j : Nat} {c : Int}, HandOk n last l → l[j]? = some c → (l.take j).getLast?.getD last < c ∧ c < n
  | _, [], _, _, _, h => by simp at h
  | last, a :: r, 0, c, h, e => by
    simp at e
    subst e
    exact ⟨h.1, h.2.1⟩
  | last, a :: r, j + 1, c, h, e => by
    have := handOk_at h.2.2 (by simpa using e)
    rw [List.take_succ_cons, List.getLast?_cons]
    simpa using this
theorem bad_handovers_w (x : A) (w : WorldV) (hx : ∀ st', WF x (T st st') w) (hh : 1 ≤ w.hours ∧ w.hours ≤ 24) (hb : 1 ≤ w.beats ∧ w.beats ≤ 4) (ok : HandOk (w.hours * w.beats) (-1) w.handovers) (h : Q (.v .non) st) : okE (d_bad_handovers [x] st) Q E := by
  have f86 : ∀ st', x.fld (T st st') 86 = some (.v (.tup (w.handovers.map D.int))) := fun st' => (hx st').all 86 _ rfl
  have f80 : ∀ st', x.fld (T st st') 80 = some (.v (.int w.hours)) := fun st' => (hx st').all 80 _ rfl
  have f81 : ∀ st', x.fld (T st st') 81 = some (.v (.int w.beats)) := fun st' => (hx st').all 81 _ rfl
  refine w_fnT (fun d => d = .non) ?_ fun d e => by rw [e]; exact h
  unfold b_bad_handovers
  repeat1' (first | with_reducible refine w_of (f86 _) ?_ | with_reducible refine w_of (f80 _) ?_ | with_reducible refine w_of (f81 _) ?_)
  refine ⟨fun j σ st' => ∃ t2, σ = [some x, some (.v (.int ((w.handovers.take j).getLast?.getD (-1)))), t2] ∧ st' = T st [], ⟨_, rfl, rfl⟩, fun _ _ _ _ => trivial, ?_, ?_⟩
  · rintro j y σ st' hy ⟨t2, rfl, rfl⟩
    obtain ⟨c, hc, rfl⟩ := map_get hy
    obtain ⟨c1, c2⟩ := handOk_at ok hc
    refine ⟨_, _, rfl, ?_⟩
    unfold l1_bad_handovers
    repeat1' (first | with_reducible refine w_of (f86 _) ?_ | with_reducible refine w_of (f80 _) ?_ | with_reducible refine w_of (f81 _) ?_)
    have e : (w.handovers.take (j + 1)).getLast?.getD (-1) = c := by
      rw [List.take_succ, hc]
      simp
    refine ⟨some (.v (.int c)), ?_, rfl⟩
    rw [e]
    rfl
  · rintro σ st' ⟨t2, rfl, rfl⟩
    repeat1' fail
    rfl
theorem bad_lines_w (f : Str) (n : Int) (ls : List LineV) (hl : ls.length ≤ 10) (ok : ∀ l ∈ ls, LineOk n l) (h : Q (.v .non) st) : okE (d_bad_parts [.v (.str f), .v (.tup (ls.map lineD)), .v (.int 10), .v (.fn 163), .v (.int n)] st) Q E :=
  bad_parts_w f _ 10 n 163 _ rfl (by rw [List.length_map]; omega) (fun d hd Q E hq => by
    obtain ⟨l, hl, rfl⟩ := List.mem_map.mp hd
    exact line_checks_w n l (ok l hl) hq) h
theorem bad_plants_w (f : Str) (n : Int) (ls : List PlantV) (hl : ls.length ≤ 5) (ok : ∀ l ∈ ls, PlantOk n l) (h : Q (.v .non) st) : okE (d_bad_parts [.v (.str f), .v (.tup (ls.map plantD)), .v (.int 5), .v (.fn 173), .v (.int n)] st) Q E :=
  bad_parts_w f _ 5 n 173 _ rfl (by rw [List.length_map]; omega) (fun d hd Q E hq => by
    obtain ⟨l, hl, rfl⟩ := List.mem_map.mp hd
    exact plant_checks_w n l (ok l hl) hq) h
theorem bad_stores_w (f : Str) (n : Int) (ls : List StoreV) (hl : ls.length ≤ 3) (ok : ∀ l ∈ ls, StoreOk n l) (h : Q (.v .non) st) : okE (d_bad_parts [.v (.str f), .v (.tup (ls.map storeD)), .v (.int 3), .v (.fn 180), .v (.int n)] st) Q E :=
  bad_parts_w f _ 3 n 180 _ rfl (by rw [List.length_map]; omega) (fun d hd Q E hq => by
    obtain ⟨l, hl, rfl⟩ := List.mem_map.mp hd
    exact store_checks_w n l (ok l hl) hq) h
theorem bad_loads_w (f : Str) (n : Int) (ls : List LoadV) (hl : ls.length ≤ 6) (ok : ∀ l ∈ ls, LoadOk n l) (h : Q (.v .non) st) : okE (d_bad_parts [.v (.str f), .v (.tup (ls.map loadD)), .v (.int 6), .v (.fn 169), .v (.int n)] st) Q E :=
  bad_parts_w f _ 6 n 169 _ rfl (by rw [List.length_map]; omega) (fun d hd Q E hq => by
    obtain ⟨l, hl, rfl⟩ := List.mem_map.mp hd
    exact load_checks_w n l (ok l hl) hq) h
end
end PreW

set_option linter.all false
set_option Elab.async false
set_option maxRecDepth 100000
/-! PreI: items of a world. -/
namespace Dn
open PySem Pre
theorem str_inj {a b : String} (h : Str.ofString a = Str.ofString b) : a = b := by
  rw [Str.ofString_eq_toList, Str.ofString_eq_toList] at h
  injection h with h
  have h1 : a.toList.map Char.toNat = b.toList.map Char.toNat := by simpa using h
  have h2 : a.toList = b.toList := (List.map_inj_right fun x y q => Char.ext (UInt32.toNat_inj.mp q)).mp h1
  exact String.toList_inj.mp h2
theorem ne_str {a b : String} (h : a ≠ b) : ¬ Str.ofString a = Str.ofString b := fun q => h (str_inj q)
abbrev SlT (x y : A) (R : List D → Nat → Prop) : Prop := ∃ ds, ∃ j : Nat, x = .v (.tup ds) ∧ y = .v (.int j) ∧ R ds j
theorem slT_i {ds : List D} {j : Nat} {R : List D → Nat → Prop} (r : R ds j) : SlT (.v (.tup ds)) (.v (.int j)) R := ⟨_, _, rfl, rfl, r⟩
section
variable {σ : Env} {st : Store} {Q : A → Store → Prop} {E : Exc → Store → Prop} {a b e : EF}
/-- x[:e] of a tuple -/
theorem w_sliceT (h : okE (a σ st) (fun x st1 => okE (e σ st1) (fun y st2 => SlT x y fun ds j => Q (.v (.tup (ds.take j))) st2) E) E) : okE (fSlice a none (some e) σ st) Q E := by
  refine okE_bind (okE_mono h fun x st1 q => ?_)
  show okE ((optI (some e) σ st1).bind fun u st3 => match x.view st3 with
    | some (.tup ds) => RE.ok (.v (.tup (cutD ds none u))) st3
    | some (.lst ds) => RE.ok (.v (.lst (cutD ds none u))) st3
    | _ => .bad) Q E
  refine okE_bind (okE_bind (okE_mono q fun y st2 ⟨ds, j, h1, h2, h3⟩ => ?_))
  subst h1 h2
  have e1 : cutD ds none (some (j : Int)) = ds.take j := by
    have q1 : sI ds.length ds.length (some (j : Int)) = min j ds.length := (gd_neg (by omega) _ _).trans (by rw [Int.toNat_natCast])
    have q2 : sI ds.length 0 none = 0 := rfl
    unfold cutD
    rw [q1, q2, List.drop_zero, Nat.sub_zero, List.take_eq_take_iff]
    omega
  show Q (.v (.tup (cutD ds none (some (j : Int))))) st2
  rw [e1]
  exact h3
/-- x[e:] of a tuple -/
theorem w_sliceD (h : okE (a σ st) (fun x st1 => okE (e σ st1) (fun y st2 => SlT x y fun ds j => Q (.v (.tup (ds.drop j))) st2) E) E) : okE (fSlice a (some e) none σ st) Q E := by
  refine okE_bind (okE_mono h fun x st1 q => ?_)
  show okE ((optI (some e) σ st1).bind fun l st2 => RE.bind (.ok none st2) fun u st3 => match x.view st3 with
    | some (.tup ds) => RE.ok (.v (.tup (cutD ds l u))) st3
    | some (.lst ds) => RE.ok (.v (.lst (cutD ds l u))) st3
    | _ => .bad) Q E
  refine okE_bind (okE_bind (okE_mono q fun y st2 ⟨ds, j, h1, h2, h3⟩ => ?_))
  subst h1 h2
  have e1 : cutD ds (some (j : Int)) none = ds.drop j := by
    have q1 : sI ds.length 0 (some (j : Int)) = min j ds.length := (gd_neg (by omega) _ _).trans (by rw [Int.toNat_natCast])
    have q2 : sI ds.length ds.length none = ds.length := rfl
    unfold cutD
    rw [q1, q2]
    by_cases hj : j ≤ ds.length
    · rw [Nat.min_eq_left hj, List.take_of_length_le (by simp)]
    · rw [Nat.min_eq_right (by omega), List.drop_eq_nil_of_le (Nat.le_refl _), List.drop_eq_nil_of_le (by omega), List.take_nil]
  show Q (.v (.tup (cutD ds (some (j : Int)) none))) st2
  rw [e1]
  exact h3
theorem set_cut {α : Type} (ds : List α) (n : Nat) (d : α) (h : n < ds.length) : ds.take n ++ [d] ++ ds.drop (n + 1) = ds.set n d := by
  rw [List.set_eq_take_append_cons_drop, if_pos h, List.append_assoc]
  rfl
theorem slT_s {ds : List D} {j : Nat} {R : List D → Nat → Prop} (r : R ds (j + 1)) : SlT (.v (.tup ds)) (.v (.int ((j : Int) + 1))) R := ⟨_, j + 1, rfl, by simp, r⟩
theorem w_catT2 {st : Store} {Q : A → Store → Prop} {E : Exc → Store → Prop} {ds : List D} {n : Nat} {d : D} (h : n < ds.length) (hl : ds.length ≤ sizeMax) (q : Q (.v (.tup (ds.set n d))) st) : okE (RE.of (((A.v (.tup (ds.take n ++ [d]))).view st).bind fun x => ((A.v (.tup (ds.drop (n + 1)))).view st).bind fun e => (oAddU x e).map .v) st) Q E :=
  w_catT (by simp only [List.length_append, List.length_take, List.length_drop, List.length_cons, List.length_nil]; omega) (by rw [set_cut ds n d h]; exact q)
theorem w_catT1 {st : Store} {Q : A → Store → Prop} {E : Exc → Store → Prop} {ds : List D} {n : Nat} {d : D} (hl : ds.length < sizeMax) (q : Q (.v (.tup (ds.take n ++ [d]))) st) : okE (RE.of (((A.v (.tup (ds.take n))).view st).bind fun x => ((A.v (.tup [d])).view st).bind fun e => (oAddU x e).map .v) st) Q E :=
  w_catT (by simp only [List.length_take, List.length_cons, List.length_nil]; omega) q
theorem br_str {x y : Str} {p q : Prop} (h1 : x = y → p) (h2 : x ≠ y → q) : Br (dec (x = y)) p q := br_dec h1 h2
abbrev DgT (x y : A) (R : D → Prop) : Prop := ∃ ks ds z d, x = .v (.dic ks ds) ∧ y = .v (.str z) ∧ dicGet z ks ds = some d ∧ R d
theorem dgT_i {ks : List Str} {ds : List D} {z : Str} {d : D} {R : D → Prop} (h : dicGet z ks ds = some d) (r : R d) : DgT (.v (.dic ks ds)) (.v (.str z)) R := ⟨_, _, _, _, rfl, rfl, h, r⟩
theorem w_dget (h : okE (a σ st) (fun x st1 => okE (b σ st1) (fun y st2 => DgT x y fun d => Q (.v d) st2) E) E) : okE (fDget a b σ st) Q E := by
  refine okE_bind (okE_mono h fun x st1 q => okE_bind (okE_mono q fun y st2 ⟨ks, ds, z, d, h1, h2, h3, h4⟩ => ?_))
  subst h1 h2
  exact w_of (by rw [h3]; rfl) h4
end
end Dn
namespace PreW
open PySem Dn Pre
abbrev Item := Str × Int
def tbGet (x : Str) : List Item → Option Int
  | [] => none
  | t :: r => if t.1 = x then some t.2 else tbGet x r
theorem dic_get {x : Str} {b : Int} : ∀ {tb : List Item}, tbGet x tb = some b → dicGet x (tb.map (·.1)) (tb.map fun t => .int t.2) = some (.int b) ∧ hasK x (tb.map (·.1)) = true
  | [], h => by cases h
  | t :: r, h => by
    unfold tbGet at h
    by_cases q : t.1 = x
    · rw [if_pos q] at h
      cases h
      refine ⟨?_, ?_⟩
      · show (if dec (t.1 = x) = true then some (D.int t.2) else _) = _
        rw [dec_pos q]; rfl
      · show (dec (t.1 = x) || _) = true
        rw [dec_pos q]; rfl
    · rw [if_neg q] at h
      obtain ⟨h1, h2⟩ := dic_get h
      refine ⟨?_, ?_⟩
      · show (if dec (t.1 = x) = true then some (D.int t.2) else dicGet x (r.map (·.1)) (r.map fun t => .int t.2)) = _
        rw [dec_neg q, if_neg (by decide)]; exact h1
      · show (dec (t.1 = x) || hasK x (r.map (·.1))) = true
        rw [h2]; simp
theorem eqDD_item (a b : Item) : eqDD (itemD a) (itemD b) = (a.1 == b.1 && (a.2 == b.2 && true)) := by
  unfold eqDD itemD
  simp [toPy, toPyL, PyData.eqv, PyData.eqvAll]
def wordOk (x : Str) : Prop := PyData.canLay0 (.str x) = true
theorem lay_items : ∀ xs : List Item, (∀ x ∈ xs, wordOk x.1) → PyData.canLayAll0 (toPyL (xs.map itemD)) = true ∧ PyData.depthAll (toPyL (xs.map itemD)) ≤ 1
  | [], _ => by refine ⟨?_, ?_⟩ <;> simp [toPyL, PyData.canLayAll0, PyData.depthAll]
  | x :: r, h => by
    obtain ⟨h1, h2⟩ := lay_items r fun y hy => h y (List.mem_cons_of_mem _ hy)
    have h3 : PyData.canLay0 (.str x.1) = true := h x (List.mem_cons_self ..)
    refine ⟨?_, ?_⟩
    · simp only [List.map_cons, toPyL, itemD, toPy, PyData.canLayAll0, PyData.canLay0, Bool.and_true, Bool.and_eq_true]
      exact ⟨by simpa [PyData.canLay0] using h3, h1⟩
    · simp only [List.map_cons, toPyL, itemD, toPy, PyData.depthAll, PyData.depth]
      omega
theorem shp_items {xs : List Item} (h : ∀ x ∈ xs, wordOk x.1) : shp (.tup (xs.map itemD)) := by
  obtain ⟨h1, h2⟩ := lay_items xs h
  unfold shp SeqAt.shaped
  rw [show toPy (.tup (xs.map itemD)) = .tuple (toPyL (xs.map itemD)) by simp [toPy]]
  refine Bool.and_eq_true_iff.mpr ⟨by rw [show PyData.canLay0 (.tuple (toPyL (xs.map itemD))) = PyData.canLayAll0 (toPyL (xs.map itemD)) by simp [PyData.canLay0]]; exact h1, decide_eq_true ?_⟩
  rw [show PyData.depth (.tuple (toPyL (xs.map itemD))) = PyData.depthAll (toPyL (xs.map itemD)) + 1 by simp [PyData.depth]]
  omega
theorem shp_item {x : Item} (h : wordOk x.1) : shp (itemD x) := by
  unfold shp SeqAt.shaped itemD
  have h3 : PyData.canLay0 (.str x.1) = true := h
  simp only [toPy, toPyL, PyData.canLay0, PyData.canLayAll0, PyData.depth, PyData.depthAll, Bool.and_true, Bool.and_eq_true, decide_eq_true_eq]
  exact ⟨by simpa [PyData.canLay0] using h3, by omega⟩
/-- an item in a tuple of items -/
theorem in_items {x : Item} {xs : List Item} (hx : wordOk x.1) (h : ∀ y ∈ xs, wordOk y.1) : oInG (itemD x) (.tup (xs.map itemD)) = some (.bl (xs.any fun y => y.1 == x.1 && y.2 == x.2)) := by
  have h1 : oInU (itemD x) (.tup (xs.map itemD)) = none := by
    show (if flatD (itemD x) = true ∧ (xs.map itemD).all flatD = true then some (D.bl (inF (itemD x) (xs.map itemD))) else none) = none
    exact if_neg fun q => by cases q.1
  unfold oInG
  rw [h1]
  dsimp only
  rw [gd_pos ⟨shp_item hx, shp_items h⟩, List.any_map]
  congr 3
  funext y
  show eqDD (itemD y) (itemD x) = _
  rw [eqDD_item, Bool.and_true]
structure ItemsOk (most : Int) (tb xs : List Item) : Prop where
  len : (xs.length : Int) ≤ most
  nd : ∀ (j k : Nat) (x : Item), xs[j]? = some x → xs[k]? = some x → j = k
  at_ : ∀ x ∈ xs, wordOk x.1 ∧ ∃ b, tbGet x.1 tb = some b ∧ 0 ≤ x.2 ∧ x.2 < b
theorem items_nil {most : Int} {tb : List Item} (h : 0 ≤ most) : ItemsOk most tb [] := ⟨h, fun j k x e => by simp at e, fun x hx => by cases hx⟩
section
variable {st : Store} {Q : A → Store → Prop} {E : Exc → Store → Prop}
theorem bad_items_w (f : Str) (most : Int) (tb xs : List Item) (ok : ItemsOk most tb xs) (h : Q (.v .non) st) : okE (d_bad_items [.v (.str f), .v (.tup (xs.map itemD)), .v (.int most), .v (.dic (tb.map (·.1)) (tb.map fun t => .int t.2))] st) Q E := by
  have hl := ok.len
  refine w_fnT (fun d => d = .non) ?_ fun d e => by rw [e]; exact h
  unfold b_bad_items
  repeat1' fail
  refine ⟨fun j σ st' => ∃ t4 t5 t6 t7, σ = [some (.v (.str f)), some (.v (.tup (xs.map itemD))), some (.v (.int most)), some (.v (.dic (tb.map (·.1)) (tb.map fun t => .int t.2))), t4, t5, t6, t7] ∧ st' = T st [], ⟨_, _, _, _, rfl, rfl⟩, fun _ _ _ _ => trivial, ?_, ?_⟩
  · rintro j y σ st' hy ⟨t4, t5, t6, t7, rfl, rfl⟩
    obtain ⟨d, hd, rfl⟩ := enum0_get hy
    obtain ⟨x, hx, rfl⟩ := mapD_get hd
    have hw := (ok.at_ x (List.mem_of_getElem? hx)).1
    have hin : (oInG (itemD x) (.tup ((xs.map itemD).take j))).map A.v = some (.v (.bl false)) := by
      rw [← List.map_take, in_items hw fun y hy => (ok.at_ y (List.mem_of_mem_take hy)).1]
      have : ((xs.take j).any fun y => y.1 == x.1 && y.2 == x.2) = false := by
        rw [List.any_eq_false]
        intro y2 hy2 hq
        simp only [Bool.and_eq_true, beq_iff_eq] at hq
        have hyx : y2 = x := Prod.ext hq.1 hq.2
        rw [hyx] at hy2
        obtain ⟨k, hk⟩ := List.mem_iff_getElem?.mp hy2
        rw [List.getElem?_take] at hk
        split at hk
        · have := ok.nd k j x hk hx
          omega
        · cases hk
      rw [this]
      rfl
    refine ⟨_, _, rfl, ?_⟩
    unfold l1_bad_items
    repeat1' (first | refine w_sliceT ?_ | refine slT_i ?_ | refine w_of hin ?_)
    exact ⟨_, _, _, _, rfl, rfl⟩
  · rintro σ st' ⟨t4, t5, t6, t7, rfl, rfl⟩
    repeat1' fail
    refine ⟨fun j σ st' => ∃ t4 t5 t6 t7, σ = [some (.v (.str f)), some (.v (.tup (xs.map itemD))), some (.v (.int most)), some (.v (.dic (tb.map (·.1)) (tb.map fun t => .int t.2))), t4, t5, t6, t7] ∧ st' = T st [], ⟨_, _, _, _, rfl, rfl⟩, fun _ _ _ _ => trivial, ?_, ?_⟩
    · rintro j y σ st' hy ⟨t4, t5, t6, t7, rfl, rfl⟩
      obtain ⟨d, hd, rfl⟩ := enum0_get hy
      obtain ⟨x, hx, rfl⟩ := mapD_get hd
      obtain ⟨hw, b, hb, b1, b2⟩ := ok.at_ x (List.mem_of_getElem? hx)
      obtain ⟨g1, g2⟩ := dic_get hb
      refine ⟨_, _, rfl, ?_⟩
      unfold l2_bad_items
      repeat1' (first | refine w_dget ?_ | refine dgT_i g1 ?_ | refine br_eqt g2 ?_)
      exact ⟨_, _, _, _, rfl, rfl⟩
    · rintro σ st' ⟨t4, t5, t6, t7, rfl, rfl⟩
      repeat1' fail
      rfl
end
end PreW

set_option linter.all false
set_option Elab.async false
set_option maxRecDepth 100000
/-! PreN: good worlds are made. -/
namespace PreW
open PySem Dn Pre
section
variable {st : Store} {Q : A → Store → Prop} {E : Exc → Store → Prop}
structure WOk (w : WorldV) : Prop where
  nodes : 1 ≤ w.nodes ∧ w.nodes ≤ 8
  lines : w.lines.length ≤ 10 ∧ ∀ l ∈ w.lines, LineOk w.nodes l
  plants : w.plants.length ≤ 5 ∧ ∀ l ∈ w.plants, PlantOk w.nodes l
  stores : w.stores.length ≤ 3 ∧ ∀ l ∈ w.stores, StoreOk w.nodes l
  loads : w.loads.length ≤ 6 ∧ ∀ l ∈ w.loads, LoadOk w.nodes l
  hours : 1 ≤ w.hours ∧ w.hours ≤ 24
  beats : 1 ≤ w.beats ∧ w.beats ≤ 4
  weathers : (w.weathers.length : Int) = w.hours ∧ ∀ r ∈ w.weathers, (1 ≤ (r.length : Int) ∧ (r.length : Int) ≤ 8) ∧ ∀ s ∈ r, SkyOk w.plants s
  items : ItemsOk 6 [("line", w.lines.length), ("relay", w.lines.length), ("plant", w.plants.length)] w.frail ∧ ItemsOk 4 [("line", w.lines.length), ("plant", w.plants.length), ("load", w.loads.length), ("store", w.stores.length)] w.meters ∧
    ItemsOk 5 [("close", w.lines.length), ("open", w.lines.length), ("start", w.plants.length), ("stop", w.plants.length), ("raise", w.plants.length), ("lower", w.plants.length), ("free", w.plants.length)] w.orders
  hand : HandOk (w.hours * w.beats) (-1) w.handovers
  lag : 0 ≤ w.lag ∧ w.lag ≤ 2
  rest : 1 ≤ w.rest ∧ w.rest ≤ 20
  tol : 0 ≤ w.tolerance ∧ w.tolerance ≤ 99
set_option maxHeartbeats 0 in
theorem bad_place_w (x : A) (w : WorldV) (hx : ∀ st', WF x (T st st') w) (ok : WOk w) (h : Q (.v .non) st) : okE (d_bad_place [x] st) Q E := by
  have hx2 : ∀ st' : Store, (∃ e, st' = T st e) → ∀ st2, WF x (T st' st2) w := fun st' ⟨e, he⟩ st2 => by
    subst he
    rw [show T (T st e) st2 = T st (e ++ st2) from T_app st2]
    exact hx _
  have f75 : ∀ st', x.fld (T st st') 75 = some (.v (.int w.nodes)) := fun st' => (hx st').all 75 _ rfl
  have f76 : ∀ st', x.fld (T st st') 76 = some (.v (.tup (w.lines.map lineD))) := fun st' => (hx st').all 76 _ rfl
  have f77 : ∀ st', x.fld (T st st') 77 = some (.v (.tup (w.plants.map plantD))) := fun st' => (hx st').all 77 _ rfl
  have f78 : ∀ st', x.fld (T st st') 78 = some (.v (.tup (w.stores.map storeD))) := fun st' => (hx st').all 78 _ rfl
  have f79 : ∀ st', x.fld (T st st') 79 = some (.v (.tup (w.loads.map loadD))) := fun st' => (hx st').all 79 _ rfl
  have f80 : ∀ st', x.fld (T st st') 80 = some (.v (.int w.hours)) := fun st' => (hx st').all 80 _ rfl
  have f81 : ∀ st', x.fld (T st st') 81 = some (.v (.int w.beats)) := fun st' => (hx st').all 81 _ rfl
  have f83 : ∀ st', x.fld (T st st') 83 = some (.v (.tup (w.frail.map itemD))) := fun st' => (hx st').all 83 _ rfl
  have f84 : ∀ st', x.fld (T st st') 84 = some (.v (.tup (w.meters.map itemD))) := fun st' => (hx st').all 84 _ rfl
  have f85 : ∀ st', x.fld (T st st') 85 = some (.v (.tup (w.orders.map itemD))) := fun st' => (hx st').all 85 _ rfl
  have f87 : ∀ st', x.fld (T st st') 87 = some (.v (.int w.lag)) := fun st' => (hx st').all 87 _ rfl
  have f88 : ∀ st', x.fld (T st st') 88 = some (.v (.int w.rest)) := fun st' => (hx st').all 88 _ rfl
  have f89 : ∀ st', x.fld (T st st') 89 = some (.v (.int w.tolerance)) := fun st' => (hx st').all 89 _ rfl
  obtain ⟨⟨n1, n2⟩, ⟨l1, l2⟩, ⟨p1, p2⟩, ⟨s1, s2⟩, ⟨o1, o2⟩, ⟨h1, h2⟩, ⟨b1, b2⟩, ⟨w1, w2⟩, ⟨i1, i2, i3⟩, hh, ⟨g1, g2⟩, ⟨r1, r2⟩, ⟨t1, t2⟩⟩ := ok
  have hx3 := hx2 (T st []) ⟨[], rfl⟩
  refine w_fnT (fun d => d = .non) ?_ fun d e => by rw [e]; exact h
  unfold b_bad_place
  repeat1' (first | (first | with_reducible refine w_of (f75 _) ?_ | with_reducible refine w_of (f76 _) ?_ | with_reducible refine w_of (f77 _) ?_ | with_reducible refine w_of (f78 _) ?_ | with_reducible refine w_of (f79 _) ?_ | with_reducible refine w_of (f80 _) ?_ | with_reducible refine w_of (f81 _) ?_ | with_reducible refine w_of (f83 _) ?_ | with_reducible refine w_of (f84 _) ?_ | with_reducible refine w_of (f85 _) ?_ | with_reducible refine w_of (f87 _) ?_ | with_reducible refine w_of (f88 _) ?_ | with_reducible refine w_of (f89 _) ?_) | (refine bad_number_w _ _ _ _ ?_ ?_ ?_; omega; omega) | refine bad_lines_w _ _ _ l1 l2 ?_ | refine bad_plants_w _ _ _ p1 p2 ?_ | refine bad_stores_w _ _ _ s1 s2 ?_ | refine bad_loads_w _ _ _ o1 o2 ?_ | refine bad_weathers_w x w hx3 w1 w2 ?_ | ((try simp only [List.length_map]); refine bad_items_w _ _ _ _ i1 ?_) | ((try simp only [List.length_map]); refine bad_items_w _ _ _ _ i2 ?_) | ((try simp only [List.length_map]); refine bad_items_w _ _ _ _ i3 ?_) | refine bad_handovers_w x w hx3 ⟨h1, h2⟩ ⟨b1, b2⟩ hh ?_)
  refine ⟨fun j σ st' => ∃ a b c d e f g, σ = [some x, a, b, c, d, e, f, g] ∧ st' = T st [], ⟨_, _, _, _, _, _, _, rfl, rfl⟩, fun _ _ _ _ => trivial, ?_, ?_⟩
  · rintro j y σ st' hy ⟨a, b, c, d, e, f, g, rfl, rfl⟩
    obtain ⟨z, hz, rfl⟩ := dat_get hy
    have hz' : z = .non := by
      have := List.mem_of_getElem? hz
      simpa using this
    subst hz'
    refine ⟨_, _, rfl, ?_⟩
    unfold l1_bad_place
    repeat1' fail
    exact ⟨_, _, _, _, _, _, _, rfl, rfl⟩
  · rintro σ st' ⟨a, b, c, d, e, f, g, rfl, rfl⟩
    repeat1' fail
    rfl
end
end PreW

set_option linter.all false
set_option Elab.async false
set_option maxRecDepth 100000
/-! PreO: new instances; pools among new lists. -/
namespace Dn
open PySem Pre
section
variable {α : Type} {st : Store} {i : Nat} {p q : Pool} {ext : List Cell} {Q : A → Store → Prop} {E : Exc → Store → Prop} {QL : List A → Store → Prop} {σ : Env} {l : LF} {sb : SF} {N : Env → Store → Prop} {R : A → Store → Prop} {B C : Env → Store → Prop} {X : Exc → Env → Store → Prop} {xs : List A} {a b c e : EF}
theorem T_S {k : Nat} (h : ext[k]? = some (pl p)) : T st ext = S (T st ext) (st.length + k) p [] := (S_at (by rw [T_get, h])).symm
theorem S_T {k : Nat} : S (T st ext) (st.length + k) q [] = T st (ext.set k (pl q)) := by
  unfold S
  rw [List.append_nil, T_set]
theorem T_lt {k : Nat} {x : Cell} (h : ext[k]? = some x) : st.length + k < (T st ext).length := by
  rw [T_len]
  have := (List.getElem?_eq_some_iff.mp h).1
  omega
theorem w_fldT {i j cc f : Nat} {d : D} {ks : List Nat} {xs : List A} (h1 : σ[i]? = some (some (.ref (st.length + 0)))) (h2 : σ[j]? = some (some (.v d))) (hk : ks.length < 1000) (h : N σ (T st [.obj cc (fsK f ks) (fsX f (.v d) ks xs)])) : okS (sFldSet cc f (fVar i) (fVar j) σ (T st [.obj cc ks xs])) ⟨N, R, B, C, X⟩ := by
  refine w_fldset (w_var h2 (w_var h1 ⟨st.length + 0, .v d, _, ks, xs, rfl, rfl, by rw [T_get]; rfl, hk, ?_⟩))
  rw [T_set]
  exact h
theorem w_newT {cc : Nat} {g : List A → Store → RE A} {args : A → List A} (ks : List Nat) (ds : List D) (h : okE (g (args (.ref (st.length + 0))) (T st [.obj cc [] []])) (fun x st' => x = .v .non ∧ st' = T st [.obj cc ks (ds.map .v)]) (fun _ _ => False)) (q : Q (.v (.obj cc ks ds)) st) : okE (newObj cc g args st) Q E := by
  obtain ⟨x, st', e, rfl, rfl⟩ := okE_ex h
  refine w_newobj e (d := .obj cc ks ds) (st2 := T st [.fro cc ks ds]) ?_ (T_take _ rfl) q
  have e1 : (T st [Cell.obj cc ks (ds.map .v)])[st.length]? = some (.obj cc ks (ds.map .v)) := T_get 0
  unfold A.frz
  dsimp only
  rw [e1]
  dsimp only
  rw [vals_map]
  show some (_, (T st [Cell.obj cc ks (ds.map .v)]).set (st.length + 0) (.fro cc ks ds)) = _
  rw [T_set]
  rfl
theorem fldL_map (f : Nat) : ∀ (ks : List Nat) (ds : List D), fldL f ks (ds.map A.v) = (fldL f ks ds).map .v
  | [], _ => by cases ‹List D› <;> rfl
  | k :: ks, [] => rfl
  | k :: ks, d :: ds => by
    show (if k = f then some (A.v d) else fldL f ks (ds.map .v)) = (if k = f then some d else fldL f ks ds).map .v
    split
    · rfl
    · exact fldL_map f ks ds
/-- x[-1] -/
theorem w_ixm (h : okE (a σ st) (fun x st1 => Els st1 x fun xs => ∃ z, xs.getLast? = some z ∧ Q z st1) E) : okE (fIx a (fUn oNeg (fC (.int 1))) σ st) Q E := by
  refine w_ix (okE_mono h fun x st1 ⟨xs, h1, z, h2, h3⟩ => ?_)
  have hn : xs ≠ [] := by rintro rfl; cases h2
  have hl : 0 < xs.length := List.length_pos_iff.mpr hn
  have e : xs.length = (xs.length - 1) + 1 := by omega
  refine w_un (w_C (w_of rfl ⟨xs, -1, xs.length - 1, z, h1, rfl, ?_, ?_, h3⟩))
  · rw [e]; exact ixLast _
  · rw [← List.getLast?_eq_getElem?]; exact h2
abbrev IxN (y : A) (R : Nat → Prop) : Prop := ∃ n : Nat, y = .v (.int n) ∧ R n
theorem ixn_i {n : Nat} {R : Nat → Prop} (r : R n) : IxN (.v (.int n)) R := ⟨_, rfl, r⟩
/-- x[i], i a name -/
theorem w_ixv {i : Nat} (h : okE (a σ st) (fun x st1 => okE (fVar i σ st1) (fun y st2 => IxN y fun n => Els st2 x fun xs => Atk xs n fun z => Q z st2) E) E) : okE (fIx a (fVar i) σ st) Q E :=
  w_ix (okE_mono h fun x st1 q => okE_mono q fun y st2 ⟨n, e, xs, h1, z, h2, h3⟩ => ⟨xs, n, n, z, h1, e, ixLit n ((List.getElem?_eq_some_iff.mp h2).1), h2, h3⟩)
theorem w_ixg (h : okE (a σ st) (fun x st1 => okE (b σ st1) (fun y st2 => IxN y fun n => Els st2 x fun xs => Atk xs n fun z => Q z st2) E) E) : okE (fIx a b σ st) Q E :=
  w_ix (okE_mono h fun x st1 q => okE_mono q fun y st2 ⟨n, e, xs, h1, z, h2, h3⟩ => ⟨xs, n, n, z, h1, e, ixLit n ((List.getElem?_eq_some_iff.mp h2).1), h2, h3⟩)
theorem ixn_e {n : Nat} {z : Int} {R : Nat → Prop} (h : z = (n : Int)) (r : R n) : IxN (.v (.int z)) R := ⟨n, by rw [h], r⟩
/-- x[:1] of a live list of data, or of a value -/
theorem w_slice1 (h : okE (a σ st) (fun x st1 => Vie st1 x fun d => ∃ ds, d = .lst ds ∧ Q (.v (.lst (ds.take 1))) st1) E) : okE (fSlice a none (some (fC (.int 1))) σ st) Q E := by
  refine okE_bind (okE_mono h fun x st1 ⟨d, h1, ds, hd, h2⟩ => ?_)
  subst hd
  show okE (match x.view st1 with
    | some (.tup ds) => RE.ok (.v (.tup (cutD ds none (some 1)))) st1
    | some (.lst ds) => RE.ok (.v (.lst (cutD ds none (some 1)))) st1
    | _ => .bad) Q E
  rw [h1]
  have e : cutD ds none (some 1) = ds.take 1 := by
    have e1 : sI ds.length ds.length (some 1) = min 1 ds.length := gd_neg (by omega) _ _
    have e2 : sI ds.length 0 none = 0 := rfl
    unfold cutD
    rw [e1, e2, List.drop_zero]
    cases ds with
    | nil => rfl
    | cons d r => simp
  show Q (.v (.lst (cutD ds none (some 1)))) st1
  rw [e]
  exact h2
theorem T_view {k : Nat} {ds : List D} (h : ext[k]? = some (.lst (ds.map .v))) : (A.ref (st.length + k)).view (T st ext) = some (.lst ds) := by
  unfold A.view
  dsimp only
  rw [T_get, h]
  dsimp only
  rw [vals_map]
  rfl
theorem w_catLR {k : Nat} {ds ys : List D} (h : ext[k]? = some (.lst (ds.map .v))) (hl : ds.length + ys.length ≤ sizeMax) (q : Q (.v (.lst (ds ++ ys))) (T st ext)) : okE (RE.of (((A.ref (st.length + k)).view (T st ext)).bind fun d => ((A.v (.lst ys)).view (T st ext)).bind fun e => (oAddU d e).map .v) (T st ext)) Q E := by
  rw [T_view h]
  exact w_catL hl q
/-- a new pool behind the new lists -/
theorem w_newpool {ns : List Int} {k : Nat} (h : okE (fArgs xs' σ (T st ext)) (fun ys st1 => ys = [.v (.ro (ns.map D.int)), .v (.int (k : Int))] ∧ st1 = T st ext) E) (hk : k ≤ 1000) (q : ∀ p : Pool, Q (.ref (st.length + ext.length)) (T st (ext ++ [pl p]))) : okE (fLive (lCall d__law_pool xs') σ (T st ext)) Q E := by
  refine w_liveT (w_lcall (okE_mono h fun ys st1 ⟨e1, e2⟩ => ?_))
  subst e1 e2
  obtain ⟨p, hp⟩ := pool_spec ns k (T st ext) hk
  refine okE_of_eq hp ⟨_, rfl, rfl, ?_⟩
  exact q p
end
theorem elsT_i {st : Store} {k : Nat} {ext : List Cell} {xs : List A} {R : List A → Prop} (e : ext[k]? = some (.lst xs)) (r : R xs) : Els (T st ext) (.ref (st.length + k)) R := ⟨xs, by unfold A.elems; dsimp only; rw [T_get, e], r⟩
theorem elsS_i {st : Store} {i k : Nat} {q : Pool} {ext : List Cell} {xs : List A} {R : List A → Prop} (e : ext[k]? = some (.lst xs)) (r : R xs) : Els (S st i q ext) (.ref (st.length + k)) R := ⟨xs, by unfold A.elems; dsimp only; rw [S_get, e], r⟩
theorem all_vals (n : Nat) (ds : List D) : (ds.map A.v).all (A.below n) = true := by
  induction ds with
  | nil => rfl
  | cons d r ih => exact ih
theorem mget {β : Type} {f : β → D} {zs : List β} {j : Nat} {z : β} (h : zs[j]? = some z) : ((zs.map f).map A.v)[j]? = some (.v (f z)) := by
  rw [List.getElem?_map, List.getElem?_map, h]; rfl
theorem mapB_get {β γ : Type} {f : β → γ} {ys : List β} {j : Nat} {x : γ} (h : (ys.map f)[j]? = some x) : ∃ y, ys[j]? = some y ∧ x = f y := by
  rw [List.getElem?_map] at h
  cases q : ys[j]? with
  | none => rw [q] at h; cases h
  | some y => rw [q] at h; cases h; exact ⟨y, rfl, rfl⟩
/-- x[i] = .. -/
theorem tgSubT {st : Store} {ext : List Cell} {σ : Env} {N : Env → Store → Prop} {a b k j : Nat} {d : D} {xs : List A} (h1 : σ[a]? = some (some (.ref (st.length + k)))) (h2 : σ[b]? = some (some (.v (.int (j : Nat))))) (h3 : ext[k]? = some (.lst xs)) (hj : j < xs.length) (q : N σ (T st (ext.set k (.lst (xs.set j (.v d)))))) : Tgt (tgSub (fVar a) (fVar b)) (.v d) σ (T st ext) N := by
  refine ⟨σ, _, ?_, q⟩
  unfold tgSub fVar
  rw [h1]
  dsimp only [RE.of]
  rw [h2]
  dsimp only [RE.of]
  have : setL (st.length + k) (j : Int) (A.v d) (T st ext) = some (T st (ext.set k (.lst (xs.set j (.v d))))) := by
    show ((T st ext)[st.length + k]? |> fun c => (match c with
      | some (.lst xs) => (ixOf xs.length (j : Int)).map fun j => (T st ext).set (st.length + k) (.lst (xs.set j (A.v d)))
      | _ => none)) = _
    rw [T_get, h3]
    dsimp only
    rw [ixLit j hj]
    dsimp only [Option.map_some]
    rw [T_set]
  rw [this]
  rfl
theorem poolT {st : Store} {ext : List Cell} {p q : Pool} : S (T st (ext ++ [pl p])) (st.length + ext.length) q [] = T st (ext ++ [pl q]) := by
  rw [S_T]
  congr 1
  simp
theorem poolT_lt {st : Store} {ext : List Cell} {p : Pool} : st.length + ext.length < (T st (ext ++ [pl p])).length := by
  rw [T_len]; simp
theorem lastI_i {us : List Int} {Q : A → Prop} (h : us ≠ []) (q : ∀ z : Int, Q (.v (.int z))) : ∃ z, ((us.map D.int).map A.v).getLast? = some z ∧ Q z := by
  cases e : us.getLast? with
  | none => exact absurd (List.getLast?_eq_none_iff.mp e) h
  | some z => exact ⟨.v (.int z), by rw [List.getLast?_map, List.getLast?_map, e]; rfl, q z⟩
theorem pick_wI {st : Store} {i : Nat} {p : Pool} {ext : List Cell} {Q : A → Store → Prop} {E : Exc → Store → Prop} {us : List Int} (hi : i < st.length) (hl : us ≠ []) (hm : us.length < 1073741824) (h : ∀ z q, z ∈ us → Q (.v (.int z)) (S st i q ext)) : okE (d__law_pick [.ref i, .v (.lst (us.map D.int))] (S st i p ext)) Q E := by
  refine pick_w hi (by simpa using hl) (by simpa using hm) fun d q hd => ?_
  obtain ⟨z, hz, rfl⟩ := List.mem_map.mp hd
  exact h z q hz
theorem frz_nil {st : Store} {R : List D → Store → Prop} (r : R [] st) : Frz st [] R := ⟨_, _, rfl, r⟩
theorem frz_v {st : Store} {d : D} {xs : List A} {R : List D → Store → Prop} (h : Frz st xs fun ds st2 => R (d :: ds) st2) : Frz st (.v d :: xs) R := by
  obtain ⟨ds, st2, h1, h2⟩ := h
  refine ⟨d :: ds, st2, ?_, h2⟩
  show ((some (d, st)).bind fun p => (frzL p.2 xs).map fun q => (p.1 :: q.1, q.2)) = _
  dsimp only [Option.bind_some]
  rw [h1]
  rfl
theorem frzS_ref {st : Store} {i k : Nat} {q : Pool} {ext : List Cell} {ds : List D} {xs : List A} {R : List D → Store → Prop} (e : ext[k]? = some (.lst (ds.map .v))) (h : Frz (S st i q (ext.set k (.frz ds))) xs fun es st2 => R (.lst ds :: es) st2) : Frz (S st i q ext) (.ref (st.length + k) :: xs) R := by
  obtain ⟨es, st2, h1, h2⟩ := h
  refine ⟨.lst ds :: es, st2, ?_, h2⟩
  have hf : (A.ref (st.length + k)).frz (S st i q ext) = some (.lst ds, S st i q (ext.set k (.frz ds))) := by
    unfold A.frz
    dsimp only
    rw [S_get, e]
    dsimp only
    rw [vals_map]
    dsimp only [Option.map_some]
    rw [S_set]
  show (((A.ref (st.length + k)).frz (S st i q ext)).bind fun p => (frzL p.2 xs).map fun q => (p.1 :: q.1, q.2)) = _
  rw [hf]
  dsimp only [Option.bind_some]
  rw [h1]
  rfl
theorem frzT_ref {st : Store} {k : Nat} {ext : List Cell} {ds : List D} {xs : List A} {R : List D → Store → Prop} (e : ext[k]? = some (.lst (ds.map .v))) (h : Frz (T st (ext.set k (.frz ds))) xs fun es st2 => R (.lst ds :: es) st2) : Frz (T st ext) (.ref (st.length + k) :: xs) R := by
  obtain ⟨es, st2, h1, h2⟩ := h
  refine ⟨.lst ds :: es, st2, ?_, h2⟩
  have hf : (A.ref (st.length + k)).frz (T st ext) = some (.lst ds, T st (ext.set k (.frz ds))) := by
    unfold A.frz
    dsimp only
    rw [T_get, e]
    dsimp only
    rw [vals_map]
    dsimp only [Option.map_some]
    rw [T_set]
  show (((A.ref (st.length + k)).frz (T st ext)).bind fun p => (frzL p.2 xs).map fun q => (p.1 :: q.1, q.2)) = _
  rw [hf]
  dsimp only [Option.bind_some]
  rw [h1]
  rfl
theorem map_erase {β γ : Type} (f : β → γ) : ∀ (xs : List β) (k : Nat), (xs.map f).eraseIdx k = (xs.eraseIdx k).map f
  | [], _ => by simp
  | _ :: _, 0 => rfl
  | a :: r, k + 1 => by show f a :: (r.map f).eraseIdx k = f a :: (r.eraseIdx k).map f; rw [map_erase f r k]
theorem er_perm {β : Type} : ∀ (ls : List β) (k : Nat) (hk : k < ls.length), (ls[k] :: ls.eraseIdx k).Perm ls
  | a :: r, 0, _ => List.Perm.refl _
  | a :: r, k + 1, hk => (List.Perm.swap a (r[k]'(by simpa using hk)) (r.eraseIdx k)).trans ((er_perm r k (by simpa using hk)).cons a)
/-- a comprehension that leaves the store as it is -/
theorem w_compP {β : Type} {it : IF} {t : TgF} {ct : TF} {e : EF} {vs : List Nat} {σ : Env} {st st1 : Store} {QL : List A → Store → Prop} {E : Exc → Store → Prop} (ys : List β) (f : β → D) (c : β → Bool) (g : β → D) (hlen : ys.length < sizeMax)
    (hit : it σ st = .ok ⟨(ys.map f).map .v, fun _ => True⟩ st1)
    (hs : ∀ y ∈ ys, ∃ σ1, t (.v (f y)) (wipeE σ vs) st1 = some (σ1, st1) ∧ okE (ct σ1 st1) (fun b st2 => b = c y ∧ st2 = st1) (fun _ _ => False) ∧ (c y = true → okE (e σ1 st1) (fun a st3 => a = .v (g y) ∧ st3 = st1) (fun _ _ => False)))
    (q : QL (((ys.filter c).map g).map .v) st1) : okE (lComp it t ct e vs σ st) QL E := by
  refine w_comp (okE_of_eq hit ⟨fun j acc st' => st' = st1 ∧ acc = (((ys.take j).filter c).map g).map .v, ⟨rfl, rfl⟩, fun _ _ _ _ => trivial, ?_, ?_⟩)
  · rintro j x acc st' hx ⟨rfl, rfl⟩
    obtain ⟨y, hy, rfl⟩ := map_get hx
    · obtain ⟨σ1, h1, h2, h3⟩ := hs y (List.mem_of_getElem? hy)
      refine ⟨σ1, _, h1, okE_mono h2 fun b st2 ⟨hb, hst⟩ => ?_⟩
      subst hb hst
      have et : ys.take (j + 1) = ys.take j ++ [y] := by rw [List.take_succ, hy]; rfl
      refine ⟨fun hc => okE_mono (h3 hc) fun a st3 ⟨ha, hst⟩ => ?_, fun hc => ?_⟩
      · subst ha hst
        refine ⟨?_, rfl, ?_⟩
        · rw [List.length_map, List.length_map]
          exact Nat.lt_of_le_of_lt (Nat.le_trans (List.length_filter_le _ _) (List.length_take_le' _ _)) hlen
        · rw [et, List.filter_append, List.filter_cons_of_pos hc]
          simp
      · refine ⟨rfl, ?_⟩
        rw [et, List.filter_append, List.filter_cons_of_neg (by rw [hc]; decide)]
        simp
  · rintro acc st' ⟨rfl, rfl⟩
    rw [List.length_map, List.length_map, List.take_length]
    exact q
/-- o.pop(i) of a new list -/
theorem w_popS {st : Store} {i : Nat} {p : Pool} {ext : List Cell} {σ : Env} {a e : EF} {Q : A → Store → Prop} {E : Exc → Store → Prop} (h : okE (a σ (S st i p ext)) (fun x st1 => ApS1 st i x st1 fun k => okE (e σ st1) (fun y st2 => ∃ (j : Nat), ∃ q2 ext2 xs z, y = .v (.int j) ∧ st2 = S st i q2 ext2 ∧ ext2[k]? = some (.lst xs) ∧ xs.length ≤ sizeMax ∧ xs[j]? = some z ∧ Q z (S st i q2 (ext2.set k (.lst (xs.eraseIdx j))))) E) E) : okE (fPop a e σ (S st i p ext)) Q E := by
  refine w_fpop (okE_mono h fun x st1 ⟨q, ext', k, xs0, e1, e2, e3, h1⟩ => ⟨_, e1, ?_, ?_⟩)
  · subst e2
    rw [S_get, e3]; rfl
  · refine okE_mono h1 fun y st2 ⟨j, q2, ext2, xs, z, e4, e5, e6, e7, e8, e9⟩ => ?_
    subst e4 e5
    refine ⟨j, xs, z, rfl, by rw [S_get, e6], e7, e8, ?_⟩
    rw [S_set]
    exact e9
theorem truthS {st : Store} {i k : Nat} {p : Pool} {ext : List Cell} {xs : List A} (h : ext[k]? = some (.lst xs)) : truth (S st i p ext) (.ref (st.length + k)) = some (!xs.isEmpty) := by
  unfold truth
  dsimp only
  rw [S_get, h]
theorem inF_int (v a b : Int) : inF (.int v) [.int a, .int b] = dec (v = a ∨ v = b) := by
  have h : inF (.int v) [.int a, .int b] = (eqF (.int a) (.int v) || (eqF (.int b) (.int v) || false)) := rfl
  rw [h, Bool.or_false]
  by_cases h1 : v = a
  · rw [dec_pos (.inl h1), show eqF (.int a) (.int v) = true from by unfold eqF; subst h1; first | exact dec_pos rfl | simp]; rfl
  · by_cases h2 : v = b
    · rw [dec_pos (.inr h2), show eqF (.int b) (.int v) = true from by unfold eqF; subst h2; first | exact dec_pos rfl | simp]; simp
    · rw [dec_neg (fun q => q.elim h1 h2), show eqF (.int a) (.int v) = false from by unfold eqF; first | exact dec_neg (fun q => h1 q.symm) | simp; omega, show eqF (.int b) (.int v) = false from by unfold eqF; first | exact dec_neg (fun q => h2 q.symm) | simp; omega]; rfl
theorem br_in2 {v a b : Int} {x y : Prop} (h1 : (v = a ∨ v = b) → x) (h2 : ¬(v = a ∨ v = b) → y) : Br (inF (.int v) [.int a, .int b]) x y := by rw [inF_int]; exact br_dec h1 h2
theorem inF_str (v a b : Str) : inF (.str v) [.str a, .str b] = dec (v = a ∨ v = b) := by
  have h : inF (.str v) [.str a, .str b] = (eqF (.str a) (.str v) || (eqF (.str b) (.str v) || false)) := rfl
  rw [h, Bool.or_false]
  by_cases h1 : v = a
  · rw [dec_pos (.inl h1), show eqF (.str a) (.str v) = true from by unfold eqF; subst h1; first | exact dec_pos rfl | simp]; rfl
  · by_cases h2 : v = b
    · rw [dec_pos (.inr h2), show eqF (.str b) (.str v) = true from by unfold eqF; subst h2; first | exact dec_pos rfl | simp]; simp
    · rw [dec_neg (fun q => q.elim h1 h2), show eqF (.str a) (.str v) = false from by unfold eqF; first | exact dec_neg (fun q => h1 q.symm) | (simp; exact fun q => h1 q.symm), show eqF (.str b) (.str v) = false from by unfold eqF; first | exact dec_neg (fun q => h2 q.symm) | (simp; exact fun q => h2 q.symm)]; rfl
theorem br_inS {v a b : Str} {x y : Prop} {c : Bool} (e : dec (v = a ∨ v = b) = c) (h : Br c x y) : Br (inF (.str v) [.str a, .str b]) x y := by rw [inF_str, e]; exact h
/-- a list made turn by turn -/
structure Ls (n : Nat) (P : Nat → A → Prop) (xs : List A) : Prop where
  len : xs.length = n
  all : ∀ j x, xs[j]? = some x → P j x
theorem Ls.nil {P : Nat → A → Prop} : Ls 0 P [] := ⟨rfl, fun j x h => by cases h⟩
theorem Ls.app {n : Nat} {P : Nat → A → Prop} {xs : List A} {x : A} (h : Ls n P xs) (hx : P n x) : Ls (n + 1) P (xs ++ [x]) := by
  refine ⟨by simp [h.len], fun j y hy => ?_⟩
  by_cases hj : j < xs.length
  · rw [List.getElem?_append_left hj] at hy
    exact h.all j y hy
  · have hj2 : j = xs.length := by
      have := (List.getElem?_eq_some_iff.mp hy).1
      simp at this
      omega
    subst hj2
    rw [List.getElem?_append_right (Nat.le_refl _)] at hy
    simp at hy
    subst hy
    rw [h.len]
    exact hx
theorem Ls.lt {n j : Nat} {P : Nat → A → Prop} {xs : List A} {x : A} (h : Ls n P xs) (e : xs[j]? = some x) : j < n := by
  have := (List.getElem?_eq_some_iff.mp e).1
  rw [h.len] at this
  exact this
theorem Ls.at {n j : Nat} {P : Nat → A → Prop} {xs : List A} (h : Ls n P xs) (hj : j < n) : ∃ x, xs[j]? = some x ∧ P j x := by
  have : j < xs.length := by rw [h.len]; exact hj
  exact ⟨_, List.getElem?_eq_getElem this, h.all _ _ (List.getElem?_eq_getElem this)⟩
/-- what it is, if each turn says so -/
theorem Ls.eq {n : Nat} {f : Nat → A → Prop} {xs ys : List A} (h : Ls n f xs) (hl : ys.length = n) (he : ∀ j x y, f j x → ys[j]? = some y → x = y) : xs = ys := by
  refine List.ext_getElem? fun j => ?_
  by_cases hj : j < n
  · obtain ⟨x, h1, h2⟩ := h.at hj
    have : j < ys.length := by omega
    rw [h1, he j x _ h2 (List.getElem?_eq_getElem this), List.getElem?_eq_getElem this]
  · rw [List.getElem?_eq_none (by rw [h.len]; omega), List.getElem?_eq_none (by omega)]
theorem Ls.un {β : Type} {n : Nat} {f : β → D} {P : Nat → β → Prop} : ∀ {xs : List A}, Ls n (fun j x => ∃ m, x = .v (f m) ∧ P j m) xs → ∃ ms : List β, xs = (ms.map f).map .v ∧ ms.length = n ∧ ∀ j m, ms[j]? = some m → P j m := by
  intro xs h
  obtain ⟨hl, ha⟩ := h
  subst hl
  induction xs generalizing P with
  | nil => exact ⟨[], rfl, rfl, fun j m h => by cases h⟩
  | cons x r ih =>
    obtain ⟨m, rfl, hm⟩ := ha 0 x rfl
    obtain ⟨ms, h1, h2, h3⟩ := ih (P := fun j => P (j + 1)) (fun j y hy => ha (j + 1) y hy)
    refine ⟨m :: ms, by rw [h1]; rfl, by simp [h2], fun j k hk => ?_⟩
    cases j with
    | zero => cases hk; exact hm
    | succ j => exact h3 j k hk
theorem Ls.un0 {β : Type} {n : Nat} {f : β → D} {P : β → Prop} {xs : List A} (h : Ls n (fun _ x => ∃ m, x = .v (f m) ∧ P m) xs) : ∃ ms : List β, xs = (ms.map f).map .v ∧ ms.length = n ∧ ∀ m ∈ ms, P m := by
  obtain ⟨ms, h1, h2, h3⟩ := Ls.un (P := fun _ m => P m) h
  refine ⟨ms, h1, h2, fun m hm => ?_⟩
  obtain ⟨j, hj⟩ := List.mem_iff_getElem?.mp hm
  exact h3 j m hj
theorem zipE {β γ : Type} {f : β → γ → D} {as : List β} {bs : List γ} {n : Nat} {xs : List A} (h : Ls n (fun k x => ∀ a b, as[k]? = some a → bs[k]? = some b → x = .v (f a b)) xs) (ha : as.length = n) (hb : bs.length = n) : xs = (List.zipWith f as bs).map .v := by
  refine h.eq (by simp [ha, hb]) fun j x y hx hy => ?_
  rw [List.getElem?_map, List.getElem?_zipWith] at hy
  cases q1 : as[j]? with
  | none => rw [q1] at hy; cases hy
  | some a =>
    cases q2 : bs[j]? with
    | none => rw [q1, q2] at hy; cases hy
    | some b =>
      rw [q1, q2] at hy
      cases hy
      exact hx a b q1 q2
end Dn
namespace PreW
open PySem Dn Pre
section
variable {st : Store} {Q : A → Store → Prop} {E : Exc → Store → Prop} {args : A → List A}
theorem line_new (l : LineV) (ha : ∀ s, args s = [s, .v (.int l.a), .v (.int l.b), .v (.int l.weight), .v (.int l.rating), .v (.int l.peak), .v (.int l.hold), .v (.int l.burn), .v (.int l.backup), .v (.int l.reclose), .v (.int l.repair)]) (q : Q (.v (lineD l)) st) : okE (newObj 0 d_Line_init args st) Q E := by
  refine w_newT _ _ ?_ q
  rw [ha]
  refine w_fn ?_
  unfold b_Line_init
  repeat' (first | refine w_seq ?_ | ((refine w_fldT (d := ?_) ?_ ?_ ?_ ?_); rotate_left; rfl; rfl; decide))
  exact ⟨rfl, List.take_of_length_le (by rw [T_len, T_len]; exact Nat.le_refl _)⟩
theorem plant_new (l : PlantV) (ha : ∀ s, args s = [s, .v (.int l.node), .v (.int l.least), .v (.int l.most), .v (.int l.ramp), .v (.int l.share), .v (.int l.warm), .v (.int l.repair), .v (.bl l.black), .v (.int l.unit), .v (.int l.idle), .v (.int l.launch), .v (.int l.fuel)]) (q : Q (.v (plantD l)) st) : okE (newObj 1 d_Plant_init args st) Q E := by
  refine w_newT _ _ ?_ q
  rw [ha]
  refine w_fn ?_
  unfold b_Plant_init
  repeat' (first | refine w_seq ?_ | ((refine w_fldT (d := ?_) ?_ ?_ ?_ ?_); rotate_left; rfl; rfl; decide))
  exact ⟨rfl, List.take_of_length_le (by rw [T_len, T_len]; exact Nat.le_refl _)⟩
theorem store_new (l : StoreV) (ha : ∀ s, args s = [s, .v (.int l.node), .v (.int l.capacity), .v (.int l.power), .v (.int l.loss), .v (.int l.charge)]) (q : Q (.v (storeD l)) st) : okE (newObj 2 d_Store_init args st) Q E := by
  refine w_newT _ _ ?_ q
  rw [ha]
  refine w_fn ?_
  unfold b_Store_init
  repeat' (first | refine w_seq ?_ | ((refine w_fldT (d := ?_) ?_ ?_ ?_ ?_); rotate_left; rfl; rfl; decide))
  exact ⟨rfl, List.take_of_length_le (by rw [T_len, T_len]; exact Nat.le_refl _)⟩
theorem load_new (l : LoadV) (ha : ∀ s, args s = [s, .v (.int l.node), .v (.int l.rank), .v (.int l.patience)]) (q : Q (.v (loadD l)) st) : okE (newObj 3 d_Load_init args st) Q E := by
  refine w_newT _ _ ?_ q
  rw [ha]
  refine w_fn ?_
  unfold b_Load_init
  repeat' (first | refine w_seq ?_ | ((refine w_fldT (d := ?_) ?_ ?_ ?_ ?_); rotate_left; rfl; rfl; decide))
  exact ⟨rfl, List.take_of_length_le (by rw [T_len, T_len]; exact Nat.le_refl _)⟩
theorem world_new (w : WorldV) (ok : WOk w) (ha : ∀ s, args s = s :: (worldL w).map .v) (q : Q (.v (worldD w)) st) : okE (newObj 4 d_World_init args st) Q E := by
  refine w_newT _ _ ?_ q
  rw [ha]
  refine w_fn ?_
  unfold b_World_init
  repeat' (first | refine w_seq ?_ | ((refine w_fldT (d := ?_) ?_ ?_ ?_ ?_); rotate_left; rfl; rfl; decide))
  refine w_set (w_call (w_cons (w_var rfl (w_nil ?_))))
  refine bad_place_w _ w (fun st' => ⟨fun f d hd => ?_⟩) ok ?_
  · rw [show ∀ (a b : List Cell), T (T st a) b = T st (a ++ b) from fun a b => T_app b]
    unfold A.fld
    dsimp only
    rw [T_get]
    show fldL f _ _ = _
    exact (fldL_map f [75, 76, 77, 78, 79, 80, 81, 82, 83, 84, 85, 86, 87, 88, 89] (worldL w)).trans (by rw [hd]; rfl)
  · refine w_sif (w_tcmp (w_op (w_var rfl (w_C (w_of rfl (w_of rfl (br_f (w_snil ?_))))))))
    exact ⟨rfl, List.take_of_length_le (by rw [T_len, T_len]; exact Nat.le_refl _)⟩
end
end PreW

set_option linter.all false
set_option Elab.async false
set_option maxRecDepth 100000
/-! PreR: ratios as data. -/
namespace PreW
open PySem Dn Pre
structure RatV where
  (num den : Int)
noncomputable def ratD (r : RatV) : D := .obj 5 [90, 91] [.int r.num, .int r.den]
/-- what divides both -/
def gOf (n d : Int) : Int := if d < 0 then -((Nat.gcd n.natAbs d.natAbs : Nat) : Int) else ((Nat.gcd n.natAbs d.natAbs : Nat) : Int)
def ratOf (n d : Int) : RatV := ⟨n.fdiv (gOf n d), d.fdiv (gOf n d)⟩
theorem gOf_ne {n d : Int} (h : d ≠ 0) : gOf n d ≠ 0 := by
  have h1 : 0 < Nat.gcd n.natAbs d.natAbs := Nat.gcd_pos_of_pos_right _ (Int.natAbs_pos.mpr h)
  unfold gOf
  split <;> omega
theorem gOf_le {n d : Int} (h : d ≠ 0) : (gOf n d).natAbs ≤ d.natAbs := by
  have h1 : Nat.gcd n.natAbs d.natAbs ≤ d.natAbs := Nat.le_of_dvd (Int.natAbs_pos.mpr h) (Nat.gcd_dvd_right _ _)
  unfold gOf
  split <;> omega
theorem gOf_dvd (n d : Int) : gOf n d ∣ n ∧ gOf n d ∣ d := by
  have h1 : ((Nat.gcd n.natAbs d.natAbs : Nat) : Int) ∣ n := Int.ofNat_dvd_left.mpr (Nat.gcd_dvd_left _ _)
  have h2 : ((Nat.gcd n.natAbs d.natAbs : Nat) : Int) ∣ d := Int.ofNat_dvd_left.mpr (Nat.gcd_dvd_right _ _)
  unfold gOf
  split
  · exact ⟨Int.neg_dvd.mpr h1, Int.neg_dvd.mpr h2⟩
  · exact ⟨h1, h2⟩
theorem fdiv_ex {a b : Int} (hb : b ≠ 0) (h : b ∣ a) : b * a.fdiv b = a := by
  obtain ⟨c, rfl⟩ := h
  rw [Int.mul_fdiv_cancel_left _ hb]
/-- in lowest terms, the denominator above 0 -/
def Low (r : RatV) : Prop := 0 < r.den ∧ Nat.gcd r.num.natAbs r.den.natAbs = 1
theorem ratOf_mul {n d : Int} (h : d ≠ 0) : n = gOf n d * (ratOf n d).num ∧ d = gOf n d * (ratOf n d).den :=
  ⟨(fdiv_ex (gOf_ne h) (gOf_dvd n d).1).symm, (fdiv_ex (gOf_ne h) (gOf_dvd n d).2).symm⟩
theorem gOf_sign {n d : Int} (h : d ≠ 0) : (0 < d → 0 < gOf n d) ∧ (d < 0 → gOf n d < 0) := by
  have h1 : 0 < Nat.gcd n.natAbs d.natAbs := Nat.gcd_pos_of_pos_right _ (Int.natAbs_pos.mpr h)
  unfold gOf
  constructor
  · intro q; rw [if_neg (by omega)]; omega
  · intro q; rw [if_pos q]; omega
theorem ratOf_low {n d : Int} (h : d ≠ 0) : Low (ratOf n d) := by
  obtain ⟨e1, e2⟩ := ratOf_mul (n := n) h
  obtain ⟨s1, s2⟩ := gOf_sign (n := n) h
  constructor
  · rcases Int.lt_or_gt_of_ne h with q | q
    · have hg := s2 q
      exact Int.lt_of_not_ge fun hz => by
        have := Int.mul_nonneg_of_nonpos_of_nonpos (Int.le_of_lt hg) hz
        omega
    · have hg := s1 q
      exact Int.lt_of_not_ge fun hz => by
        have := Int.mul_nonpos_of_nonneg_of_nonpos (Int.le_of_lt hg) hz
        omega
  · have hg : (gOf n d).natAbs = Nat.gcd n.natAbs d.natAbs := by unfold gOf; split <;> omega
    have hp : 0 < (gOf n d).natAbs := by rw [hg]; exact Nat.gcd_pos_of_pos_right _ (Int.natAbs_pos.mpr h)
    have a1 : n.natAbs = (gOf n d).natAbs * (ratOf n d).num.natAbs := by rw [← Int.natAbs_mul, ← e1]
    have a2 : d.natAbs = (gOf n d).natAbs * (ratOf n d).den.natAbs := by rw [← Int.natAbs_mul, ← e2]
    have a3 : Nat.gcd n.natAbs d.natAbs = (gOf n d).natAbs * Nat.gcd (ratOf n d).num.natAbs (ratOf n d).den.natAbs := by
      rw [← Nat.gcd_mul_left, ← a1, ← a2]
    rw [← hg] at a3
    exact Nat.eq_of_mul_eq_mul_left hp (by omega)
/-- a fraction is the same as its lowest terms -/
theorem ratOf_eq {n d : Int} (h : d ≠ 0) : n * (ratOf n d).den = (ratOf n d).num * d := by
  obtain ⟨e1, e2⟩ := ratOf_mul (n := n) h
  calc n * (ratOf n d).den = (gOf n d * (ratOf n d).num) * (ratOf n d).den := by rw [← e1]
    _ = (ratOf n d).num * (gOf n d * (ratOf n d).den) := by rw [Int.mul_comm (gOf n d), Int.mul_assoc]
    _ = (ratOf n d).num * d := by rw [← e2]
/-- two fractions in lowest terms that are equal -/
theorem low_inj {r s : RatV} (hr : Low r) (hs : Low s) (h : r.num * s.den = s.num * r.den) : r = s := by
  obtain ⟨r1, r2⟩ := hr
  obtain ⟨s1, s2⟩ := hs
  have n1 : r.num.natAbs * s.den.natAbs = s.num.natAbs * r.den.natAbs := by rw [← Int.natAbs_mul, ← Int.natAbs_mul, h]
  have d1 : r.den.natAbs ∣ s.den.natAbs := by
    have : r.den.natAbs ∣ r.num.natAbs * s.den.natAbs := by rw [n1]; exact Nat.dvd_mul_left _ _
    exact Nat.Coprime.dvd_of_dvd_mul_left (Nat.Coprime.symm r2) this
  have d2 : s.den.natAbs ∣ r.den.natAbs := by
    have : s.den.natAbs ∣ s.num.natAbs * r.den.natAbs := by rw [← n1]; exact Nat.dvd_mul_left _ _
    exact Nat.Coprime.dvd_of_dvd_mul_left (Nat.Coprime.symm s2) this
  have e : r.den.natAbs = s.den.natAbs := Nat.dvd_antisymm d1 d2
  have e' : r.den = s.den := by omega
  have e2 : r.num = s.num := Int.eq_of_mul_eq_mul_right (show s.den ≠ 0 by omega) (by rw [h, e'])
  obtain ⟨_, _⟩ := r
  obtain ⟨_, _⟩ := s
  dsimp only at e' e2
  subst e' e2
  rfl
theorem ratOf_uniq {n d : Int} (h : d ≠ 0) {r : RatV} (hr : Low r) (e : n * r.den = r.num * d) : ratOf n d = r := by
  have hl := ratOf_low (n := n) h
  refine low_inj hl hr ?_
  obtain ⟨e1, e2⟩ := ratOf_mul (n := n) h
  have hg := gOf_ne (n := n) h
  have : gOf n d * ((ratOf n d).num * r.den) = gOf n d * (r.num * (ratOf n d).den) := by
    rw [← Int.mul_assoc, ← e1, e, Int.mul_left_comm, ← e2]
  exact Int.eq_of_mul_eq_mul_left hg this
theorem ratOf_self {r : RatV} (hr : Low r) : ratOf r.num r.den = r := ratOf_uniq (by have := hr.1; omega) hr rfl
theorem ratOf_one (n : Int) : ratOf n 1 = ⟨n, 1⟩ := ratOf_uniq (by decide) ⟨by show (0 : Int) < 1; decide, by show Nat.gcd n.natAbs 1 = 1; exact Nat.gcd_one_right _⟩ rfl
end PreW
namespace Dn
open PySem Pre
theorem flat_ints (xs : List Int) : (xs.map D.int).all flatD = true := by
  induction xs with
  | nil => rfl
  | cons a r ih => exact ih
theorem inF_ints (a : Int) (xs : List Int) : inF (.int a) (xs.map D.int) = dec (a ∈ xs) := by
  have h : inF (.int a) (xs.map D.int) = xs.any fun y => y == a := by
    unfold inF
    rw [List.any_map]
    rfl
  rw [h]
  by_cases q : a ∈ xs
  · rw [dec_pos q, List.any_eq_true]
    exact ⟨a, q, by simp⟩
  · rw [dec_neg q, List.any_eq_false]
    intro y hy e
    rw [beq_iff_eq] at e
    exact q (e ▸ hy)
theorem in_ints (a : Int) (xs : List Int) : (oInG (.int a) (.lst (xs.map D.int))).map A.v = some (.v (.bl (dec (a ∈ xs)))) := by
  have h : oInU (.int a) (.lst (xs.map D.int)) = some (.bl (dec (a ∈ xs))) := by
    show (if flatD (.int a) = true ∧ (xs.map D.int).all flatD = true then some (D.bl (inF (.int a) (xs.map D.int))) else none) = _
    rw [if_pos ⟨rfl, flat_ints xs⟩, inF_ints]
  unfold oInG
  rw [h]
  rfl
theorem in_intsT (a : Int) (xs : List Int) : (oInG (.int a) (.tup (xs.map D.int))).map A.v = some (.v (.bl (dec (a ∈ xs)))) := by
  have h : oInU (.int a) (.tup (xs.map D.int)) = some (.bl (dec (a ∈ xs))) := by
    show (if flatD (.int a) = true ∧ (xs.map D.int).all flatD = true then some (D.bl (inF (.int a) (xs.map D.int))) else none) = _
    rw [if_pos ⟨rfl, flat_ints xs⟩, inF_ints]
  unfold oInG
  rw [h]
  rfl
theorem notin_ints (a : Int) (xs : List Int) : (oNotInG (.int a) (.lst (xs.map D.int))).map A.v = some (.v (.bl (!dec (a ∈ xs)))) := by
  have h : oNotInU (.int a) (.lst (xs.map D.int)) = some (.bl (!dec (a ∈ xs))) := by
    show (if flatD (.int a) = true ∧ (xs.map D.int).all flatD = true then some (D.bl (!inF (.int a) (xs.map D.int))) else none) = _
    rw [if_pos ⟨rfl, flat_ints xs⟩, inF_ints]
  unfold oNotInG
  rw [h]
  rfl
abbrev FldG (x : A) (st1 st0 : Store) (R : D → Prop) : Prop := ∃ d, x = .v d ∧ st1 = st0 ∧ R d
theorem fldG_i {d : D} {st0 : Store} {R : D → Prop} (r : R d) : FldG (.v d) st0 st0 R := ⟨_, rfl, rfl, r⟩
theorem w_fldG {st : Store} {σ : Env} {N : Env → Store → Prop} {R : A → Store → Prop} {B C : Env → Store → Prop} {X : Exc → Env → Store → Prop} {i cc f : Nat} {e : EF} {ks : List Nat} {xs : List A} (h1 : σ[i]? = some (some (.ref (st.length + 0)))) (hk : ks.length < 1000)
    (h : okE (e σ (T st [.obj cc ks xs])) (fun x st1 => FldG x st1 (T st [.obj cc ks xs]) fun d => N σ (T st [.obj cc (fsK f ks) (fsX f (.v d) ks xs)])) (fun x st => X x σ st)) : okS (sFldSet cc f (fVar i) e σ (T st [.obj cc ks xs])) ⟨N, R, B, C, X⟩ := by
  refine w_fldset (okE_mono h fun x st1 ⟨d, q1, q2, q3⟩ => ?_)
  subst q1 q2
  refine w_var h1 ⟨st.length + 0, .v d, _, ks, xs, rfl, rfl, by rw [T_get]; rfl, hk, ?_⟩
  rw [T_set]
  exact q3
theorem gcd_div {n d : Int} (h : d ≠ 0) (hb : d.natAbs < big) : divOk ((Nat.gcd n.natAbs d.natAbs : Nat) : Int) ∧ divOk (-((Nat.gcd n.natAbs d.natAbs : Nat) : Int)) := by
  have h1 : 0 < Nat.gcd n.natAbs d.natAbs := Nat.gcd_pos_of_pos_right _ (Int.natAbs_pos.mpr h)
  have h2 : Nat.gcd n.natAbs d.natAbs ≤ d.natAbs := Nat.le_of_dvd (Int.natAbs_pos.mpr h) (Nat.gcd_dvd_right _ _)
  exact ⟨⟨by omega, Nat.lt_of_le_of_lt (by omega) hb⟩, ⟨by omega, Nat.lt_of_le_of_lt (by omega) hb⟩⟩
end Dn
namespace PreW
open PySem Dn Pre
theorem ratOf_le {n d : Int} (h : d ≠ 0) : (ratOf n d).num.natAbs ≤ n.natAbs ∧ (ratOf n d).den.natAbs ≤ d.natAbs := by
  obtain ⟨e1, e2⟩ := ratOf_mul (n := n) h
  have hg : 1 ≤ (gOf n d).natAbs := by have := gOf_ne (n := n) h; omega
  have a1 : n.natAbs = (gOf n d).natAbs * (ratOf n d).num.natAbs := by rw [← Int.natAbs_mul, ← e1]
  have a2 : d.natAbs = (gOf n d).natAbs * (ratOf n d).den.natAbs := by rw [← Int.natAbs_mul, ← e2]
  exact ⟨by rw [a1]; exact Nat.le_mul_of_pos_left _ hg, by rw [a2]; exact Nat.le_mul_of_pos_left _ hg⟩
end PreW
namespace Dn
open PySem Pre
theorem visi_i {st : Store} {x : A} {Q : D → Prop} {d : D} (h : x.view st = some d) (t : tyOk d = true) (q : Q d) : Vie st x fun d => tyOk d = true ∧ Q d := ⟨d, h, t, q⟩
theorem bmi_i {c : Nat} {i : Int} {P : Prop} {R : List Nat → List D → Prop} (h : P) : (∃ j : Int, A.v (.int i) = .v (.int j) ∧ P) ∨ ∃ ks ds, A.v (.int i) = .v (.obj c ks ds) ∧ R ks ds := .inl ⟨i, rfl, h⟩
theorem bmo_i {c : Nat} {ks : List Nat} {ds : List D} {P : Int → Prop} {R : Prop} (h : R) : (∃ j : Int, A.v (.obj c ks ds) = .v (.int j) ∧ P j) ∨ ∃ ks' ds', A.v (.obj c ks ds) = .v (.obj c ks' ds') ∧ R := .inr ⟨ks, ds, rfl, h⟩
theorem met_i {x : A} {st : Store} {c : Nat} {R : Prop} (h : x.clsOf st = some c) (r : R) : x.clsOf st = some c ∧ R := ⟨h, r⟩
theorem isC_i {c : Nat} {st : Store} {x z : A} {R : A → Prop} (h : isCv c st x = some z) (r : R z) : ∃ z, isCv c st x = some z ∧ R z := ⟨z, h, r⟩
end Dn
namespace Dn
theorem dec_congr {p q : Prop} (h : p ↔ q) : dec p = dec q := by rw [propext h]
end Dn

set_option linter.all false
set_option Elab.async false
set_option maxRecDepth 100000
/-! PreL: while loops; sums; levels. -/
namespace Dn
open PySem Pre
theorem okS_nb {r : RS} {O : Out} (h : okS r O) : r ≠ .bad := by
  intro e
  rw [e] at h
  exact h
/-- a while loop by its invariant and a measure -/
theorem w_while {c : TF} {b : SF} {σ : Env} {st : Store} {N : Env → Store → Prop} {R : A → Store → Prop} {B C : Env → Store → Prop} {X : Exc → Env → Store → Prop} (I : Nat → Env → Store → Prop) (n : Nat) (h0 : I n σ st)
    (hs : ∀ n σ st, I n σ st → okE (c σ st) (fun k st1 => Br k (okS (b σ st1) ⟨fun σ' st' => ∃ m, m < n ∧ I m σ' st', R, N, fun σ' st' => ∃ m, m < n ∧ I m σ' st', X⟩) (N σ st1)) (fun x st => X x σ st)) : okS (sWhile c b σ st) ⟨N, R, B, C, X⟩ := by
  have key : ∀ n, ∀ σ st, I n σ st → ∃ k, okS (whileN c b k σ st) ⟨N, R, B, C, X⟩ := by
    intro n
    induction n using Nat.strongRecOn with
    | ind n ih =>
      intro σ st h
      have h1 := hs n σ st h
      cases q : c σ st with
      | bad => rw [q] at h1; exact h1.elim
      | err x s => rw [q] at h1; exact ⟨1, by rw [whileN_succ, q]; exact h1⟩
      | ok k st1 =>
        rw [q] at h1
        cases k with
        | false => exact ⟨1, by rw [while_stop q]; exact h1.2 rfl⟩
        | true =>
          have h2 := h1.1 rfl
          cases q2 : b σ st1 with
          | nx σ2 st2 =>
            rw [q2] at h2
            obtain ⟨m, hm, hI⟩ := h2
            obtain ⟨k, hk⟩ := ih m hm σ2 st2 hI
            exact ⟨k + 1, by rw [while_step q q2]; exact hk⟩
          | ct σ2 st2 =>
            rw [q2] at h2
            obtain ⟨m, hm, hI⟩ := h2
            obtain ⟨k, hk⟩ := ih m hm σ2 st2 hI
            exact ⟨k + 1, by rw [whileN_succ, q, st_ok, if_pos rfl, q2]; exact hk⟩
          | bk σ2 st2 => rw [q2] at h2; exact ⟨1, by rw [whileN_succ, q, st_ok, if_pos rfl, q2]; exact h2⟩
          | rt x s => rw [q2] at h2; exact ⟨1, by rw [whileN_succ, q, st_ok, if_pos rfl, q2]; exact h2⟩
          | err x y s => rw [q2] at h2; exact ⟨1, by rw [whileN_succ, q, st_ok, if_pos rfl, q2]; exact h2⟩
          | bad => rw [q2] at h2; exact h2.elim
  obtain ⟨k, hk⟩ := key n σ st h0
  rw [while_of rfl (okS_nb hk)]
  exact hk
theorem w_sum {xs : List Int} {st : Store} {Q : A → Store → Prop} {E : Exc → Store → Prop} (q : Q (.v (.int xs.sum)) st) : okE (RE.of ((viewL st [.v (.lst (xs.map D.int))]).bind fun ds => (bSumU ds).map .v) st) Q E := by
  refine w_of (z := .v (.int xs.sum)) ?_ q
  show ((((intsD (xs.map D.int)).map fun ns => D.int ns.sum)).map A.v) = _
  rw [intsD_map]
  rfl
theorem w_sumT {xs : List Int} {st : Store} {Q : A → Store → Prop} {E : Exc → Store → Prop} (q : Q (.v (.int xs.sum)) st) : okE (RE.of ((viewL st [.v (.tup (xs.map D.int))]).bind fun ds => (bSumU ds).map .v) st) Q E := by
  refine w_of (z := .v (.int xs.sum)) ?_ q
  show ((((intsD (xs.map D.int)).map fun ns => D.int ns.sum)).map A.v) = _
  rw [intsD_map]
  rfl
theorem w_sumX {ds : List D} {xs : List Int} {st : Store} {Q : A → Store → Prop} {E : Exc → Store → Prop} (h : ds = xs.map D.int) (q : Q (.v (.int xs.sum)) st) : okE (RE.of ((viewL st [.v (.lst ds)]).bind fun ds => (bSumU ds).map .v) st) Q E := by
  subst h
  exact w_sum q
end Dn
namespace PreW
open PySem Dn Pre
/-! ### levels: rooms r, weights w, the rows that are not full -/
section
variable (r w : Nat → Int)
def sumOn (f : Nat → Int) (L : List Nat) : Int := (L.map f).sum
noncomputable def overB (num den : Int) (i : Nat) : Bool := dec (r i * den < w i * num)
noncomputable def fullL (rows : List Nat) (num den : Int) : List Nat := rows.filter (overB r w num den)
noncomputable def restL (rows : List Nat) (num den : Int) : List Nat := rows.filter fun i => !overB r w num den i
/-- the level at which no row is over: the rows left, numerator, denominator -/
noncomputable def levN : Nat → List Nat → Int → Int → List Nat × Int × Int
  | 0, rows, num, den => (rows, num, den)
  | k + 1, rows, num, den => if (fullL r w rows num den).isEmpty = true then (rows, num, den) else levN k (restL r w rows num den) (num - sumOn r (fullL r w rows num den)) (den - sumOn w (fullL r w rows num den))
theorem fullrest (rows : List Nat) (num den : Int) : (fullL r w rows num den).length + (restL r w rows num den).length = rows.length := by
  unfold fullL restL
  induction rows with
  | nil => rfl
  | cons a t ih =>
    rw [List.filter_cons, List.filter_cons]
    cases h : overB r w num den a
    · simp only [Bool.not_false, if_true, ite_true, List.length_cons, Bool.false_eq_true, if_false, ite_false]; omega
    · simp only [Bool.not_true, if_true, ite_true, List.length_cons, Bool.false_eq_true, if_false, ite_false]; omega
theorem sum_part (f : Nat → Int) (rows : List Nat) (num den : Int) : sumOn f rows = sumOn f (fullL r w rows num den) + sumOn f (restL r w rows num den) := by
  unfold fullL restL sumOn
  induction rows with
  | nil => rfl
  | cons a t ih =>
    rw [List.filter_cons, List.filter_cons]
    cases h : overB r w num den a
    · simp only [Bool.not_false, if_true, ite_true, List.map_cons, List.sum_cons, Bool.false_eq_true, if_false, ite_false]; omega
    · simp only [Bool.not_true, if_true, ite_true, List.map_cons, List.sum_cons, Bool.false_eq_true, if_false, ite_false]; omega
theorem restL_lt {rows : List Nat} {num den : Int} (h : ¬ (fullL r w rows num den).isEmpty = true) : (restL r w rows num den).length < rows.length := by
  have := fullrest r w rows num den
  cases q : fullL r w rows num den with
  | nil => rw [q] at h; exact absurd rfl h
  | cons a t => rw [q] at this; simp at this; omega
theorem levN_fuel : ∀ (k m : Nat) (rows : List Nat) (num den : Int), rows.length ≤ k → rows.length ≤ m → levN r w k rows num den = levN r w m rows num den
  | 0, 0, _, _, _, _, _ => rfl
  | 0, m + 1, rows, num, den, h1, h2 => by
    have e : rows = [] := List.length_eq_zero_iff.mp (by omega)
    subst e
    rfl
  | k + 1, 0, rows, num, den, h1, h2 => by
    have e : rows = [] := List.length_eq_zero_iff.mp (by omega)
    subst e
    rfl
  | k + 1, m + 1, rows, num, den, h1, h2 => by
    show (if _ then _ else _) = (if _ then _ else _)
    by_cases q : (fullL r w rows num den).isEmpty = true
    · rw [if_pos q, if_pos q]
    · rw [if_neg q, if_neg q]
      have := restL_lt r w q
      exact levN_fuel k m _ _ _ (by omega) (by omega)
noncomputable def lev (rows : List Nat) (num den : Int) : List Nat × Int × Int := levN r w rows.length rows num den
theorem lev_stop {rows : List Nat} {num den : Int} (h : (fullL r w rows num den).isEmpty = true) : lev r w rows num den = (rows, num, den) := by
  unfold lev
  cases q : rows.length with
  | zero => rfl
  | succ k =>
    show (if _ then _ else _) = _
    rw [if_pos h]
theorem lev_go {rows : List Nat} {num den : Int} (h : ¬ (fullL r w rows num den).isEmpty = true) : lev r w rows num den = lev r w (restL r w rows num den) (num - sumOn r (fullL r w rows num den)) (den - sumOn w (fullL r w rows num den)) := by
  have hl := restL_lt r w h
  unfold lev
  cases q : rows.length with
  | zero => omega
  | succ k =>
    show (if _ then _ else _) = _
    rw [if_neg h]
    exact levN_fuel r w _ _ _ _ _ (by omega) (Nat.le_refl _)
end
end PreW
namespace Dn
open PySem Pre
theorem aug_i {o : Option D} {z : D} {P : D → Prop} (h : o = some z) (p : P z) : ∃ z, o = some z ∧ P z := ⟨z, h, p⟩
abbrev LRg (x : A) (R : Nat → Prop) : Prop := ∃ n : Nat, x = .v (.int (n : Int)) ∧ n ≤ 16777216 ∧ R n
theorem lrg_i {n : Nat} {R : Nat → Prop} (h : n ≤ 16777216) (r : R n) : LRg (.v (.int (n : Int))) R := ⟨n, rfl, h, r⟩
abbrev natD (i : Nat) : D := .int (i : Int)
theorem range_nat (n : Nat) : rangeA 0 n = ((List.range n).map natD).map A.v := by
  rw [rangeA_eq, List.map_map]
  refine List.map_congr_left fun i _ => ?_
  show A.v (.int (0 + (i : Int))) = _
  rw [Int.zero_add]
  rfl
theorem w_lrange1 {a : EF} {σ : Env} {st : Store} {QL : List A → Store → Prop} {E : Exc → Store → Prop} (h : okE (a σ st) (fun x st1 => LRg x fun n => QL (((List.range n).map natD).map .v) st1) E) : okE (lRange1 a σ st) QL E :=
  okE_bind (okE_mono h fun x st1 ⟨n, q1, q2, q3⟩ => by
    subst q1
    dsimp only
    rw [gd_pos ⟨⟨by omega, by omega⟩, by omega⟩, Int.toNat_natCast, range_nat]
    exact q3)
end Dn
namespace PreW
open PySem Dn Pre
theorem sumOn_le {f g : Nat → Int} : ∀ {L : List Nat}, (∀ i ∈ L, f i ≤ g i) → sumOn f L ≤ sumOn g L
  | [], _ => Int.le_refl _
  | a :: t, h => by
    have h1 := h a List.mem_cons_self
    have h2 := sumOn_le (L := t) fun i hi => h i (List.mem_cons_of_mem _ hi)
    unfold sumOn at *
    simp only [List.map_cons, List.sum_cons]
    omega
theorem sumOn_lt {f g : Nat → Int} : ∀ {L : List Nat}, L ≠ [] → (∀ i ∈ L, f i < g i) → sumOn f L < sumOn g L
  | [], hn, _ => absurd rfl hn
  | a :: t, _, h => by
    have h1 := h a List.mem_cons_self
    have h2 := sumOn_le (L := t) fun i hi => Int.le_of_lt (h i (List.mem_cons_of_mem _ hi))
    unfold sumOn at *
    simp only [List.map_cons, List.sum_cons]
    omega
theorem sumOn_mulr {f : Nat → Int} {c : Int} : ∀ {L : List Nat}, sumOn (fun i => f i * c) L = sumOn f L * c
  | [] => by unfold sumOn; simp
  | a :: t => by
    have h2 := sumOn_mulr (f := f) (c := c) (L := t)
    unfold sumOn at *
    simp only [List.map_cons, List.sum_cons, h2, Int.add_mul]
theorem sumOn_zero : ∀ {L : List Nat}, sumOn (fun _ => 0) L = 0
  | [] => rfl
  | a :: t => by
    have h2 := sumOn_zero (L := t)
    unfold sumOn at *
    simp only [List.map_cons, List.sum_cons, h2]
    rfl
theorem sumOn_app {f : Nat → Int} {L M : List Nat} : sumOn f (L ++ M) = sumOn f L + sumOn f M := by
  unfold sumOn
  rw [List.map_append, List.sum_append]
theorem sumOn_perm {f : Nat → Int} {L M : List Nat} (h : L.Perm M) : sumOn f L = sumOn f M := by
  unfold sumOn
  induction h with
  | nil => rfl
  | cons a _ ih => simp only [List.map_cons, List.sum_cons, ih]
  | swap a b l => simp only [List.map_cons, List.sum_cons]; omega
  | trans _ _ ih1 ih2 => exact ih1.trans ih2
/-- what a level is: the rows left, and those that are full -/
structure LevOk (r w : Nat → Int) (all : List Nat) (units : Int) (rows sat : List Nat) (num den : Int) : Prop where
  perm : (rows ++ sat).Perm all
  deq : den = sumOn w rows
  pos : 0 < den
  num0 : 0 ≤ num
  le : num ≤ sumOn r rows
  full : ∀ i ∈ sat, r i * den < w i * num
  units : units = num + sumOn r sat
theorem levOk_start {r w : Nat → Int} {all : List Nat} {units : Int} (hw : ∀ i ∈ all, 0 < w i) (hn : all ≠ []) (h0 : 0 ≤ units) (h1 : units ≤ sumOn r all) : LevOk r w all units all [] units (sumOn w all) := by
  have := sumOn_lt (f := fun _ => 0) (g := w) hn hw
  rw [sumOn_zero] at this
  exact ⟨(by simp), rfl, this, h0, h1, (fun i hi => by cases hi), (by simp [sumOn])⟩
theorem mem_full {r w : Nat → Int} {rows : List Nat} {num den : Int} {i : Nat} : i ∈ fullL r w rows num den ↔ i ∈ rows ∧ r i * den < w i * num := by unfold fullL overB; rw [List.mem_filter, dec_iff]
theorem mem_rest {r w : Nat → Int} {rows : List Nat} {num den : Int} {i : Nat} : i ∈ restL r w rows num den ↔ i ∈ rows ∧ ¬ r i * den < w i * num := by
  unfold restL overB
  rw [List.mem_filter, Bool.not_eq_true', ← Bool.not_eq_true, dec_iff]
theorem perm_fr {r w : Nat → Int} (rows : List Nat) (num den : Int) : (restL r w rows num den ++ fullL r w rows num den).Perm rows := by
  unfold fullL restL
  exact (List.perm_append_comm).trans (List.filter_append_perm _ rows)
theorem levOk_step {r w : Nat → Int} {all : List Nat} {units : Int} {rows sat : List Nat} {num den : Int} (hw : ∀ i ∈ all, 0 < w i) (h : LevOk r w all units rows sat num den) :
    LevOk r w all units (restL r w rows num den) (sat ++ fullL r w rows num den) (num - sumOn r (fullL r w rows num den)) (den - sumOn w (fullL r w rows num den)) := by
  have hp : ∀ f : Nat → Int, sumOn f rows = sumOn f (fullL r w rows num den) + sumOn f (restL r w rows num den) := fun f => sum_part r w f rows num den
  have hsub : ∀ i ∈ rows, i ∈ all := fun i hi => h.perm.mem_iff.mp (List.mem_append_left _ hi)
  have hsat : ∀ i ∈ sat, i ∈ all := fun i hi => h.perm.mem_iff.mp (List.mem_append_right _ hi)
  have hne : restL r w rows num den ≠ [] := by
    intro e
    have e1 := hp (fun i => r i * den)
    have e2 := hp (fun i => w i * num)
    rw [e] at e1 e2
    have z : ∀ f : Nat → Int, sumOn f [] = 0 := fun _ => rfl
    rw [z, Int.add_zero] at e1 e2
    have hfn : fullL r w rows num den ≠ [] := by
      intro q
      have := hp w
      rw [q, e, z, ← h.deq] at this
      have := h.pos
      omega
    have l := sumOn_lt (L := fullL r w rows num den) hfn fun i hi => (mem_full.mp hi).2
    rw [← e1, ← e2, sumOn_mulr, sumOn_mulr, ← h.deq, Int.mul_comm den num] at l
    have h3 : num * den ≤ sumOn r rows * den := Int.mul_le_mul_of_nonneg_right h.le (Int.le_of_lt h.pos)
    omega
  have hden : den - sumOn w (fullL r w rows num den) = sumOn w (restL r w rows num den) := by
    have := hp w
    rw [← h.deq] at this
    omega
  have hpos : 0 < den - sumOn w (fullL r w rows num den) := by
    rw [hden]
    have := sumOn_lt (f := fun _ => 0) (g := w) hne fun i hi => hw i (hsub i (mem_rest.mp hi).1)
    rw [sumOn_zero] at this
    exact this
  have hgrow : num * (den - sumOn w (fullL r w rows num den)) ≤ (num - sumOn r (fullL r w rows num den)) * den := by
    have l := sumOn_le (f := fun i => r i * den) (g := fun i => w i * num) (L := fullL r w rows num den) fun i hi => Int.le_of_lt (mem_full.mp hi).2
    rw [sumOn_mulr, sumOn_mulr] at l
    rw [Int.mul_sub, Int.sub_mul]
    have : num * sumOn w (fullL r w rows num den) = sumOn w (fullL r w rows num den) * num := Int.mul_comm _ _
    omega
  have hnum0 : 0 ≤ num - sumOn r (fullL r w rows num den) := by
    have h1 : 0 ≤ num * (den - sumOn w (fullL r w rows num den)) := Int.mul_nonneg h.num0 (Int.le_of_lt hpos)
    exact Int.not_lt.mp fun q => by
      have := Int.mul_neg_of_neg_of_pos q h.pos
      omega
  have hle : num - sumOn r (fullL r w rows num den) ≤ sumOn r (restL r w rows num den) := by
    have := hp r
    have := h.le
    omega
  have hover : ∀ i, r i * den < w i * num → 0 < w i → r i * (den - sumOn w (fullL r w rows num den)) < w i * (num - sumOn r (fullL r w rows num den)) := fun i hi hwi => by
    have a1 : (r i * (den - sumOn w (fullL r w rows num den))) * den < (w i * (num - sumOn r (fullL r w rows num den))) * den := by
      have b1 : r i * den * (den - sumOn w (fullL r w rows num den)) < w i * num * (den - sumOn w (fullL r w rows num den)) := Int.mul_lt_mul_of_pos_right hi hpos
      have b2 : w i * (num * (den - sumOn w (fullL r w rows num den))) ≤ w i * ((num - sumOn r (fullL r w rows num den)) * den) := Int.mul_le_mul_of_nonneg_left hgrow (Int.le_of_lt hwi)
      rw [Int.mul_right_comm]
      rw [Int.mul_assoc (w i)] at b1
      rw [Int.mul_assoc (w i)]
      omega
    exact Int.lt_of_mul_lt_mul_right a1 (Int.le_of_lt h.pos)
  refine ⟨?_, hden, hpos, hnum0, hle, fun i hi => ?_, ?_⟩
  · refine List.Perm.trans ?_ h.perm
    have := perm_fr (r := r) (w := w) rows num den
    calc (restL r w rows num den ++ (sat ++ fullL r w rows num den)).Perm (restL r w rows num den ++ (fullL r w rows num den ++ sat)) := List.Perm.append_left _ List.perm_append_comm
      _ = (restL r w rows num den ++ fullL r w rows num den) ++ sat := by rw [List.append_assoc]
      List.Perm _ (rows ++ sat) := List.Perm.append_right _ this
  · rcases List.mem_append.mp hi with q | q
    · exact hover i (h.full i q) (hw i (hsat i q))
    · obtain ⟨q1, q2⟩ := mem_full.mp q
      exact hover i q2 (hw i (hsub i q1))
  · rw [sumOn_app]
    have := h.units
    omega
/-- the last level: whoever is over is full -/
theorem levOk_end {r w : Nat → Int} {all : List Nat} {units : Int} {rows sat : List Nat} {num den : Int} (h : LevOk r w all units rows sat num den) (he : fullL r w rows num den = []) : ∀ i ∈ all, (i ∈ sat ↔ r i * den < w i * num) := fun i hi => by
  refine ⟨h.full i, fun q => ?_⟩
  rcases List.mem_append.mp (h.perm.mem_iff.mpr hi) with z | z
  · have : i ∈ fullL r w rows num den := mem_full.mpr ⟨z, q⟩
    rw [he] at this
    cases this
  · exact z
/-- every level ends so -/
theorem lev_ok {r w : Nat → Int} {all : List Nat} {units : Int} (hw : ∀ i ∈ all, 0 < w i) : ∀ (k : Nat) (rows sat : List Nat) (num den : Int), rows.length ≤ k → LevOk r w all units rows sat num den →
    ∃ sat', LevOk r w all units (lev r w rows num den).1 sat' (lev r w rows num den).2.1 (lev r w rows num den).2.2 ∧ fullL r w (lev r w rows num den).1 (lev r w rows num den).2.1 (lev r w rows num den).2.2 = []
  | 0, rows, sat, num, den, hk, h => by
    have e : rows = [] := List.length_eq_zero_iff.mp (by omega)
    subst e
    have := h.deq
    have := h.pos
    simp [sumOn] at *
    omega
  | k + 1, rows, sat, num, den, hk, h => by
    by_cases q : (fullL r w rows num den).isEmpty = true
    · rw [lev_stop r w q]
      exact ⟨sat, h, List.isEmpty_iff.mp q⟩
    · rw [lev_go r w q]
      have hl := restL_lt r w q
      exact lev_ok hw k _ _ _ _ (by omega) (levOk_step hw h)
end PreW

set_option linter.all false
set_option Elab.async false
set_option maxRecDepth 100000
/-! PreS: columns, joins, rows of sources. -/
namespace Dn
open PySem Pre
theorem w_join {s : SF} {σ : Env} {st : Store} {N : Env → Store → Prop} {R : A → Store → Prop} {B C : Env → Store → Prop} {X : Exc → Env → Store → Prop} (P : Env → Store → Prop) (h : okS (s σ st) ⟨P, fun _ _ => False, fun _ _ => False, fun _ _ => False, fun _ _ _ => False⟩) (k : ∀ σ st, P σ st → N σ st) : okS (s σ st) ⟨N, R, B, C, X⟩ := by
  cases q : s σ st with
  | nx σ1 st1 => rw [q] at h; exact k _ _ h
  | rt x s => rw [q] at h; exact h.elim
  | bk x s => rw [q] at h; exact h.elim
  | ct x s => rw [q] at h; exact h.elim
  | err x y s => rw [q] at h; exact h.elim
  | bad => rw [q] at h; exact h.elim
theorem w_joinE {e : RE A} {Q : A → Store → Prop} {E : Exc → Store → Prop} (P : A → Store → Prop) (h : okE e P (fun _ _ => False)) (k : ∀ x st, P x st → Q x st) : okE e Q E := by
  cases q : e with
  | ok x s => rw [q] at h; exact k _ _ h
  | err x s => rw [q] at h; exact h.elim
  | bad => rw [q] at h; exact h.elim
/-- a column of a comprehension -/
theorem w_col {β : Type} {it : IF} {t : TgF} {e : EF} {vs : List Nat} {σ : Env} {st : Store} {Q : A → Store → Prop} {E : Exc → Store → Prop} (ys : List β) (f g : β → D) (hlen : ys.length < sizeMax)
    (hit : it σ st = .ok ⟨(ys.map f).map .v, fun _ => True⟩ st)
    (hs : ∀ y ∈ ys, ∃ σ1, t (.v (f y)) (wipeE σ vs) st = some (σ1, st) ∧ okE (e σ1 st) (fun a st3 => a = .v (g y) ∧ st3 = st) (fun _ _ => False))
    (q : Q (.v (.lst (ys.map g))) st) : okE (fFrz (lComp it t tYes e vs) σ st) Q E := by
  refine w_frz (w_compP ys f (fun _ => true) g hlen hit (fun y hy => ?_) ?_)
  · obtain ⟨σ1, h1, h2⟩ := hs y hy
    exact ⟨σ1, h1, ⟨rfl, rfl⟩, fun _ => h2⟩
  · rw [List.filter_eq_self.mpr fun _ _ => rfl]
    exact frz_i (frzL_vals _ _) q
/-- the sum of a column -/
theorem w_colsum {β : Type} {it : IF} {t : TgF} {e : EF} {vs : List Nat} {σ : Env} {st : Store} {Q : A → Store → Prop} {E : Exc → Store → Prop} (ys : List β) (f : β → D) (g : β → Int) (hlen : ys.length < sizeMax)
    (hit : it σ st = .ok ⟨(ys.map f).map .v, fun _ => True⟩ st)
    (hs : ∀ y ∈ ys, ∃ σ1, t (.v (f y)) (wipeE σ vs) st = some (σ1, st) ∧ okE (e σ1 st) (fun a st3 => a = .v (.int (g y)) ∧ st3 = st) (fun _ _ => False))
    (q : Q (.v (.int ((ys.map g).sum))) st) : okE (fB bSumU [fFrz (lComp it t tYes e vs)] σ st) Q E :=
  w_B (w_cons (w_col ys f (fun y => .int (g y)) hlen hit hs (w_nil (w_sumX (xs := ys.map g) (by rw [List.map_map]; rfl) q))))
end Dn
namespace PreW
open PySem Dn Pre
structure SrcV where
  (lo hi point share : Int)
noncomputable def srcD (s : SrcV) : D := .tup [.int s.lo, .int s.hi, .int s.point, .int s.share]
structure SrcOk (s : SrcV) : Prop where
  lo : 0 ≤ s.lo
  lop : s.lo ≤ s.point
  hip : s.point ≤ s.hi
  hi : s.hi ≤ 1000
  share : 1 ≤ s.share ∧ s.share ≤ 1000
def sgn (up : Bool) : Int := if up = true then 1 else -1
def roomD (up : Bool) (s : SrcV) : Int := if up = true then s.hi - s.point else s.point - s.lo
theorem sgn_b (up : Bool) : -1 ≤ sgn up ∧ sgn up ≤ 1 := by cases up <;> decide
theorem roomD_b {s : SrcV} (h : SrcOk s) (up : Bool) : 0 ≤ roomD up s ∧ roomD up s ≤ 1000 := by
  have := h.lo; have := h.lop; have := h.hip; have := h.hi
  cases up
  · show 0 ≤ s.point - s.lo ∧ s.point - s.lo ≤ 1000; omega
  · show 0 ≤ s.hi - s.point ∧ s.hi - s.point ≤ 1000; omega
def sumF {β : Type} (f : β → Int) (rows : List β) : Int := (rows.map f).sum
def gapOf (rows : List SrcV) (total : Int) : Int := total - sumF SrcV.point rows
noncomputable def upOf (rows : List SrcV) (total : Int) : Bool := dec (0 ≤ gapOf rows total)
noncomputable def rmF (rows : List SrcV) (up : Bool) : Nat → Int := fun i => (rows.map (roomD up)).getD i 0
noncomputable def shF (rows : List SrcV) : Nat → Int := fun i => (rows.map SrcV.share).getD i 0
noncomputable def lvl (rows : List SrcV) (up : Bool) (total : Int) : List Nat × Int × Int := lev (rmF rows up) (shF rows) (List.range rows.length) (sgn up * gapOf rows total) (sumF SrcV.share rows)
noncomputable def outR (up : Bool) (num den : Int) (s : SrcV) : RatV := if roomD up s * den < s.share * num then ratOf (s.point + sgn up * roomD up s) 1 else ratOf (s.point * den + sgn up * s.share * num) den
/-- what the law's hand writes: over den -/
noncomputable def outN (up : Bool) (num den : Int) (s : SrcV) : Int := if roomD up s * den < s.share * num then (s.point + sgn up * roomD up s) * den else s.point * den + sgn up * s.share * num
theorem getD_map {β : Type} (f : β → Int) (rows : List β) (i : Nat) (h : i < rows.length) : ∃ s, rows[i]? = some s ∧ (rows.map f).getD i 0 = f s := by
  refine ⟨rows[i], List.getElem?_eq_getElem h, ?_⟩
  rw [List.getD_eq_getElem?_getD, List.getElem?_map, List.getElem?_eq_getElem h]
  rfl
theorem sumOn_range {β : Type} (f : β → Int) (rows : List β) : sumOn (fun i => (rows.map f).getD i 0) (List.range rows.length) = sumF f rows := by
  unfold sumOn sumF
  congr 1
  apply List.ext_getElem
  · simp
  · intro i h1 h2
    simp at h1
    simp [h1]
theorem sumF_le {β : Type} {f g : β → Int} : ∀ {L : List β}, (∀ i ∈ L, f i ≤ g i) → sumF f L ≤ sumF g L
  | [], _ => Int.le_refl _
  | a :: t, h => by
    have h1 := h a List.mem_cons_self
    have h2 := sumF_le (L := t) fun i hi => h i (List.mem_cons_of_mem _ hi)
    unfold sumF at *
    simp only [List.map_cons, List.sum_cons]
    omega
theorem sumF_sub {β : Type} {f g : β → Int} : ∀ {L : List β}, sumF (fun i => f i - g i) L = sumF f L - sumF g L
  | [] => rfl
  | a :: t => by
    have h2 := sumF_sub (f := f) (g := g) (L := t)
    unfold sumF at *
    simp only [List.map_cons, List.sum_cons, h2]
    omega
theorem sumF_const {β : Type} {c : Int} : ∀ {L : List β}, sumF (fun _ => c) L = L.length * c
  | [] => by simp [sumF]
  | a :: t => by
    have h2 := sumF_const (c := c) (L := t)
    unfold sumF at *
    simp only [List.map_cons, List.sum_cons, h2, List.length_cons]
    rw [show ((t.length + 1 : Nat) : Int) = (t.length : Int) + 1 by omega, Int.add_mul, Int.one_mul]
    omega
theorem lvl_start {rows : List SrcV} {total : Int} (hn : rows ≠ []) (ok : ∀ s ∈ rows, SrcOk s) (h1 : sumF SrcV.lo rows ≤ total) (h2 : total ≤ sumF SrcV.hi rows) :
    (∀ i ∈ List.range rows.length, 0 < shF rows i) ∧ LevOk (rmF rows (upOf rows total)) (shF rows) (List.range rows.length) (sgn (upOf rows total) * gapOf rows total) (List.range rows.length) [] (sgn (upOf rows total) * gapOf rows total) (sumF SrcV.share rows) := by
  have hw : ∀ i ∈ List.range rows.length, 0 < shF rows i := fun i hi => by
    obtain ⟨s, hs, e⟩ := getD_map SrcV.share rows i (List.mem_range.mp hi)
    unfold shF
    rw [e]
    have := (ok s (List.mem_of_getElem? hs)).share
    omega
  have hne : List.range rows.length ≠ [] := fun e => hn (List.length_eq_zero_iff.mp (List.range_eq_nil.mp e))
  have e1 : sumOn (shF rows) (List.range rows.length) = sumF SrcV.share rows := sumOn_range _ _
  have hroom : ∀ up, sumOn (rmF rows up) (List.range rows.length) = sumF (roomD up) rows := fun up => sumOn_range _ _
  have h0 : 0 ≤ sgn (upOf rows total) * gapOf rows total ∧ sgn (upOf rows total) * gapOf rows total ≤ sumF (roomD (upOf rows total)) rows := by
    cases hb : upOf rows total
    · have hg : ¬ 0 ≤ gapOf rows total := fun q => by unfold upOf at hb; rw [dec_pos q] at hb; cases hb
      have er : sumF (roomD false) rows = sumF SrcV.point rows - sumF SrcV.lo rows := sumF_sub
      rw [er]
      unfold gapOf at *
      show 0 ≤ -1 * _ ∧ -1 * _ ≤ _
      omega
    · have hg : 0 ≤ gapOf rows total := by unfold upOf at hb; rw [dec_iff] at hb; exact hb
      have er : sumF (roomD true) rows = sumF SrcV.hi rows - sumF SrcV.point rows := sumF_sub
      rw [er]
      unfold gapOf at *
      show 0 ≤ 1 * _ ∧ 1 * _ ≤ _
      omega
  have st := levOk_start (r := rmF rows (upOf rows total)) (w := shF rows) hw hne h0.1 (by rw [hroom]; exact h0.2)
  rw [e1] at st
  exact ⟨hw, st⟩
/-- the level of a total within reach -/
theorem lvl_ok {rows : List SrcV} {total : Int} (hn : rows ≠ []) (ok : ∀ s ∈ rows, SrcOk s) (h1 : sumF SrcV.lo rows ≤ total) (h2 : total ≤ sumF SrcV.hi rows) :
    ∃ sat, LevOk (rmF rows (upOf rows total)) (shF rows) (List.range rows.length) (sgn (upOf rows total) * gapOf rows total) (lvl rows (upOf rows total) total).1 sat (lvl rows (upOf rows total) total).2.1 (lvl rows (upOf rows total) total).2.2 ∧
      fullL (rmF rows (upOf rows total)) (shF rows) (lvl rows (upOf rows total) total).1 (lvl rows (upOf rows total) total).2.1 (lvl rows (upOf rows total) total).2.2 = [] := by
  obtain ⟨hw, st⟩ := lvl_start hn ok h1 h2
  exact lev_ok hw _ _ _ _ _ (Nat.le_refl _) st
theorem lvl_den {rows : List SrcV} {up : Bool} {u : Int} {R sat : List Nat} {num den : Int} (ok : ∀ s ∈ rows, SrcOk s) (hl : rows.length ≤ 100) (h : LevOk (rmF rows up) (shF rows) (List.range rows.length) u R sat num den) : 1 ≤ den ∧ den ≤ 100000 := by
  have hw : ∀ i ∈ List.range rows.length, 0 ≤ shF rows i := fun i hi => by
    obtain ⟨s, hs, e⟩ := getD_map SrcV.share rows i (List.mem_range.mp hi)
    unfold shF
    rw [e]
    have := (ok s (List.mem_of_getElem? hs)).share
    omega
  have e1 : sumOn (shF rows) (List.range rows.length) = sumF SrcV.share rows := sumOn_range _ _
  have e2 := sumOn_perm (f := shF rows) h.perm
  rw [sumOn_app, e1] at e2
  have e3 : 0 ≤ sumOn (shF rows) sat := by
    have := sumOn_le (f := fun _ => 0) (g := shF rows) (L := sat) fun i hi => hw i (h.perm.mem_iff.mp (List.mem_append_right _ hi))
    rw [sumOn_zero] at this
    exact this
  have e4 : sumF SrcV.share rows ≤ rows.length * 1000 := by
    rw [← sumF_const (L := rows)]
    exact sumF_le fun s hs => (ok s hs).share.2
  have := h.pos
  have := h.deq
  omega
end PreW

set_option linter.all false
set_option Elab.async false
set_option maxRecDepth 100000
/-! WpG: drawn numbers and rows. -/
set_option hygiene false
local macro_rules
  | `(tactic| repeat1' $s:tacticSeq) => `(tactic| repeat' (first | with_reducible refine w_seq ?_ | with_reducible refine w_set ?_ | with_reducible refine w_sif ?_ | with_reducible refine w_ret ?_ | with_reducible refine w_expr ?_ | with_reducible refine w_snil ?_ | with_reducible refine w_asg ?_ | with_reducible refine w_tcmp ?_ | with_reducible refine w_op ?_ | with_reducible refine w_C ?_ | with_reducible refine w_call ?_ | with_reducible refine w_cons ?_ | with_reducible refine w_nil ?_ | with_reducible refine w_tup ?_ | with_reducible refine w_B ?_ | with_reducible refine w_un ?_ | with_reducible refine w_frz ?_ | with_reducible refine w_disp ?_ | with_reducible refine w_liveS ?_ | with_reducible refine w_liveT ?_ | with_reducible refine w_fld ?_ | with_reducible refine w_ix0 ?_ | with_reducible refine w_ix1 ?_ | with_reducible refine w_ix2 ?_ | with_reducible refine w_ix3 ?_ | with_reducible refine w_ix4 ?_ | with_reducible refine w_ix5 ?_ | with_reducible refine w_ix6 ?_ | with_reducible refine w_ix7 ?_ | with_reducible refine w_ix8 ?_ | with_reducible refine w_ix9 ?_ | with_reducible refine w_ix10 ?_ | with_reducible refine w_ix11 ?_ | with_reducible refine w_ix12 ?_ | with_reducible refine w_ix13 ?_ | with_reducible refine w_ix14 ?_ | with_reducible refine w_ix15 ?_ | with_reducible refine w_tand ?_ | with_reducible refine w_tor ?_ | with_reducible refine w_tnot ?_ | with_reducible refine w_tyes ?_ | with_reducible refine w_tof ?_ | with_reducible refine w_if ?_ | with_reducible refine w_chain ?_ | with_reducible refine w_len ?_ | with_reducible refine w_isi ?_ | with_reducible refine w_opM ?_ | with_reducible refine w_unM ?_ | with_reducible refine w_bM ?_ | with_reducible refine w_met ?_ | with_reducible refine w_isC ?_ | with_reducible refine opM_int ?_ | with_reducible refine opM_lst ?_ | with_reducible refine opM_tup ?_ | with_reducible refine unM_int ?_ | with_reducible refine opM_obj ?_ | with_reducible refine unM_obj ?_ | with_reducible refine w_fand ?_ | with_reducible refine w_for_ ?_ | with_reducible refine w_fnot ?_ | with_reducible refine w_pass ?_ | with_reducible refine w_brk ?_ | with_reducible refine w_cont ?_ | with_reducible refine w_retN ?_ | with_reducible refine w_par ?_ | with_reducible refine w_appS ?_ | with_reducible refine w_appT ?_ | with_reducible refine w_tupX ?_ | with_reducible refine tuV_l ?_ | with_reducible refine tuV_t ?_ | with_reducible refine tuV_r ?_ | with_reducible refine w_lcall ?_ | with_reducible refine w_lrange1 ?_ | with_reducible refine w_list ?_ | with_reducible refine w_ixm ?_ | with_reducible refine w_ixv ?_ | with_reducible refine w_new ?_ | with_reducible refine w_sun ?_ | with_reducible refine w_slice1 ?_ | with_reducible refine w_sliceG ?_ | with_reducible refine slG_t ?_ | with_reducible refine slG_l ?_ | with_reducible refine w_sliceT ?_ | with_reducible refine w_sliceD ?_ | with_reducible refine slT_i ?_ | with_reducible refine slT_s ?_ | with_reducible refine w_dget ?_ | with_reducible refine w_sfor ?_ | with_reducible refine w_dic ?_ | with_reducible refine w_comp ?_ | with_reducible refine w_range1 ?_ | with_reducible refine w_range2 ?_ | with_reducible refine w_iseq ?_ | with_reducible refine w_ienum ?_ | with_reducible refine w_izip ?_ | with_reducible refine w_izip3 ?_ | with_reducible refine isq_l ?_ | with_reducible refine isq_t ?_ | with_reducible refine isq_r ?_ | with_reducible refine retS_v ?_ | with_reducible refine retT_v ?_ | ((with_reducible refine w_aug (x := ?_) ?_ ?_); rotate_left; rfl) | ((with_reducible refine aug_i (z := ?_) ?_ ?_); rotate_left; rfl) | with_reducible refine w_sum ?_ | with_reducible refine w_sumT ?_ | ((with_reducible refine visi_i (d := ?_) ?_ ?_ ?_); rotate_left; rfl; rfl) | ((with_reducible refine bmi_i ?_)) | ((with_reducible refine bmo_i ?_)) | ((with_reducible refine met_i ?_ ?_); rfl) | ((with_reducible refine isC_i (z := ?_) ?_ ?_); rotate_left; (first | exact isC_obj | exact isC_not rfl)) | ((with_reducible refine w_var (x := ?_) ?_ ?_); rotate_left; rfl) | with_reducible refine w_max2 (fun m h1 h2 h3 => ?_) | with_reducible refine w_min2 (fun m h1 h2 h3 => ?_) | with_reducible refine w_abs (fun m h1 h2 => ?_) | ((with_reducible refine w_of (z := ?_) ?_ ?_); rotate_left; rfl) | ((with_reducible refine frz_i (ds := ?_) (st2 := ?_) ?_ ?_); rotate_left; rotate_left; rfl; (try dsimp only)) | ((with_reducible refine els_i (xs := ?_) ?_ ?_); rotate_left; rfl) | ((with_reducible refine elsT_i (xs := ?_) ?_ ?_); rotate_left; rfl) | ((with_reducible refine elsS_i (xs := ?_) ?_ ?_); rotate_left; rfl) | ((with_reducible refine livT_i ?_ ?_); exact all_vals _ _) | ((with_reducible refine livS_i ?_ ?_); exact all_vals _ _) | ((with_reducible refine atk_i (z := ?_) ?_ ?_); rotate_left; rfl) | ((with_reducible refine boo_i (c := ?_) ?_ ?_); rotate_left; rfl) | with_reducible refine frz_i (frzL_vals _ _) ?_ | with_reducible refine frz_v ?_ | with_reducible refine frz_nil ?_ | ((with_reducible refine frzS_ref (ds := ?_) ?_ ?_); rotate_left; rfl) | ((with_reducible refine frzT_ref (ds := ?_) ?_ ?_); rotate_left; rfl) | with_reducible refine ixn_i ?_ | ((with_reducible refine sqd_i (ds := ?_) (g := ?_) ?_ ?_); rotate_left; rotate_left; rfl) | ((with_reducible refine rg1_i ?_ ?_); (first | omega | (simp only [List.length_map]; omega))) | ((with_reducible refine rg2_i ?_ ?_); omega) | ((with_reducible refine retS_r (ds := ?_) ?_ ?_); rotate_left; rfl) | ((with_reducible refine retT_r (ds := ?_) ?_ ?_); rotate_left; rfl) | ((with_reducible refine tgt_i (σ2 := ?_) (st2 := ?_) ?_ ?_); rotate_left; rotate_left; rfl; (try dsimp only)) | ((with_reducible refine vie_i (d := ?_) ?_ ⟨rfl, ?_⟩); rotate_left; rfl) | ((with_reducible refine w_mul ?_ ?_); (first | exact .inl (.inl (by omega)) | exact .inl (.inr (by omega)))) | ((with_reducible refine w_mod ?_ ?_); omega) | ((with_reducible refine w_div ?_ ?_); exact divOk_of (by omega) (by omega)) | ((with_reducible refine br_eqt (dec_pos ?_) ?_); (with_reducible rfl)) | ((with_reducible refine br_in2 (fun bh => ?_) (fun bh => ?_)) <;> try (exfalso; omega)) | ((with_reducible refine br_inS (dec_pos ?_) ?_); (first | exact .inl rfl | exact .inr rfl)) | ((with_reducible refine br_inS (dec_neg ?_) ?_); exact (fun q => q.elim (ne_str (by decide)) (ne_str (by decide)))) | ((with_reducible refine br_eqf (dec_neg ?_) ?_); (with_reducible exact ne_str (by decide))) | ((with_reducible refine br_dec (fun bh => ?_) (fun bh => ?_)) <;> try (exfalso; (try simp only [List.length_map, List.length_nil, List.length_cons] at bh); omega)) | with_reducible refine br_t ?_ | with_reducible refine br_f ?_ | with_reducible refine br_not ?_ | ((with_reducible refine br_eqt ?_ ?_); rfl) | ((with_reducible refine br_eqf ?_ ?_); rfl) | ((with_reducible refine livS_i ?_ ?_); (first | rfl | (simp; done))) | ((with_reducible refine livT_i ?_ ?_); (first | rfl | (simp; done))) | ((with_reducible refine apS1_i (xs0 := ?_) ?_ ?_); rotate_left; rfl) | ((with_reducible refine apT1_i (xs0 := ?_) ?_ ?_); rotate_left; rfl) | ((with_reducible refine apS2_i (xs0 := ?_) ?_ ?_ ?_); rotate_left; rfl; (first | (simp only [sizeMax, List.length_map, List.length_append, List.length_cons, List.length_nil]; omega) | skip)) | ((with_reducible refine apT2_i (xs0 := ?_) ?_ ?_ ?_); rotate_left; rfl; (first | (simp only [sizeMax, List.length_map, List.length_append, List.length_cons, List.length_nil]; omega) | skip)) | ((with_reducible refine tuS_i (ds := ?_) ?_ ?_); rotate_left; rfl) | ((with_reducible refine tuT_i (ds := ?_) ?_ ?_); rotate_left; rfl) | ((with_reducible refine draw_w (by assumption) ?_ ?_ (fun v q h1 h2 => ?_)); omega; omega) | ((with_reducible refine up_w (by assumption) ?_ ?_ ?_ ?_ (fun v q h1 h2 => ?_)); omega; omega; omega; omega) | with_reducible refine pick_i2 (by assumption) (fun v q h1 => ?_) | with_reducible refine pick_i3 (by assumption) (fun v q h1 => ?_) | with_reducible refine pick_i4 (by assumption) (fun v q h1 => ?_) | with_reducible refine pick_i5 (by assumption) (fun v q h1 => ?_) | with_reducible refine pick_i6 (by assumption) (fun v q h1 => ?_) | with_reducible refine pick_i7 (by assumption) (fun v q h1 => ?_) | with_reducible refine pick_i8 (by assumption) (fun v q h1 => ?_) | with_reducible refine pick_i9 (by assumption) (fun v q h1 => ?_) | ($s)))
set_option hygiene true
namespace Dn
open PySem Pre
section
variable {st : Store} {i : Nat} {p : Pool} {ext : List Cell} {Q : A → Store → Prop} {E : Exc → Store → Prop}
theorem up_w {a b : Int} (hi : i < st.length) (a1 : 1 ≤ a) (a2 : a < 18446744073709551616) (b1 : 1 ≤ b) (b2 : b < 18446744073709551616) (h : ∀ v q, 0 ≤ v → (v < a ∨ v < b) → Q (.v (.int v)) (S st i q ext)) : okE (d__law_up [.ref i, .v (.int a), .v (.int b)] (S st i p ext)) Q E := by
  refine w_fnS hi (fun d => ∃ v, d = .int v ∧ 0 ≤ v ∧ (v < a ∨ v < b)) (fun st1 hi => ?_) fun d q ⟨v, e, o1, o2⟩ => by rw [e]; exact h v q o1 o2
  unfold b__law_up
  repeat1' fail
  · exact ⟨_, rfl, by assumption, .inl (by assumption)⟩
  · exact ⟨_, rfl, by assumption, .inr (by assumption)⟩
end
/-- a row whose items are drawn -/
theorem w_compD {β : Type} {it : IF} {t : TgF} {e : EF} {vs : List Nat} {σ : Env} {st : Store} {i : Nat} {p : Pool} {ext : List Cell} {QL : List A → Store → Prop} {E : Exc → Store → Prop} (ys : List β) (f : β → D) (P : β → D → Prop) (hlen : ys.length < sizeMax)
    (hit : it σ (S st i p ext) = .ok ⟨(ys.map f).map .v, fun _ => True⟩ (S st i p ext))
    (hs : ∀ y ∈ ys, ∀ q, ∃ σ1, t (.v (f y)) (wipeE σ vs) (S st i q ext) = some (σ1, S st i q ext) ∧ okE (e σ1 (S st i q ext)) (fun a st3 => ∃ d q', a = .v d ∧ st3 = S st i q' ext ∧ P y d) (fun _ _ => False))
    (q : ∀ (ds : List D) q', ds.length = ys.length → (∀ (j : Nat) y d, ys[j]? = some y → ds[j]? = some d → P y d) → QL (ds.map .v) (S st i q' ext)) : okE (lComp it t tYes e vs σ (S st i p ext)) QL E := by
  refine w_comp ?_
  rw [hit]
  refine ⟨fun j acc st' => ∃ q', st' = S st i q' ext ∧ ∃ ds : List D, acc = ds.map .v ∧ ds.length = j ∧ ∀ (k : Nat) y d, ys[k]? = some y → ds[k]? = some d → P y d, ⟨p, rfl, [], rfl, rfl, fun k y d _ h => by cases h⟩, fun _ _ _ _ => trivial, ?_, ?_⟩
  · rintro j x acc st' hx ⟨q', rfl, ds, rfl, hl, hP⟩
    obtain ⟨y, hy, rfl⟩ := map_get hx
    obtain ⟨σ1, h1, h2⟩ := hs y (List.mem_of_getElem? hy) q'
    refine ⟨σ1, _, h1, ?_⟩
    refine br_t (okE_mono h2 ?_)
    rintro a st3 ⟨d, q2, rfl, rfl, hd⟩
    have hjl := (List.getElem?_eq_some_iff.mp hy).1
    refine ⟨by rw [List.length_map]; omega, q2, rfl, ds ++ [d], by rw [List.map_append]; rfl, by rw [List.length_append, hl]; rfl, fun k y2 d2 hk hd2 => ?_⟩
    by_cases hkj : k < ds.length
    · rw [List.getElem?_append_left hkj] at hd2
      exact hP k y2 d2 hk hd2
    · rw [List.getElem?_append_right (by omega)] at hd2
      have hk0 : k - ds.length = 0 := by
        have := (List.getElem?_eq_some_iff.mp hd2).1
        simp at this
        omega
      rw [hk0] at hd2
      cases hd2
      have : k = j := by omega
      subst this
      rw [hy] at hk
      cases hk
      exact hd
  · rintro acc st' ⟨q', rfl, ds, rfl, hl, hP⟩
    rw [List.length_map, List.length_map] at hl
    exact q ds q' hl hP
/-- data by data: all of one form -/
theorem forms {γ : Type} {f : γ → D} {P : γ → Prop} : ∀ (ds : List D), (∀ d ∈ ds, ∃ z, d = f z ∧ P z) → ∃ zs : List γ, ds = zs.map f ∧ ∀ z ∈ zs, P z
  | [], _ => ⟨[], rfl, fun z h => by cases h⟩
  | d :: r, h => by
    obtain ⟨z, e, p⟩ := h d List.mem_cons_self
    obtain ⟨zs, e2, p2⟩ := forms r fun x hx => h x (List.mem_cons_of_mem _ hx)
    refine ⟨z :: zs, by rw [e, e2]; rfl, fun y hy => ?_⟩
    rcases List.mem_cons.mp hy with q | q
    · rw [q]; exact p
    · exact p2 y q
/-- a row of drawn items of one form -/
theorem w_compF {β γ : Type} {it : IF} {t : TgF} {e : EF} {vs : List Nat} {σ : Env} {st : Store} {i : Nat} {p : Pool} {ext : List Cell} {QL : List A → Store → Prop} {E : Exc → Store → Prop} (ys : List β) (f : β → D) (g : γ → D) (P : γ → Prop) (hlen : ys.length < sizeMax)
    (hit : it σ (S st i p ext) = .ok ⟨(ys.map f).map .v, fun _ => True⟩ (S st i p ext))
    (hs : ∀ y ∈ ys, ∀ q, ∃ σ1, t (.v (f y)) (wipeE σ vs) (S st i q ext) = some (σ1, S st i q ext) ∧ okE (e σ1 (S st i q ext)) (fun a st3 => ∃ z q', a = .v (g z) ∧ st3 = S st i q' ext ∧ P z) (fun _ _ => False))
    (q : ∀ (zs : List γ) q', zs.length = ys.length → (∀ z ∈ zs, P z) → QL ((zs.map g).map .v) (S st i q' ext)) : okE (lComp it t tYes e vs σ (S st i p ext)) QL E := by
  refine w_compD ys f (fun _ d => ∃ z, d = g z ∧ P z) hlen hit (fun y hy q0 => ?_) fun ds q' hl hP => ?_
  · obtain ⟨σ1, h1, h2⟩ := hs y hy q0
    exact ⟨σ1, h1, okE_mono h2 fun a st3 ⟨z, q', e1, e2, pz⟩ => ⟨g z, q', e1, e2, z, rfl, pz⟩⟩
  · obtain ⟨zs, e, p⟩ := forms ds fun d hd => by
      obtain ⟨k, hk⟩ := List.mem_iff_getElem?.mp hd
      have hkl := (List.getElem?_eq_some_iff.mp hk).1
      exact hP k _ d (List.getElem?_eq_getElem (by omega)) hk
    subst e
    exact q zs q' (by simpa using hl) p
/-- .. met on the way -/
theorem drawI {β γ : Type} {t : TgF} {e : EF} {vs : List Nat} {σ : Env} {st : Store} {i : Nat} {p : Pool} {ext : List Cell} {K : List A → Store → Prop} {ys : List β} {f : β → D} (g : γ → D) (P : γ → Prop) (hlen : ys.length < sizeMax)
    (hs : ∀ y ∈ ys, ∀ q, ∃ σ1, t (.v (f y)) (wipeE σ vs) (S st i q ext) = some (σ1, S st i q ext) ∧ okE (e σ1 (S st i q ext)) (fun a st3 => ∃ z q', a = .v (g z) ∧ st3 = S st i q' ext ∧ P z) (fun _ _ => False))
    (q : ∀ (zs : List γ) q', zs.length = ys.length → (∀ z ∈ zs, P z) → K ((zs.map g).map .v) (S st i q' ext)) :
    ∃ I : Nat → List A → Store → Prop, I 0 [] (S st i p ext) ∧ (∀ (j : Nat) (acc : List A) (st : Store), I j acc st → ({ xs := (ys.map f).map A.v, g := fun _ => True } : Src).g st) ∧
      (∀ (j : Nat) (x : A) (acc : List A) (st : Store), ({ xs := (ys.map f).map A.v, g := fun _ => True } : Src).xs[j]? = some x → I j acc st →
        ∃ σ1 st1, t x (wipeE σ vs) st = some (σ1, st1) ∧ okE (tYes σ1 st1) (fun b st2 => Br b (okE (e σ1 st2) (fun a st3 => acc.length < sizeMax ∧ I (j + 1) (acc ++ [a]) st3) (fun _ _ => False)) (I (j + 1) acc st2)) (fun _ _ => False)) ∧
      ∀ (acc : List A) (st : Store), I ({ xs := (ys.map f).map A.v, g := fun _ => True } : Src).xs.length acc st → K acc st := by
  refine ⟨fun j acc st' => ∃ q', st' = S st i q' ext ∧ ∃ zs : List γ, acc = (zs.map g).map .v ∧ zs.length = j ∧ ∀ z ∈ zs, P z, ⟨p, rfl, [], rfl, rfl, fun z h => by cases h⟩, fun _ _ _ _ => trivial, ?_, ?_⟩
  · rintro j x acc st' hx ⟨q', rfl, zs, rfl, hl, hP⟩
    obtain ⟨y, hy, rfl⟩ := map_get hx
    obtain ⟨σ1, h1, h2⟩ := hs y (List.mem_of_getElem? hy) q'
    refine ⟨σ1, _, h1, ?_⟩
    refine br_t (okE_mono h2 ?_)
    rintro a st3 ⟨z, q2, rfl, rfl, hd⟩
    have hjl := (List.getElem?_eq_some_iff.mp hy).1
    refine ⟨by rw [List.length_map, List.length_map]; omega, q2, rfl, zs ++ [z], by rw [List.map_append, List.map_append]; rfl, by rw [List.length_append, hl]; rfl, fun w hw => ?_⟩
    rcases List.mem_append.mp hw with h | h
    · exact hP w h
    · simp only [List.mem_cons, List.not_mem_nil, or_false] at h
      rw [h]; exact hd
  · rintro acc st' ⟨q', rfl, zs, rfl, hl, hP⟩
    rw [List.length_map, List.length_map] at hl
    exact q zs q' hl hP
theorem drawR {γ : Type} {t : TgF} {e : EF} {vs : List Nat} {σ : Env} {st : Store} {i k : Nat} {p : Pool} {ext : List Cell} {K : List A → Store → Prop} (g : γ → D) (P : γ → Prop) (hlen : k < sizeMax)
    (hs : ∀ y ∈ List.range k, ∀ q, ∃ σ1, t (.v (natD y)) (wipeE σ vs) (S st i q ext) = some (σ1, S st i q ext) ∧ okE (e σ1 (S st i q ext)) (fun a st3 => ∃ z q', a = .v (g z) ∧ st3 = S st i q' ext ∧ P z) (fun _ _ => False))
    (q : ∀ (zs : List γ) q', zs.length = k → (∀ z ∈ zs, P z) → K ((zs.map g).map .v) (S st i q' ext)) :
    ∃ I : Nat → List A → Store → Prop, I 0 [] (S st i p ext) ∧ (∀ (j : Nat) (acc : List A) (st : Store), I j acc st → ({ xs := rangeA 0 k, g := fun _ => True } : Src).g st) ∧
      (∀ (j : Nat) (x : A) (acc : List A) (st : Store), ({ xs := rangeA 0 k, g := fun _ => True } : Src).xs[j]? = some x → I j acc st →
        ∃ σ1 st1, t x (wipeE σ vs) st = some (σ1, st1) ∧ okE (tYes σ1 st1) (fun b st2 => Br b (okE (e σ1 st2) (fun a st3 => acc.length < sizeMax ∧ I (j + 1) (acc ++ [a]) st3) (fun _ _ => False)) (I (j + 1) acc st2)) (fun _ _ => False)) ∧
      ∀ (acc : List A) (st : Store), I ({ xs := rangeA 0 k, g := fun _ => True } : Src).xs.length acc st → K acc st := by
  rw [range_nat]
  exact drawI g P (by rw [List.length_range]; exact hlen) hs fun zs q' hl hP => q zs q' (by rw [hl, List.length_range]) hP
/-- x[e] = .. -/
theorem tgSubE {st st2 : Store} {σ : Env} {N : Env → Store → Prop} {a n j : Nat} {e : EF} {d : D} {xs : List A} (h1 : σ[a]? = some (some (.ref n))) (h2 : e σ st = .ok (.v (.int (j : Nat))) st) (h3 : st[n]? = some (.lst xs)) (hj : j < xs.length) (hs : st.set n (.lst (xs.set j (.v d))) = st2) (q : N σ st2) : Tgt (tgSub (fVar a) e) (.v d) σ st N := by
  refine ⟨σ, _, ?_, q⟩
  unfold tgSub
  have e1 : fVar a σ st = .ok (.ref n) st := by unfold fVar; rw [h1]
  rw [e1]
  dsimp only
  rw [h2]
  dsimp only
  have : setL n (j : Int) (A.v d) st = some (st.set n (.lst (xs.set j (.v d)))) := by
    show (st[n]? |> fun c => (match c with
      | some (.lst xs) => (ixOf xs.length (j : Int)).map fun j => st.set n (.lst (xs.set j (A.v d)))
      | _ => none)) = _
    rw [h3]
    dsimp only
    rw [ixLit j hj]
    rfl
  rw [this, hs]
  rfl
end Dn

set_option linter.all false
set_option Elab.async false
/-! WpX: own errors, step by step. -/
namespace Dn
open PySem
section
variable {σ : Env} {st : Store} {Q : A → Store → Prop} {E : Exc → Store → Prop} {N : Env → Store → Prop} {R : A → Store → Prop} {B C : Env → Store → Prop} {X : Exc → Env → Store → Prop} {e : EF}
theorem w_raise0 {c : Str} (h : X ⟨c, [], []⟩ σ st) : okS (sRaise0 c σ st) ⟨N, R, B, C, X⟩ := h
theorem w_raise1 {c f : Str} (h : okE (e σ st) (fun a st1 => ∃ d st2, a.frz st1 = some (d, st2) ∧ X ⟨c, [f], [d]⟩ σ st2) (fun x st => X x σ st)) : okS (sRaise1 c f e σ st) ⟨N, R, B, C, X⟩ := by
  refine okS_st (okE_mono h fun a st1 ⟨d, st2, q1, q2⟩ => ?_)
  rw [q1]
  exact q2
theorem holds_i {i : Nat} {a : Addr} (h : σ[i]? = some (some (.v (.exc a)))) : holdsX i a σ = true := by
  unfold holdsX
  rw [h]
  exact dec_pos rfl
theorem dicGet1 {f : Str} {d : D} : dicGet f [f] [d] = some d := by
  unfold dicGet
  rw [dec_pos rfl, if_pos rfl]
theorem w_xf {i : Nat} {a : Addr} {y : Exc} {tb : List Str} {f : Str} {v : D} (h1 : σ[i]? = some (some (.v (.exc a)))) (h2 : tb.contains y.c = true) (h3 : dicGet f y.ks y.ds = some v) (q : Q (.v v) st) : okE (fXf i a y tb f σ st) Q E := by
  unfold fXf
  rw [holds_i h1, h2]
  exact w_of (by rw [h3]; rfl) q
theorem w_xis {i : Nat} {a : Addr} {y : Exc} {tb : List (Str × Bool)} {b : Bool} (h1 : σ[i]? = some (some (.v (.exc a)))) (h2 : tb.lookup y.c = some b) (q : Q (.v (.bl b)) st) : okE (fXis i a y tb σ st) Q E := by
  unfold fXis
  rw [holds_i h1]
  exact w_of (by rw [h2]; rfl) q
theorem w_try1 {bd : SF} {ct : List (Str × Bool)} {i : Nat} {su : Addr → Exc → SF} (h : okS (bd σ st) ⟨N, R, B, C, fun x σ1 st1 => (ct.lookup x.c = some true ∧ ∃ σ2 st2, (∀ a : Addr, okS (su a x (σ1.set i (some (.v (.exc a)))) st1) ⟨fun σ3 st3 => σ3.set i none = σ2 ∧ st3 = st2, fun _ _ => False, fun _ _ => False, fun _ _ => False, fun _ _ _ => False⟩) ∧ N σ2 st2) ∨ (ct.lookup x.c = some false ∧ X x σ1 st1)⟩) :
    okS (sTry1 bd ct i su σ st) ⟨N, R, B, C, X⟩ := by
  unfold sTry1
  cases q : bd σ st with
  | nx a b => rw [q] at h; exact h
  | rt a b => rw [q] at h; exact h
  | bk a b => rw [q] at h; exact h
  | ct a b => rw [q] at h; exact h
  | bad => rw [q] at h; exact h.elim
  | err x σ1 st1 =>
    rw [q] at h
    rcases h with ⟨h1, σ2, st2, h2, h3⟩ | ⟨h1, h2⟩
    · have key : ∀ a : Addr, goneS i (su a x (σ1.set i (some (.v (.exc a)))) st1) = .nx σ2 st2 := fun a => by
        have := h2 a
        cases z : su a x (σ1.set i (some (.v (.exc a)))) st1 with
        | nx u v =>
          rw [z] at this
          obtain ⟨e1, e2⟩ := this
          show RS.nx (u.set i none) v = _
          rw [e1, e2]
        | rt u v => rw [z] at this; exact this.elim
        | bk u v => rw [z] at this; exact this.elim
        | ct u v => rw [z] at this; exact this.elim
        | err u v w => rw [z] at this; exact this.elim
        | bad => rw [z] at this; exact this.elim
      dsimp only
      rw [h1]
      dsimp only
      rw [gd_pos (fun a => (key a).trans (key 0).symm), key 0]
      exact h3
    · dsimp only
      rw [h1]
      exact h2
/-- a try whose body raises nothing -/
theorem w_try0 {bd : SF} {ct : List (Str × Bool)} {i : Nat} {su : Addr → Exc → SF} (h : okS (bd σ st) ⟨N, R, B, C, fun _ _ _ => False⟩) : okS (sTry1 bd ct i su σ st) ⟨N, R, B, C, X⟩ := by
  refine w_try1 ?_
  cases q : bd σ st with
  | nx a b => rw [q] at h; exact h
  | rt a b => rw [q] at h; exact h
  | bk a b => rw [q] at h; exact h
  | ct a b => rw [q] at h; exact h
  | bad => rw [q] at h; exact h.elim
  | err x σ1 st1 => rw [q] at h; exact h.elim
end
end Dn

set_option linter.all false
set_option Elab.async false
/-! WpE: defs that may raise. -/
namespace Dn
open PySem Pre
section
variable {st : Store} {Q : A → Store → Prop} {E : Exc → Store → Prop} {sb : SF} {xs : List A} {N : Nat}
theorem w_fnTX (P : D → Prop) (PE : Exc → Prop) (h : okS (sb (xs.map some ++ List.replicate (N - xs.length) none) (T st []))
      ⟨fun _ st' => (∃ ext', st' = T st ext') ∧ P .non, fun x st' => RetT st x st' P, fun _ _ => False, fun _ _ => False, fun x _ st' => (∃ ext', st' = T st ext') ∧ PE x⟩)
    (hQ : ∀ d, P d → Q (.v d) st) (hE : ∀ x, PE x → E x st) : okE (fnV N sb xs st) Q E := by
  cases q : sb (xs.map some ++ List.replicate (N - xs.length) none) (T st []) with
  | err x σ s =>
    rw [q] at h
    obtain ⟨⟨ext', e⟩, h2⟩ := h
    subst e
    rw [T_nil] at q
    refine w_fn ?_
    rw [q]
    show E _ (List.take _ _)
    rw [T_take _ rfl]
    exact hE _ h2
  | nx σ s => exact w_fnT P (by rw [q] at h ⊢; exact h) hQ
  | rt x s => exact w_fnT P (by rw [q] at h ⊢; exact h) hQ
  | bk x s => rw [q] at h; exact h.elim
  | ct x s => rw [q] at h; exact h.elim
  | bad => rw [q] at h; exact h.elim
end
end Dn

set_option linter.all false
set_option Elab.async false
set_option maxRecDepth 100000
/-! PreS2: moves of stores. -/
namespace PreW
open PySem Dn Pre
structure StV where
  (up down wish : Int)
noncomputable def stD (s : StV) : D := .tup [.int s.up, .int s.down, .int s.wish]
structure StOk (s : StV) : Prop where
  up : 0 ≤ s.up ∧ s.up ≤ 1000
  down : 0 ≤ s.down ∧ s.down ≤ 1000
  wish : -s.down ≤ s.wish ∧ s.wish ≤ s.up
/-- how far place x moves -/
def mv (sp : List Int) (a : Int) (x : Nat) : Int := max 0 (min (sp.getD x 0) (a - (sp.take x).sum))
def mvL (sp : List Int) (a : Int) : List Int := (List.range sp.length).map (mv sp a)
theorem mvL_len (sp : List Int) (a : Int) : (mvL sp a).length = sp.length := by unfold mvL; simp
theorem mvL_get {sp : List Int} {a : Int} {x : Nat} (h : x < sp.length) : (mvL sp a)[x]? = some (mv sp a x) := by
  unfold mvL
  rw [List.getElem?_map, List.getElem?_range h]
  rfl
theorem sum_nn : ∀ {xs : List Int}, (∀ x ∈ xs, 0 ≤ x) → 0 ≤ xs.sum
  | [], _ => by simp
  | a :: t, h => by
    have := h a List.mem_cons_self
    have := sum_nn (xs := t) fun x hx => h x (List.mem_cons_of_mem _ hx)
    rw [List.sum_cons]; omega
theorem sum_take_succ (sp : List Int) (x : Nat) (h : x < sp.length) : (sp.take (x + 1)).sum = (sp.take x).sum + sp.getD x 0 := by
  rw [List.take_succ, List.sum_append, List.getD_eq_getElem?_getD, List.getElem?_eq_getElem h]
  simp
theorem getD_nn {sp : List Int} (h : ∀ x ∈ sp, 0 ≤ x) (x : Nat) : 0 ≤ sp.getD x 0 := by
  rw [List.getD_eq_getElem?_getD]
  cases q : sp[x]? with
  | none => exact Int.le_refl _
  | some y => exact h y (List.mem_of_getElem? q)
/-- the first k moves -/
theorem mv_pre {sp : List Int} {a : Int} (hs : ∀ x ∈ sp, 0 ≤ x) (ha : 0 ≤ a) : ∀ (k : Nat), k ≤ sp.length → (((List.range k).map (mv sp a)).sum = min a (sp.take k).sum)
  | 0, _ => by simp; omega
  | k + 1, hk => by
    have ih := mv_pre hs ha k (by omega)
    have e := sum_take_succ sp k (by omega)
    have h0 := getD_nn hs k
    have h1 : 0 ≤ (sp.take k).sum := sum_nn fun x hx => hs x (List.mem_of_mem_take hx)
    rw [List.range_succ, List.map_append, List.sum_append, ih, e]
    simp only [List.map_cons, List.map_nil, List.sum_cons, List.sum_nil]
    unfold mv
    omega
theorem mv_sum {sp : List Int} {a : Int} (hs : ∀ x ∈ sp, 0 ≤ x) (ha : 0 ≤ a) : (mvL sp a).sum = min a sp.sum := by
  have := mv_pre hs ha sp.length (Nat.le_refl _)
  rw [List.take_length] at this
  exact this
theorem mv_zero {sp : List Int} {a : Int} (hs : ∀ x ∈ sp, 0 ≤ x) (ha : a ≤ 0) (x : Nat) : mv sp a x = 0 := by
  have h1 : 0 ≤ (sp.take x).sum := sum_nn fun y hy => hs y (List.mem_of_mem_take hy)
  unfold mv
  omega
def upSp (ss : List StV) : List Int := ss.map fun s => s.up - s.wish
def dnSp (ss : List StV) : List Int := ss.map fun s => s.wish + s.down
noncomputable def wishAt (ss : List StV) (x : Nat) : Int := (ss.map StV.wish).getD x 0
/-- the powers, raised by a and lowered by b -/
noncomputable def givesL (ss : List StV) (a b : Int) : List Int := (List.range ss.length).map fun x => wishAt ss x + mv (upSp ss) a x - mv (dnSp ss) b x
theorem upSp_nn {ss : List StV} (h : ∀ s ∈ ss, StOk s) : ∀ x ∈ upSp ss, 0 ≤ x := fun x hx => by
  unfold upSp at hx
  obtain ⟨s, hs, rfl⟩ := List.mem_map.mp hx
  have := (h s hs).wish
  omega
theorem dnSp_nn {ss : List StV} (h : ∀ s ∈ ss, StOk s) : ∀ x ∈ dnSp ss, 0 ≤ x := fun x hx => by
  unfold dnSp at hx
  obtain ⟨s, hs, rfl⟩ := List.mem_map.mp hx
  have := (h s hs).wish
  omega
theorem sum_add {β : Type} (f g h : β → Int) : ∀ L : List β, (L.map fun x => f x + g x - h x).sum = (L.map f).sum + (L.map g).sum - (L.map h).sum
  | [] => rfl
  | a :: t => by
    have := sum_add f g h t
    simp only [List.map_cons, List.sum_cons, this]
    omega
theorem gives_sum (ss : List StV) (a b : Int) : (givesL ss a b).sum = sumF StV.wish ss + (mvL (upSp ss) a).sum - (mvL (dnSp ss) b).sum := by
  unfold givesL
  rw [sum_add]
  have e : ((List.range ss.length).map (wishAt ss)).sum = sumF StV.wish ss := sumOn_range StV.wish ss
  rw [e]
  unfold mvL upSp dnSp
  rw [List.length_map, List.length_map]
theorem gives_up {ss : List StV} (h : ∀ s ∈ ss, StOk s) (a b : Int) (hb : b ≤ 0) : givesL ss a b = (List.range ss.length).map fun x => wishAt ss x + mv (upSp ss) a x := by
  unfold givesL
  refine List.map_congr_left fun x _ => ?_
  rw [mv_zero (dnSp_nn h) hb]
  omega
theorem gives_dn {ss : List StV} (h : ∀ s ∈ ss, StOk s) (a b : Int) (ha : a ≤ 0) : givesL ss a b = (List.range ss.length).map fun x => wishAt ss x - mv (dnSp ss) b x := by
  unfold givesL
  refine List.map_congr_left fun x _ => ?_
  rw [mv_zero (upSp_nn h) ha]
  omega
theorem gives_id {ss : List StV} (h : ∀ s ∈ ss, StOk s) (a b : Int) (ha : a ≤ 0) (hb : b ≤ 0) : givesL ss a b = ss.map StV.wish := by
  rw [gives_dn h a b ha]
  apply List.ext_getElem
  · simp
  · intro i h1 h2
    simp at h1
    rw [List.getElem_map, List.getElem_map, mv_zero (dnSp_nn h) hb]
    unfold wishAt
    simp [h1]
theorem up_sum {ss : List StV} : (upSp ss).sum = sumF StV.up ss - sumF StV.wish ss := sumF_sub
end PreW

set_option linter.all false
set_option Elab.async false
set_option maxRecDepth 100000
/-! PreS3: columns met on the way. -/
namespace Dn
open PySem Pre
theorem colI {β : Type} {ys : List β} {f g : β → D} {t : TgF} {e : EF} {vs : List Nat} {σ : Env} {st : Store} {K : List A → Store → Prop} (hlen : ys.length < sizeMax)
    (hs : ∀ y ∈ ys, ∃ σ1, t (.v (f y)) (wipeE σ vs) st = some (σ1, st) ∧ okE (e σ1 st) (fun a st3 => a = .v (g y) ∧ st3 = st) (fun _ _ => False))
    (q : K ((ys.map g).map .v) st) :
    ∃ I : Nat → List A → Store → Prop, I 0 [] st ∧ (∀ (j : Nat) (acc : List A) (st : Store), I j acc st → ({ xs := (ys.map f).map A.v, g := fun _ => True } : Src).g st) ∧
      (∀ (j : Nat) (x : A) (acc : List A) (st : Store), ({ xs := (ys.map f).map A.v, g := fun _ => True } : Src).xs[j]? = some x → I j acc st →
        ∃ σ1 st1, t x (wipeE σ vs) st = some (σ1, st1) ∧ okE (tYes σ1 st1) (fun b st2 => Br b (okE (e σ1 st2) (fun a st3 => acc.length < sizeMax ∧ I (j + 1) (acc ++ [a]) st3) (fun _ _ => False)) (I (j + 1) acc st2)) (fun _ _ => False)) ∧
      ∀ (acc : List A) (st : Store), I ({ xs := (ys.map f).map A.v, g := fun _ => True } : Src).xs.length acc st → K acc st := by
  refine ⟨fun j acc st' => st' = st ∧ acc = ((ys.take j).map g).map .v, ⟨rfl, rfl⟩, fun _ _ _ _ => trivial, ?_, ?_⟩
  · rintro j x acc st' hx ⟨rfl, rfl⟩
    obtain ⟨y, hy, rfl⟩ := map_get hx
    obtain ⟨σ1, h1, h2⟩ := hs y (List.mem_of_getElem? hy)
    refine ⟨σ1, _, h1, ?_⟩
    refine ⟨fun _ => okE_mono h2 fun a st3 ⟨ha, hst⟩ => ?_, fun q => by cases q⟩
    subst ha hst
    have et : ys.take (j + 1) = ys.take j ++ [y] := by rw [List.take_succ, hy]; rfl
    refine ⟨?_, rfl, ?_⟩
    · rw [List.length_map, List.length_map]
      exact Nat.lt_of_le_of_lt (List.length_take_le' _ _) hlen
    · rw [et]
      simp
  · rintro acc st' ⟨rfl, rfl⟩
    rw [List.length_map, List.length_map, List.take_length]
    exact q
theorem w_sumC {β : Type} {ys : List β} {g : β → Int} {st : Store} {Q : A → Store → Prop} {E : Exc → Store → Prop} (q : Q (.v (.int ((ys.map g).sum))) st) : okE (RE.of ((viewL st [.v (.lst (ys.map fun y => D.int (g y)))]).bind fun ds => (bSumU ds).map .v) st) Q E :=
  w_sumX (xs := ys.map g) (by rw [List.map_map]; rfl) q
abbrev SlG (x y : A) (R : D → Prop) : Prop := ∃ ds, ∃ j : Nat, y = .v (.int j) ∧ ((x = .v (.tup ds) ∧ R (.tup (ds.take j))) ∨ (x = .v (.lst ds) ∧ R (.lst (ds.take j))))
theorem slG_t {ds : List D} {j : Nat} {R : D → Prop} (r : R (.tup (ds.take j))) : SlG (.v (.tup ds)) (.v (.int j)) R := ⟨_, _, rfl, .inl ⟨rfl, r⟩⟩
theorem slG_l {ds : List D} {j : Nat} {R : D → Prop} (r : R (.lst (ds.take j))) : SlG (.v (.lst ds)) (.v (.int j)) R := ⟨_, _, rfl, .inr ⟨rfl, r⟩⟩
/-- x[:e] of a tuple or a list -/
theorem w_sliceG {σ : Env} {st : Store} {Q : A → Store → Prop} {E : Exc → Store → Prop} {a e : EF} (h : okE (a σ st) (fun x st1 => okE (e σ st1) (fun y st2 => SlG x y fun d => Q (.v d) st2) E) E) : okE (fSlice a none (some e) σ st) Q E := by
  refine okE_bind (okE_mono h fun x st1 q => ?_)
  show okE ((optI (some e) σ st1).bind fun u st3 => match x.view st3 with
    | some (.tup ds) => RE.ok (.v (.tup (cutD ds none u))) st3
    | some (.lst ds) => RE.ok (.v (.lst (cutD ds none u))) st3
    | _ => .bad) Q E
  refine okE_bind (okE_bind (okE_mono q fun y st2 ⟨ds, j, h2, h3⟩ => ?_))
  subst h2
  have e1 : cutD ds none (some (j : Int)) = ds.take j := by
    have q1 : sI ds.length ds.length (some (j : Int)) = min j ds.length := (gd_neg (by omega) _ _).trans (by rw [Int.toNat_natCast])
    have q2 : sI ds.length 0 none = 0 := rfl
    unfold cutD
    rw [q1, q2, List.drop_zero, Nat.sub_zero, List.take_eq_take_iff]
    omega
  rcases h3 with ⟨rfl, h3⟩ | ⟨rfl, h3⟩
  · show Q (.v (.tup (cutD ds none (some (j : Int))))) st2
    rw [e1]
    exact h3
  · show Q (.v (.lst (cutD ds none (some (j : Int))))) st2
    rw [e1]
    exact h3
theorem it_range {a : EF} {σ : Env} {st : Store} {n : Nat} (h : a σ st = .ok (.v (.int (n : Int))) st) (hn : n ≤ 1000000) : iRange1 a σ st = .ok ⟨((List.range n).map natD).map .v, fun _ => True⟩ st := by
  unfold iRange1
  rw [h]
  show gd _ _ _ = _
  rw [gd_pos (show okR (n : Int) from ⟨by omega, by omega⟩), Int.toNat_natCast, range_nat]
theorem len_t {β : Type} {ys : List β} {f : β → D} {v : EF} {σ : Env} {st : Store} (h : v σ st = .ok (.v (.tup (ys.map f))) st) : fLen v σ st = .ok (.v (.int (ys.length : Int))) st := by
  unfold fLen
  rw [h]
  show RE.ok (A.v (.int (((ys.map f).map A.v).length : Nat))) st = _
  rw [List.length_map, List.length_map]
theorem len_l {β : Type} {ys : List β} {f : β → D} {v : EF} {σ : Env} {st : Store} (h : v σ st = .ok (.v (.lst (ys.map f))) st) : fLen v σ st = .ok (.v (.int (ys.length : Int))) st := by
  unfold fLen
  rw [h]
  show RE.ok (A.v (.int (((ys.map f).map A.v).length : Nat))) st = _
  rw [List.length_map, List.length_map]
theorem colR {k : Nat} {g : Nat → D} {t : TgF} {e : EF} {vs : List Nat} {σ : Env} {st : Store} {K : List A → Store → Prop} (hlen : k < sizeMax)
    (hs : ∀ y ∈ List.range k, ∃ σ1, t (.v (natD y)) (wipeE σ vs) st = some (σ1, st) ∧ okE (e σ1 st) (fun a st3 => a = .v (g y) ∧ st3 = st) (fun _ _ => False))
    (q : K (((List.range k).map g).map .v) st) :
    ∃ I : Nat → List A → Store → Prop, I 0 [] st ∧ (∀ (j : Nat) (acc : List A) (st : Store), I j acc st → ({ xs := rangeA 0 k, g := fun _ => True } : Src).g st) ∧
      (∀ (j : Nat) (x : A) (acc : List A) (st : Store), ({ xs := rangeA 0 k, g := fun _ => True } : Src).xs[j]? = some x → I j acc st →
        ∃ σ1 st1, t x (wipeE σ vs) st = some (σ1, st1) ∧ okE (tYes σ1 st1) (fun b st2 => Br b (okE (e σ1 st2) (fun a st3 => acc.length < sizeMax ∧ I (j + 1) (acc ++ [a]) st3) (fun _ _ => False)) (I (j + 1) acc st2)) (fun _ _ => False)) ∧
      ∀ (acc : List A) (st : Store), I ({ xs := rangeA 0 k, g := fun _ => True } : Src).xs.length acc st → K acc st := by
  have h := colI (ys := List.range k) (f := natD) (g := g) (t := t) (e := e) (vs := vs) (σ := σ) (st := st) (K := K) (by rw [List.length_range]; exact hlen) hs q
  rw [range_nat]
  exact h
end Dn

set_option linter.all false
set_option Elab.async false
/-! WpY: comprehensions of two fors, step by step. -/
namespace Dn
open PySem Pre PreW
theorem compL_map {γ : Type} {t : TgF} {e : EF} {vs : List Nat} {σ : Env} {st : Store} (fz g : γ → D) : ∀ (zs : List γ) (acc : List A), acc.length + zs.length < sizeMax →
    (∀ z ∈ zs, ∃ σ2, t (.v (fz z)) (wipeE σ vs) st = some (σ2, st) ∧ okE (e σ2 st) (fun a st3 => a = .v (g z) ∧ st3 = st) (fun _ _ => False)) →
    compL t tYes e vs (fun _ => True) σ ((zs.map fz).map .v) acc st = .ok (acc ++ (zs.map g).map .v) st
  | [], acc, hl, h => by
    rw [List.map_nil, List.map_nil]
    unfold compL
    rw [if_pos trivial]
    simp
  | z :: zs, acc, hl, h => by
    obtain ⟨σ2, h1, h2⟩ := h z List.mem_cons_self
    rw [List.map_cons, List.map_cons]
    unfold compL
    rw [if_pos trivial, h1]
    unfold tYes
    dsimp only
    have et : (fun (_ : Env) (st : Store) => (RE.ok true st : RE Bool)) = tYes := rfl
    rw [et]
    cases q : e σ2 st with
    | ok a st3 =>
      rw [q] at h2
      obtain ⟨rfl, rfl⟩ := h2
      dsimp only
      rw [List.length_cons] at hl
      rw [gd_pos (by omega), compL_map fz g zs (acc ++ [A.v (g z)]) (by rw [List.length_append]; simp; omega) fun w hw => h w (List.mem_cons_of_mem _ hw)]
      rw [List.append_assoc]
      rfl
    | err x s => rw [q] at h2; exact h2.elim
    | bad => rw [q] at h2; exact h2.elim
theorem compL2_map {β γ : Type} {t t1 : TgF} {it1 : IF} {e : EF} {vs vs1 : List Nat} {σ : Env} {st : Store} (f : β → D) (zs : β → List γ) (fz : γ → D) (g : β → γ → D) : ∀ (ys : List β) (acc : List A), acc.length + (ys.flatMap fun y => (zs y).map (g y)).length < sizeMax →
    (∀ y ∈ ys, ∃ σ1, t (.v (f y)) (wipeE σ vs) st = some (σ1, st) ∧ it1 σ1 st = .ok ⟨((zs y).map fz).map .v, fun _ => True⟩ st ∧ ∀ z ∈ zs y, ∃ σ2, t1 (.v (fz z)) (wipeE σ1 vs1) st = some (σ2, st) ∧ okE (e σ2 st) (fun a st3 => a = .v (g y z) ∧ st3 = st) (fun _ _ => False)) →
    compL2 t tYes it1 t1 tYes e vs vs1 (fun _ => True) σ ((ys.map f).map .v) acc st = .ok (acc ++ (ys.flatMap fun y => (zs y).map (g y)).map .v) st
  | [], acc, hl, h => by
    rw [List.map_nil, List.map_nil]
    unfold compL2
    rw [if_pos trivial]
    simp
  | y :: ys, acc, hl, h => by
    obtain ⟨σ1, h1, h2, h3⟩ := h y List.mem_cons_self
    rw [List.flatMap_cons, List.length_append] at hl
    rw [List.map_cons, List.map_cons]
    unfold compL2
    rw [if_pos trivial, h1]
    have ey : tYes σ1 st = .ok true st := rfl
    dsimp only
    rw [ey]
    dsimp only
    rw [h2]
    dsimp only
    rw [List.length_map] at hl
    rw [compL_map fz (g y) (zs y) acc (by omega) h3]
    dsimp only
    rw [compL2_map f zs fz g ys _ (by simp only [List.length_append, List.length_map]; omega) fun w hw => h w (List.mem_cons_of_mem _ hw)]
    rw [List.flatMap_cons, List.map_append, List.append_assoc]
theorem w_compP2 {β γ : Type} {it it1 : IF} {t t1 : TgF} {e : EF} {vs vs1 : List Nat} {σ : Env} {st : Store} {QL : List A → Store → Prop} {E : Exc → Store → Prop} (ys : List β) (f : β → D) (zs : β → List γ) (fz : γ → D) (g : β → γ → D) (hlen : (ys.flatMap fun y => (zs y).map (g y)).length < sizeMax)
    (hit : it σ st = .ok ⟨(ys.map f).map .v, fun _ => True⟩ st)
    (hs : ∀ y ∈ ys, ∃ σ1, t (.v (f y)) (wipeE σ vs) st = some (σ1, st) ∧ it1 σ1 st = .ok ⟨((zs y).map fz).map .v, fun _ => True⟩ st ∧ ∀ z ∈ zs y, ∃ σ2, t1 (.v (fz z)) (wipeE σ1 vs1) st = some (σ2, st) ∧ okE (e σ2 st) (fun a st3 => a = .v (g y z) ∧ st3 = st) (fun _ _ => False))
    (q : QL ((ys.flatMap fun y => (zs y).map (g y)).map .v) st) : okE (lComp2 it t tYes it1 t1 tYes e vs vs1 σ st) QL E := by
  unfold lComp2
  rw [hit]
  show okE (compL2 t tYes it1 t1 tYes e vs vs1 (fun _ => True) σ ((ys.map f).map .v) [] st) QL E
  rw [compL2_map f zs fz g ys [] (by simpa using hlen) hs]
  exact q
theorem it_range2 {a b : EF} {σ : Env} {st : Store} {lo : Int} {n : Nat} (h1 : a σ st = .ok (.v (.int lo)) st) (h2 : b σ st = .ok (.v (.int (lo + n))) st) (hb : -1000000000 ≤ lo ∧ lo ≤ 1000000000 ∧ n ≤ 1000000000) : iRange2 a b σ st = .ok ⟨((List.range n).map fun i => D.int (lo + (i : Nat))).map .v, fun _ => True⟩ st := by
  unfold iRange2
  rw [h1]
  show (b σ st).bind _ = _
  rw [h2]
  show gd _ _ _ = _
  rw [gd_pos ⟨⟨by omega, by omega⟩, ⟨by omega, by omega⟩⟩]
  have e : (lo + (n : Int) - lo).toNat = n := by omega
  rw [e, rangeA_eq, List.map_map]
  rfl
theorem rangeCW_get {c : Int} : ∀ {n j : Nat} {lo : Int} {x : A}, (rangeC lo c n)[j]? = some x → j < n ∧ x = .v (.int (lo + c * (j : Int)))
  | 0, j, lo, x, h => by simp [rangeC] at h
  | n + 1, 0, lo, x, h => by
    have h' : some (A.v (.int lo)) = some x := h
    cases h'
    exact ⟨by omega, by simp⟩
  | n + 1, j + 1, lo, x, h => by
    have h' : (rangeC (lo + c) c n)[j]? = some x := h
    obtain ⟨h1, h2⟩ := rangeCW_get h'
    refine ⟨by omega, ?_⟩
    rw [h2, show ((j + 1 : Nat) : Int) = (j : Int) + 1 by omega, Int.mul_add]
    congr 2
    omega
theorem rangeCW_len (c : Int) : ∀ (n : Nat) (lo : Int), (rangeC lo c n).length = n
  | 0, _ => rfl
  | n + 1, lo => by show (rangeC (lo + c) c n).length + 1 = _; rw [rangeCW_len c n]
theorem w_rangeDn {a b : EF} {σ : Env} {st : Store} {QI : Src → Store → Prop} {E : Exc → Store → Prop} (h : okE (a σ st) (fun x st1 => okE (b σ st1) (fun y st2 => Rg2 x y fun i j => QI ⟨rangeC i (-1) (i - j).toNat, fun _ => True⟩ st2) E) E) : okE (iRangeDn a b σ st) QI E :=
  okE_bind (okE_mono h fun x st1 q => okE_bind (okE_mono q fun y st2 ⟨i, j, q1, q2, q3, q4⟩ => by subst q1 q2; dsimp only; rw [gd_pos q3]; exact q4))
end Dn

set_option linter.all false
set_option Elab.async false
set_option maxRecDepth 100000
/-! The functions of k06. -/
namespace Pk06
open PySem Dn Pre
noncomputable def l1_weather_box : SF := (sAug 3 oMul (fOp oAddU (fOp oSub (fVar 5) (fVar 4)) (fC (.int 1))))

noncomputable def i2_weather_box : IF := (iRange2 (fVar 4) (fOp oAddU (fVar 5) (fC (.int 1))))

noncomputable def e3_weather_box : EF := (fOp oAddU (fVar 7) (fTup [(fVar 8)]))

noncomputable def l4_weather_box : SF := (sSet 6 (fFrz (lComp2 (iSeq (fVar 6)) (tgName 7) tYes i2_weather_box (tgName 8) tYes e3_weather_box [7, 8] [8])))

noncomputable def e5_weather_box : EF := (fTup [(fVar 7), (fVar 2)])

noncomputable def b_weather_box : SF := (sSeq (sSet 3 (fC (.int 1)))
  (sSeq (sFor (iZip (fVar 0) (fVar 1)) (tgTup [(tgName 4), (tgName 5)])
  l1_weather_box)
  (sSeq (sIf (tCmp (fOp oGt (fVar 3) (fC (.int 8))))
  (sRaise1 "TooWide" "count" (fVar 3))
  sNil)
  (sSeq (sSet 6 (fFrz (lDisp [(fTup [])])))
  (sSeq (sFor (iZip (fVar 0) (fVar 1)) (tgTup [(tgName 4), (tgName 5)])
  l4_weather_box)
  (sRet (fTuple (fFrz (lComp (iSeq (fVar 6)) (tgName 7) tYes e5_weather_box [7])))))))))

noncomputable def d_weather_box : List A → Store → RE A := fnV 9 b_weather_box

noncomputable def e1__law_widths : EF := (fOp oAddU (fC (.int 1)) (fCall d__law_up [(fVar 0), (fC (.int 2)), (fC (.int 61))]))

noncomputable def e2__law_widths : EF := (fOp oAddU (fC (.int 1)) (fCall d__law_draw [(fVar 0), (fC (.int 2))]))

noncomputable def e3__law_widths : EF := (fC (.int 1))

noncomputable def l4__law_widths : SF := (sAsg (fIx (fVar 4) (fVar 7)) (tgSub (fVar 5) (fOp oMod (fB bInt [(fOp oAddU (fVar 6) (fVar 7))]) (fVar 1))))

noncomputable def b__law_widths : SF := (sSeq (sSet 2 (fCall d__law_draw [(fVar 0), (fC (.int 4))]))
  (sSeq (sIf (tCmp (fOp oEqG (fVar 2) (fC (.int 0))))
  (sRet (fFrz (lComp (iRange1 (fVar 1)) (tgName 3) tYes e1__law_widths [3])))
  sNil)
  (sSeq (sIf (tCmp (fOp oEqG (fVar 2) (fC (.int 1))))
  (sRet (fFrz (lComp (iRange1 (fVar 1)) (tgName 3) tYes e2__law_widths [3])))
  sNil)
  (sSeq (sSet 4 (fCall d__law_pick [(fVar 0), (fFrz (lDisp [(fFrz (lDisp [(fC (.int 8))])), (fFrz (lDisp [(fC (.int 2)), (fC (.int 4))])), (fFrz (lDisp [(fC (.int 4)), (fC (.int 2))])), (fFrz (lDisp [(fC (.int 2)), (fC (.int 2)), (fC (.int 2))]))]))]))
  (sSeq (sIf (tCmp (fOp oEqG (fVar 2) (fC (.int 3))))
  (sSet 4 (fCall d__law_pick [(fVar 0), (fFrz (lDisp [(fFrz (lDisp [(fC (.int 9))])), (fFrz (lDisp [(fC (.int 3)), (fC (.int 3))])), (fFrz (lDisp [(fC (.int 2)), (fC (.int 5))])), (fFrz (lDisp [(fC (.int 3)), (fC (.int 2)), (fC (.int 2))]))]))]))
  sNil)
  (sSeq (sSet 5 (fLive (lComp (iRange1 (fVar 1)) (tgName 3) tYes e3__law_widths [3])))
  (sSeq (sSet 6 (fCall d__law_draw [(fVar 0), (fC (.int 6))]))
  (sSeq (sFor (iRange1 (fB bMin2 [(fVar 1), (fLen (fVar 4))])) (tgName 7)
  l4__law_widths)
  (sRet (fVar 5))))))))))

noncomputable def d__law_widths : List A → Store → RE A := fnV 8 b__law_widths

noncomputable def e1__law_box : EF := (fCall d__law_draw [(fVar 0), (fOp oSub (fC (.int 62)) (fVar 4))])

noncomputable def e2__law_box : EF := (fOp oSub (fOp oAddU (fIx (fVar 3) (fVar 6)) (fIx (fVar 2) (fVar 6))) (fC (.int 1)))

noncomputable def e3__law_box : EF := (fCall d__law_draw [(fVar 0), (fC (.int 100))])

noncomputable def b__law_box : SF := (sSeq (sSet 1 (fCall d__law_draw [(fVar 0), (fC (.int 7))]))
  (sSeq (sSet 2 (fCall d__law_widths [(fVar 0), (fVar 1)]))
  (sSeq (sSet 3 (fTuple (fFrz (lComp (iSeq (fVar 2)) (tgName 4) tYes e1__law_box [4]))))
  (sSeq (sSet 5 (fTuple (fFrz (lComp (iRange1 (fVar 1)) (tgName 6) tYes e2__law_box [6]))))
  (sSeq (sSet 7 (fTuple (fFrz (lComp (iRange1 (fCall d__law_draw [(fVar 0), (fC (.int 6))])) (tgName 8) tYes e3__law_box [8]))))
  (sRet (fTup [(fVar 3), (fVar 5), (fVar 7)])))))))

noncomputable def d__law_box : List A → Store → RE A := fnV 9 b__law_box

noncomputable def l1__law_listed : SF := (sSeq (sSet 9 (fOp oAddU (fOp oSub (fIx (fVar 1) (fVar 8)) (fIx (fVar 0) (fVar 8))) (fC (.int 1))))
  (sSeq (sSet 7 (fOp oAddU (fTup [(fOp oAddU (fIx (fVar 0) (fVar 8)) (fOp oMod (fB bInt [(fVar 6)]) (fVar 9)))]) (fVar 7)))
  (sSet 6 (fOp oDiv (fVar 6) (fVar 9)))))

noncomputable def l2__law_listed : SF := (sSeq (sSet 6 (fVar 5))
  (sSeq (sSet 7 (fTup []))
  (sSeq (sFor (iRangeDn (fOp oSub (fLen (fVar 0)) (fC (.int 1))) (fUn oNeg (fC (.int 1)))) (tgName 8)
  l1__law_listed)
  (sExpr (fAppend (fVar 4) (fTup [(fVar 7), (fVar 2)]))))))

noncomputable def b__law_listed : SF := (sSeq (sSet 4 (fLive (lDisp [])))
  (sSeq (sFor (iRange1 (fVar 3)) (tgName 5)
  l2__law_listed)
  (sRet (fTuple (fVar 4)))))

noncomputable def d__law_listed : List A → Store → RE A := fnV 10 b__law_listed

noncomputable def l1__law_asked : SF := (sSet 4 (fOp oMulU (fVar 4) (fOp oAddU (fOp oSub (fIx (fVar 2) (fVar 5)) (fIx (fVar 1) (fVar 5))) (fC (.int 1)))))

noncomputable def y2__law_asked : SF := (sSet 6 (fCall d_weather_box [(fVar 1), (fVar 2), (fVar 3)]))

noncomputable def x3__law_asked : Addr → Exc → SF := (fun a y => (sSeq (sSet 7 (fXf 10 a y ["TooWide"] "count"))
  (sSet 8 (fAnd (fXis 10 a y [("TooWide", true)]) (fAnd (fXis 10 a y [("TooWide", true)]) (fNot (fXis 10 a y [("TooWide", false)])))))))

noncomputable def b__law_asked : SF := (sSeq (sAsg (fVar 0) (tgTup [(tgName 1), (tgName 2), (tgName 3)]))
  (sSeq (sSet 4 (fC (.int 1)))
  (sSeq (sFor (iRange1 (fLen (fVar 1))) (tgName 5)
  l1__law_asked)
  (sSeq (sSet 6 (fC .non))
  (sSeq (sSet 7 (fC .non))
  (sSeq (sSet 8 (fC (.bl false)))
  (sSeq (sSet 9 (fC .non))
  (sSeq (sIf (tCmp (fOp oLe (fVar 4) (fC (.int 8))))
  (sSet 9 (fCall d__law_listed [(fVar 1), (fVar 2), (fVar 3), (fVar 4)]))
  sNil)
  (sSeq (sTry1 y2__law_asked [("TooWide", true)] 10 x3__law_asked)
  (sSeq (sIf (tCmp (fOp oGt (fVar 4) (fC (.int 8))))
  (sRet (fAnd (fOp oIsN (fVar 6) (fC .non)) (fAnd (fVar 8) (fCall (d__law_same 12) [(fVar 7), (fVar 4)]))))
  sNil)
  (sRet (fAnd (fOp oIsN (fVar 7) (fC .non)) (fCall (d__law_same 12) [(fVar 6), (fVar 9)])))))))))))))

noncomputable def d__law_asked : List A → Store → RE A := fnV 11 b__law_asked

noncomputable def b_law : SF := (sSeq (sSet 1 (fLive (lCall d__law_pool [(fVar 0), (fC (.int 0))])))
  (sSeq (sSet 2 (fCall d__law_box [(fVar 1)]))
  (sSeq (sSet 3 (fCall d__law_box [(fVar 1)]))
  (sSeq (sIf (tOr (tNot (tOf (fCall d__law_asked [(fVar 2)]))) (tNot (tOf (fCall d__law_asked [(fVar 3)]))))
  (sRet (fC (.bl false)))
  sNil)
  (sRet (fCall d__law_asked [(fVar 2)]))))))

noncomputable def d_law : List A → Store → RE A := fnV 4 b_law

end Pk06

set_option linter.all false
set_option Elab.async false
set_option maxRecDepth 100000
set_option maxHeartbeats 0
/-! Math_k06a. -/
namespace Pk06
open PySem Dn Pre PreW
/-! the plain law: rows of digits -/
def prd (sp : Nat → Nat) : Nat → Nat
  | 0 => 1
  | k + 1 => prd sp k * sp k
def dgs (lo : Nat → Int) (sp : Nat → Nat) : Nat → Nat → List Int
  | 0, _ => []
  | k + 1, c => dgs lo sp k (c / sp k) ++ [lo k + ((c % sp k : Nat) : Int)]
theorem flat_range {β : Type} (f : Nat → Nat → β) (w : Nat) (hw : 0 < w) : ∀ m : Nat, ((List.range m).flatMap fun a => (List.range w).map (f a)) = (List.range (m * w)).map fun c => f (c / w) (c % w)
  | 0 => by simp
  | m + 1 => by
    rw [List.range_succ, List.flatMap_append, flat_range f w hw m, Nat.succ_mul, List.range_add, List.map_append]
    congr 1
    rw [List.flatMap_cons, List.flatMap_nil, List.append_nil, List.map_map]
    refine List.map_congr_left fun b hb => ?_
    have hb' := List.mem_range.mp hb
    show f m b = f ((m * w + b) / w) ((m * w + b) % w)
    rw [Nat.mul_comm m w, Nat.mul_add_div hw, Nat.div_eq_of_lt hb', Nat.mul_add_mod, Nat.mod_eq_of_lt hb', Nat.add_zero]
theorem rows_step (lo : Nat → Int) (sp : Nat → Nat) (k : Nat) (hw : 0 < sp k) : (((List.range (prd sp k)).map (dgs lo sp k)).flatMap fun row => (List.range (sp k)).map fun (i : Nat) => row ++ [lo k + (i : Int)]) = (List.range (prd sp (k + 1))).map (dgs lo sp (k + 1)) := by
  rw [List.flatMap_map]
  exact flat_range (fun a b => dgs lo sp k a ++ [lo k + (b : Int)]) (sp k) hw (prd sp k)
theorem prd_pos {sp : Nat → Nat} : ∀ {k : Nat}, (∀ j, j < k → 0 < sp j) → 0 < prd sp k
  | 0, _ => Nat.le_refl 1
  | k + 1, h => Nat.mul_pos (prd_pos fun j hj => h j (by omega)) (h k (by omega))
theorem prd_mono {sp : Nat → Nat} {n : Nat} (h : ∀ j, j < n → 0 < sp j) : ∀ {k : Nat}, k ≤ n → prd sp k ≤ prd sp n := by
  induction n with
  | zero => intro k hk; have : k = 0 := by omega
            subst this; exact Nat.le_refl _
  | succ n ih =>
    intro k hk
    by_cases e : k = n + 1
    · subst e; exact Nat.le_refl _
    · have h1 := ih (fun j hj => h j (by omega)) (show k ≤ n by omega)
      have h2 : prd sp n * 1 ≤ prd sp n * sp n := Nat.mul_le_mul_left _ (h n (by omega))
      show prd sp k ≤ prd sp n * sp n
      omega
theorem prd_le {sp : Nat → Nat} : ∀ {k : Nat}, (∀ j, j < k → sp j ≤ 61) → prd sp k ≤ 61 ^ k
  | 0, _ => Nat.le_refl 1
  | k + 1, h => by
    rw [Nat.pow_succ]
    exact Nat.mul_le_mul (prd_le fun j hj => h j (by omega)) (h k (by omega))
structure Box where
  (low high tops : List Int)
noncomputable def boxD (b : Box) : D := .tup [.tup (b.low.map D.int), .tup (b.high.map D.int), .tup (b.tops.map D.int)]
structure BoxOk (b : Box) : Prop where
  len : b.low.length ≤ 6
  eql : b.high.length = b.low.length
  tl : b.tops.length ≤ 6
  ok : ∀ j, j < b.low.length → 0 ≤ b.low.getD j 0 ∧ b.low.getD j 0 ≤ 61 ∧ b.low.getD j 0 ≤ b.high.getD j 0 ∧ b.high.getD j 0 ≤ b.low.getD j 0 + 60
def spB (b : Box) (j : Nat) : Nat := (b.high.getD j 0 - b.low.getD j 0 + 1).toNat
def loB (b : Box) (j : Nat) : Int := b.low.getD j 0
def manyB (b : Box) : Nat := prd (spB b) b.low.length
noncomputable def rowsB (b : Box) : List (List Int) := (List.range (manyB b)).map (dgs (loB b) (spB b) b.low.length)
noncomputable def rowD (b : Box) (r : List Int) : D := .tup [.tup (r.map D.int), .tup (b.tops.map D.int)]
theorem BoxOk.sp {b : Box} (h : BoxOk b) {j : Nat} (hj : j < b.low.length) : 0 < spB b j ∧ spB b j ≤ 61 ∧ b.high.getD j 0 = loB b j + (spB b j : Int) - 1 := by
  obtain ⟨a1, a2, a3, a4⟩ := h.ok j hj
  unfold spB loB
  omega
theorem getD_at {xs : List Int} {j : Nat} (h : j < xs.length) : xs[j]? = some (xs.getD j 0) := by
  rw [List.getD_eq_getElem?_getD, List.getElem?_eq_getElem h]; rfl
theorem many_le {b : Box} (h : BoxOk b) : manyB b ≤ 61 ^ 6 := Nat.le_trans (prd_le fun j hj => (h.sp hj).2.1) (Nat.pow_le_pow_right (by decide) h.len)
theorem dgs_len (lo : Nat → Int) (sp : Nat → Nat) : ∀ (k c : Nat), (dgs lo sp k c).length = k
  | 0, _ => rfl
  | k + 1, c => by
    show (dgs lo sp k _ ++ [_]).length = _
    rw [List.length_append, dgs_len lo sp k]
    rfl

end Pk06

set_option linter.all false
set_option Elab.async false
set_option maxRecDepth 100000
set_option maxHeartbeats 0
/-! Math_k06b. -/
set_option hygiene false
local macro_rules
  | `(tactic| repeat1' $s:tacticSeq) => `(tactic| repeat' (first | with_reducible refine w_seq ?_ | with_reducible refine w_set ?_ | with_reducible refine w_sif ?_ | with_reducible refine w_ret ?_ | with_reducible refine w_expr ?_ | with_reducible refine w_snil ?_ | with_reducible refine w_asg ?_ | with_reducible refine w_tcmp ?_ | with_reducible refine w_op ?_ | with_reducible refine w_C ?_ | with_reducible refine w_call ?_ | with_reducible refine w_cons ?_ | with_reducible refine w_nil ?_ | with_reducible refine w_tup ?_ | with_reducible refine w_B ?_ | with_reducible refine w_un ?_ | with_reducible refine w_frz ?_ | with_reducible refine w_disp ?_ | with_reducible refine w_liveS ?_ | with_reducible refine w_liveT ?_ | with_reducible refine w_fld ?_ | with_reducible refine w_ix0 ?_ | with_reducible refine w_ix1 ?_ | with_reducible refine w_ix2 ?_ | with_reducible refine w_ix3 ?_ | with_reducible refine w_ix4 ?_ | with_reducible refine w_ix5 ?_ | with_reducible refine w_ix6 ?_ | with_reducible refine w_ix7 ?_ | with_reducible refine w_ix8 ?_ | with_reducible refine w_ix9 ?_ | with_reducible refine w_ix10 ?_ | with_reducible refine w_ix11 ?_ | with_reducible refine w_ix12 ?_ | with_reducible refine w_ix13 ?_ | with_reducible refine w_ix14 ?_ | with_reducible refine w_ix15 ?_ | with_reducible refine w_tand ?_ | with_reducible refine w_tor ?_ | with_reducible refine w_tnot ?_ | with_reducible refine w_tyes ?_ | with_reducible refine w_tof ?_ | with_reducible refine w_if ?_ | with_reducible refine w_chain ?_ | with_reducible refine w_len ?_ | with_reducible refine w_isi ?_ | with_reducible refine w_opM ?_ | with_reducible refine w_unM ?_ | with_reducible refine w_bM ?_ | with_reducible refine w_met ?_ | with_reducible refine w_isC ?_ | with_reducible refine opM_int ?_ | with_reducible refine opM_lst ?_ | with_reducible refine opM_tup ?_ | with_reducible refine unM_int ?_ | with_reducible refine opM_obj ?_ | with_reducible refine unM_obj ?_ | with_reducible refine w_fand ?_ | with_reducible refine w_for_ ?_ | with_reducible refine w_fnot ?_ | with_reducible refine w_pass ?_ | with_reducible refine w_brk ?_ | with_reducible refine w_cont ?_ | with_reducible refine w_retN ?_ | with_reducible refine w_par ?_ | with_reducible refine w_appS ?_ | with_reducible refine w_appT ?_ | with_reducible refine w_tupX ?_ | with_reducible refine tuV_l ?_ | with_reducible refine tuV_t ?_ | with_reducible refine tuV_r ?_ | with_reducible refine w_lcall ?_ | with_reducible refine w_lrange1 ?_ | with_reducible refine w_list ?_ | with_reducible refine w_ixm ?_ | with_reducible refine w_ixv ?_ | with_reducible refine w_new ?_ | with_reducible refine w_sun ?_ | with_reducible refine w_slice1 ?_ | with_reducible refine w_sliceG ?_ | with_reducible refine slG_t ?_ | with_reducible refine slG_l ?_ | with_reducible refine w_sliceT ?_ | with_reducible refine w_sliceD ?_ | with_reducible refine slT_i ?_ | with_reducible refine slT_s ?_ | with_reducible refine w_dget ?_ | with_reducible refine w_sfor ?_ | with_reducible refine w_dic ?_ | with_reducible refine w_comp ?_ | with_reducible refine w_range1 ?_ | with_reducible refine w_range2 ?_ | with_reducible refine w_iseq ?_ | with_reducible refine w_ienum ?_ | with_reducible refine w_izip ?_ | with_reducible refine w_izip3 ?_ | with_reducible refine isq_l ?_ | with_reducible refine isq_t ?_ | with_reducible refine isq_r ?_ | with_reducible refine retS_v ?_ | with_reducible refine retT_v ?_ | ((with_reducible refine w_aug (x := ?_) ?_ ?_); rotate_left; rfl) | ((with_reducible refine aug_i (z := ?_) ?_ ?_); rotate_left; rfl) | with_reducible refine w_sum ?_ | with_reducible refine w_sumT ?_ | ((with_reducible refine visi_i (d := ?_) ?_ ?_ ?_); rotate_left; rfl; rfl) | ((with_reducible refine bmi_i ?_)) | ((with_reducible refine bmo_i ?_)) | ((with_reducible refine met_i ?_ ?_); rfl) | ((with_reducible refine isC_i (z := ?_) ?_ ?_); rotate_left; (first | exact isC_obj | exact isC_not rfl)) | ((with_reducible refine w_var (x := ?_) ?_ ?_); rotate_left; rfl) | with_reducible refine w_max2 (fun m h1 h2 h3 => ?_) | with_reducible refine w_min2 (fun m h1 h2 h3 => ?_) | with_reducible refine w_abs (fun m h1 h2 => ?_) | ((with_reducible refine w_of (z := ?_) ?_ ?_); rotate_left; rfl) | ((with_reducible refine frz_i (ds := ?_) (st2 := ?_) ?_ ?_); rotate_left; rotate_left; rfl; (try dsimp only)) | ((with_reducible refine els_i (xs := ?_) ?_ ?_); rotate_left; rfl) | ((with_reducible refine elsT_i (xs := ?_) ?_ ?_); rotate_left; rfl) | ((with_reducible refine elsS_i (xs := ?_) ?_ ?_); rotate_left; rfl) | ((with_reducible refine livT_i ?_ ?_); exact all_vals _ _) | ((with_reducible refine livS_i ?_ ?_); exact all_vals _ _) | ((with_reducible refine atk_i (z := ?_) ?_ ?_); rotate_left; rfl) | ((with_reducible refine boo_i (c := ?_) ?_ ?_); rotate_left; rfl) | with_reducible refine frz_i (frzL_vals _ _) ?_ | with_reducible refine frz_v ?_ | with_reducible refine frz_nil ?_ | ((with_reducible refine frzS_ref (ds := ?_) ?_ ?_); rotate_left; rfl) | ((with_reducible refine frzT_ref (ds := ?_) ?_ ?_); rotate_left; rfl) | with_reducible refine ixn_i ?_ | ((with_reducible refine sqd_i (ds := ?_) (g := ?_) ?_ ?_); rotate_left; rotate_left; rfl) | ((with_reducible refine rg1_i ?_ ?_); (first | omega | (simp only [List.length_map]; omega))) | ((with_reducible refine rg2_i ?_ ?_); omega) | ((with_reducible refine retS_r (ds := ?_) ?_ ?_); rotate_left; rfl) | ((with_reducible refine retT_r (ds := ?_) ?_ ?_); rotate_left; rfl) | ((with_reducible refine tgt_i (σ2 := ?_) (st2 := ?_) ?_ ?_); rotate_left; rotate_left; rfl; (try dsimp only)) | ((with_reducible refine vie_i (d := ?_) ?_ ⟨rfl, ?_⟩); rotate_left; rfl) | ((with_reducible refine w_mul ?_ ?_); (first | exact .inl (.inl (by omega)) | exact .inl (.inr (by omega)))) | ((with_reducible refine w_mod ?_ ?_); omega) | ((with_reducible refine w_div ?_ ?_); exact divOk_of (by omega) (by omega)) | ((with_reducible refine br_eqt (dec_pos ?_) ?_); (with_reducible rfl)) | ((with_reducible refine br_in2 (fun bh => ?_) (fun bh => ?_)) <;> try (exfalso; omega)) | ((with_reducible refine br_inS (dec_pos ?_) ?_); (first | exact .inl rfl | exact .inr rfl)) | ((with_reducible refine br_inS (dec_neg ?_) ?_); exact (fun q => q.elim (ne_str (by decide)) (ne_str (by decide)))) | ((with_reducible refine br_eqf (dec_neg ?_) ?_); (with_reducible exact ne_str (by decide))) | ((with_reducible refine br_dec (fun bh => ?_) (fun bh => ?_)) <;> try (exfalso; (try simp only [List.length_map, List.length_nil, List.length_cons] at bh); omega)) | with_reducible refine br_t ?_ | with_reducible refine br_f ?_ | with_reducible refine br_not ?_ | ((with_reducible refine br_eqt ?_ ?_); rfl) | ((with_reducible refine br_eqf ?_ ?_); rfl) | ((with_reducible refine livS_i ?_ ?_); (first | rfl | (simp; done))) | ((with_reducible refine livT_i ?_ ?_); (first | rfl | (simp; done))) | ((with_reducible refine apS1_i (xs0 := ?_) ?_ ?_); rotate_left; rfl) | ((with_reducible refine apT1_i (xs0 := ?_) ?_ ?_); rotate_left; rfl) | ((with_reducible refine apS2_i (xs0 := ?_) ?_ ?_ ?_); rotate_left; rfl; (first | (simp only [sizeMax, List.length_map, List.length_append, List.length_cons, List.length_nil]; omega) | skip)) | ((with_reducible refine apT2_i (xs0 := ?_) ?_ ?_ ?_); rotate_left; rfl; (first | (simp only [sizeMax, List.length_map, List.length_append, List.length_cons, List.length_nil]; omega) | skip)) | ((with_reducible refine tuS_i (ds := ?_) ?_ ?_); rotate_left; rfl) | ((with_reducible refine tuT_i (ds := ?_) ?_ ?_); rotate_left; rfl) | ((with_reducible refine draw_w (by assumption) ?_ ?_ (fun v q h1 h2 => ?_)); omega; omega) | with_reducible refine pick_i2 (by assumption) (fun v q h1 => ?_) | with_reducible refine pick_i3 (by assumption) (fun v q h1 => ?_) | with_reducible refine pick_i4 (by assumption) (fun v q h1 => ?_) | with_reducible refine pick_i5 (by assumption) (fun v q h1 => ?_) | with_reducible refine pick_i6 (by assumption) (fun v q h1 => ?_) | with_reducible refine pick_i7 (by assumption) (fun v q h1 => ?_) | with_reducible refine pick_i8 (by assumption) (fun v q h1 => ?_) | with_reducible refine pick_i9 (by assumption) (fun v q h1 => ?_) | ($s)))
set_option hygiene true
namespace Pk06
open PySem Dn Pre PreW
theorem many_int {b : Box} : ((manyB b : Nat) : Int) = manyB b := rfl
section
variable {st : Store} {i : Nat} {p0 : Pool} {ext : List Cell} {Q : A → Store → Prop} {E : Exc → Store → Prop}
theorem weather_w (b : Box) (ok : BoxOk b) (h1 : manyB b ≤ 8 → Q (.v (.tup ((rowsB b).map (rowD b)))) st) (h2 : 8 < manyB b → E ⟨"TooWide", ["count"], [.int (manyB b : Int)]⟩ st) :
    okE (d_weather_box [.v (.tup (b.low.map D.int)), .v (.tup (b.high.map D.int)), .v (.tup (b.tops.map D.int))] st) Q E := by
  refine w_fnTX (fun d => manyB b ≤ 8 ∧ d = .tup ((rowsB b).map (rowD b))) (fun x => 8 < manyB b ∧ x = ⟨"TooWide", ["count"], [.int (manyB b : Int)]⟩) ?_ (fun d e => by rw [e.2]; exact h1 e.1) (fun x e => by rw [e.2]; exact h2 e.1)
  have hz : (zipA (b.low.map D.int) (b.high.map D.int)).length = b.low.length := by rw [zipW_len, List.length_map, List.length_map, ok.eql, Nat.min_self]
  have hpos : ∀ j, j < b.low.length → 0 < spB b j := fun j hj => (ok.sp hj).1
  have hm := many_le ok
  unfold b_weather_box
  repeat1' fail
  refine ⟨fun j σ st' => ∃ t4 t5, σ = [some (.v (.tup (b.low.map D.int))), some (.v (.tup (b.high.map D.int))), some (.v (.tup (b.tops.map D.int))), some (.v (.int (prd (spB b) j : Int))), t4, t5, none, none, none] ∧ st' = T st [], ⟨_, _, rfl, rfl⟩, fun _ _ _ _ => ⟨trivial, trivial⟩, ?_, ?_⟩
  · rintro j x σ st' hx ⟨t4, t5, rfl, rfl⟩
    have hj : j < b.low.length := by rw [← hz]; exact (List.getElem?_eq_some_iff.mp hx).1
    obtain ⟨d, e, hd, he, rfl⟩ := zipW_get _ _ _ _ hx
    rw [List.getElem?_map, getD_at hj] at hd
    rw [List.getElem?_map, getD_at (by rw [ok.eql]; exact hj)] at he
    cases hd
    cases he
    obtain ⟨s1, s2, s3⟩ := ok.sp hj
    have hp := prd_le (sp := spB b) (k := j) fun i hi => (ok.sp (Nat.lt_trans hi hj)).2.1
    have hp2 : prd (spB b) j ≤ 61 ^ 6 := Nat.le_trans hp (Nat.pow_le_pow_right (by decide) (by have := ok.len; omega))
    have lo := (ok.ok j hj).1
    refine ⟨_, _, rfl, ?_⟩
    unfold l1_weather_box
    simp only [List.cons_append, List.nil_append]
    have hmul : mulOk (prd (spB b) j : Int) (b.high.getD j 0 - b.low.getD j 0 + 1) := .inl (.inr (by unfold loB at s3; omega))
    have hval : (prd (spB b) j : Int) * (b.high.getD j 0 - b.low.getD j 0 + 1) = (prd (spB b) (j + 1) : Int) := by
      show _ = ((prd (spB b) j * spB b j : Nat) : Int)
      rw [Int.natCast_mul, s3]
      unfold loB
      congr 1
      omega
    refine w_aug (x := .v (.int (prd (spB b) j : Int))) rfl (w_op (w_op (w_var rfl (w_var rfl (w_of (z := .v (.int (b.high.getD j 0 - b.low.getD j 0))) rfl (w_C (w_of (z := .v (.int (b.high.getD j 0 - b.low.getD j 0 + 1))) rfl ⟨.int (prd (spB b) (j + 1) : Int), ?_, _, _, rfl, rfl⟩)))))))
    show gd (mulOk _ _) (some (D.int (_ * _))) none = _
    rw [gd_pos hmul, hval]
  · rintro σ st' ⟨t4, t5, rfl, rfl⟩
    rw [hz]
    have eM : prd (spB b) b.low.length = manyB b := rfl
    rw [eM]
    refine w_seq (w_sif (w_tcmp (w_op (w_var rfl (w_C (w_of (z := .v (.bl (dec ((8 : Int) < (manyB b : Int))))) rfl (w_of (z := dec ((8 : Int) < (manyB b : Int))) rfl (br_dec (fun bh => ?_) (fun bh => ?_)))))))))
    · exact w_raise1 (w_var rfl ⟨_, _, rfl, ⟨_, rfl⟩, by omega, rfl⟩)
    refine w_snil ?_
    have hM8 : manyB b ≤ 8 := by omega
    have e0 : D.lst [D.tup []] = .lst (((List.range (prd (spB b) 0)).map (dgs (loB b) (spB b) 0)).map fun r => D.tup (r.map D.int)) := rfl
    repeat1' fail
    refine ⟨fun j σ st' => ∃ t4 t5, σ = [some (.v (.tup (b.low.map D.int))), some (.v (.tup (b.high.map D.int))), some (.v (.tup (b.tops.map D.int))), some (.v (.int (manyB b : Int))), t4, t5, some (.v (.lst (((List.range (prd (spB b) j)).map (dgs (loB b) (spB b) j)).map fun r => D.tup (r.map D.int)))), none, none] ∧ st' = T st [], ⟨_, _, by rw [← e0]; rfl, rfl⟩, fun _ _ _ _ => ⟨trivial, trivial⟩, ?_, ?_⟩
    · rintro j x σ st' hx ⟨t4, t5, rfl, rfl⟩
      have hj : j < b.low.length := by rw [← hz]; exact (List.getElem?_eq_some_iff.mp hx).1
      obtain ⟨d, e, hd, he, rfl⟩ := zipW_get _ _ _ _ hx
      rw [List.getElem?_map, getD_at hj] at hd
      rw [List.getElem?_map, getD_at (by rw [ok.eql]; exact hj)] at he
      cases hd
      cases he
      obtain ⟨s1, s2, s3⟩ := ok.sp hj
      have lo := (ok.ok j hj)
      have hp8 : prd (spB b) (j + 1) ≤ 8 := Nat.le_trans (prd_mono hpos (by omega)) hM8
      have stp := rows_step (loB b) (spB b) j s1
      have hloj : b.low.getD j 0 = loB b j := rfl
      have hl6 := ok.len
      rw [s3, hloj]
      refine ⟨_, _, rfl, ?_⟩
      unfold l4_weather_box
      simp only [List.cons_append, List.nil_append]
      refine w_set (w_frz (w_compP2 ((List.range (prd (spB b) j)).map (dgs (loB b) (spB b) j)) (fun r => D.tup (r.map D.int)) (fun _ => List.range (spB b j)) (fun i => D.int (loB b j + (i : Nat))) (fun row i => D.tup ((row ++ [loB b j + (i : Nat)]).map D.int)) ?_ rfl (fun y hy => ⟨_, rfl, ?_, fun z hz => ⟨_, rfl, ?_⟩⟩) ?_))
      · have : (((List.range (prd (spB b) j)).map (dgs (loB b) (spB b) j)).flatMap fun row => (List.range (spB b j)).map fun (i : Nat) => D.tup ((row ++ [loB b j + (i : Int)]).map D.int)) = ((List.range (prd (spB b) (j + 1))).map (dgs (loB b) (spB b) (j + 1))).map fun r => D.tup (r.map D.int) := by
          rw [← stp, List.map_flatMap]
          simp only [List.map_map]
          rfl
        rw [this, List.length_map, List.length_map, List.length_range]
        simp only [sizeMax]
        omega
      · unfold i2_weather_box
        refine it_range2 (n := spB b j) (lo := loB b j) rfl ?_ (by omega)
        refine okE_eq (w_op (w_var rfl (w_C (w_of (z := .v (.int (loB b j + (spB b j : Int)))) ?_ ⟨rfl, rfl⟩))))
        show some (A.v (D.int (loB b j + (spB b j : Int) - 1 + 1))) = _
        rw [Int.sub_add_cancel]
      · obtain ⟨c, hc, rfl⟩ := List.mem_map.mp hy
        unfold e3_weather_box
        have hdl := dgs_len (loB b) (spB b) j c
        refine w_op (w_var rfl (w_tup (w_cons (w_var rfl (w_nil (frz_i (ds := [.int (loB b j + (z : Int))]) (st2 := _) rfl (w_catT ?_ ⟨?_, rfl⟩)))))))
        · rw [List.length_map, hdl]
          simp only [sizeMax, List.length_cons, List.length_nil]
          omega
        · rw [List.map_append]
          rfl
      · have : (((List.range (prd (spB b) j)).map (dgs (loB b) (spB b) j)).flatMap fun row => (List.range (spB b j)).map fun (i : Nat) => D.tup ((row ++ [loB b j + (i : Int)]).map D.int)) = ((List.range (prd (spB b) (j + 1))).map (dgs (loB b) (spB b) (j + 1))).map fun r => D.tup (r.map D.int) := by
          rw [← stp, List.map_flatMap]
          simp only [List.map_map]
          rfl
        rw [this]
        exact frz_i (frzL_vals _ _) ⟨_, _, rfl, rfl⟩
    · rintro σ st' ⟨t4, t5, rfl, rfl⟩
      rw [hz]
      have hlen : (rowsB b).length < sizeMax := by unfold rowsB; rw [List.length_map, List.length_range]; simp only [sizeMax]; omega
      refine w_ret (w_tuple (w_col (rowsB b) (fun r => D.tup (r.map D.int)) (rowD b) hlen rfl (fun y hy => ⟨_, rfl, ?_⟩) ?_))
      · unfold e5_weather_box
        repeat1' fail
        exact ⟨rfl, rfl⟩
      · refine els_i (xs := ((rowsB b).map (rowD b)).map A.v) rfl (frz_i (frzL_vals _ _) (retT_v ⟨hM8, rfl⟩))
end

end Pk06

set_option linter.all false
set_option Elab.async false
set_option maxRecDepth 100000
set_option maxHeartbeats 0
/-! Math_k06c. -/
set_option hygiene false
local macro_rules
  | `(tactic| repeat1' $s:tacticSeq) => `(tactic| repeat' (first | with_reducible refine w_seq ?_ | with_reducible refine w_set ?_ | with_reducible refine w_sif ?_ | with_reducible refine w_ret ?_ | with_reducible refine w_expr ?_ | with_reducible refine w_snil ?_ | with_reducible refine w_asg ?_ | with_reducible refine w_tcmp ?_ | with_reducible refine w_op ?_ | with_reducible refine w_C ?_ | with_reducible refine w_call ?_ | with_reducible refine w_cons ?_ | with_reducible refine w_nil ?_ | with_reducible refine w_tup ?_ | with_reducible refine w_B ?_ | with_reducible refine w_un ?_ | with_reducible refine w_frz ?_ | with_reducible refine w_disp ?_ | with_reducible refine w_liveS ?_ | with_reducible refine w_liveT ?_ | with_reducible refine w_fld ?_ | with_reducible refine w_ix0 ?_ | with_reducible refine w_ix1 ?_ | with_reducible refine w_ix2 ?_ | with_reducible refine w_ix3 ?_ | with_reducible refine w_ix4 ?_ | with_reducible refine w_ix5 ?_ | with_reducible refine w_ix6 ?_ | with_reducible refine w_ix7 ?_ | with_reducible refine w_ix8 ?_ | with_reducible refine w_ix9 ?_ | with_reducible refine w_ix10 ?_ | with_reducible refine w_ix11 ?_ | with_reducible refine w_ix12 ?_ | with_reducible refine w_ix13 ?_ | with_reducible refine w_ix14 ?_ | with_reducible refine w_ix15 ?_ | with_reducible refine w_tand ?_ | with_reducible refine w_tor ?_ | with_reducible refine w_tnot ?_ | with_reducible refine w_tyes ?_ | with_reducible refine w_tof ?_ | with_reducible refine w_if ?_ | with_reducible refine w_chain ?_ | with_reducible refine w_len ?_ | with_reducible refine w_isi ?_ | with_reducible refine w_opM ?_ | with_reducible refine w_unM ?_ | with_reducible refine w_bM ?_ | with_reducible refine w_met ?_ | with_reducible refine w_isC ?_ | with_reducible refine opM_int ?_ | with_reducible refine opM_lst ?_ | with_reducible refine opM_tup ?_ | with_reducible refine unM_int ?_ | with_reducible refine opM_obj ?_ | with_reducible refine unM_obj ?_ | with_reducible refine w_fand ?_ | with_reducible refine w_for_ ?_ | with_reducible refine w_fnot ?_ | with_reducible refine w_pass ?_ | with_reducible refine w_brk ?_ | with_reducible refine w_cont ?_ | with_reducible refine w_retN ?_ | with_reducible refine w_par ?_ | with_reducible refine w_appS ?_ | with_reducible refine w_appT ?_ | with_reducible refine w_tupX ?_ | with_reducible refine tuV_l ?_ | with_reducible refine tuV_t ?_ | with_reducible refine tuV_r ?_ | with_reducible refine w_lcall ?_ | with_reducible refine w_lrange1 ?_ | with_reducible refine w_list ?_ | with_reducible refine w_ixm ?_ | with_reducible refine w_ixv ?_ | with_reducible refine w_new ?_ | with_reducible refine w_sun ?_ | with_reducible refine w_slice1 ?_ | with_reducible refine w_sliceG ?_ | with_reducible refine slG_t ?_ | with_reducible refine slG_l ?_ | with_reducible refine w_sliceT ?_ | with_reducible refine w_sliceD ?_ | with_reducible refine slT_i ?_ | with_reducible refine slT_s ?_ | with_reducible refine w_dget ?_ | with_reducible refine w_sfor ?_ | with_reducible refine w_dic ?_ | with_reducible refine w_comp ?_ | with_reducible refine w_range1 ?_ | with_reducible refine w_range2 ?_ | with_reducible refine w_iseq ?_ | with_reducible refine w_ienum ?_ | with_reducible refine w_izip ?_ | with_reducible refine w_izip3 ?_ | with_reducible refine isq_l ?_ | with_reducible refine isq_t ?_ | with_reducible refine isq_r ?_ | with_reducible refine retS_v ?_ | with_reducible refine retT_v ?_ | ((with_reducible refine w_aug (x := ?_) ?_ ?_); rotate_left; rfl) | ((with_reducible refine aug_i (z := ?_) ?_ ?_); rotate_left; rfl) | with_reducible refine w_sum ?_ | with_reducible refine w_sumT ?_ | ((with_reducible refine visi_i (d := ?_) ?_ ?_ ?_); rotate_left; rfl; rfl) | ((with_reducible refine bmi_i ?_)) | ((with_reducible refine bmo_i ?_)) | ((with_reducible refine met_i ?_ ?_); rfl) | ((with_reducible refine isC_i (z := ?_) ?_ ?_); rotate_left; (first | exact isC_obj | exact isC_not rfl)) | ((with_reducible refine w_var (x := ?_) ?_ ?_); rotate_left; rfl) | with_reducible refine w_max2 (fun m h1 h2 h3 => ?_) | with_reducible refine w_min2 (fun m h1 h2 h3 => ?_) | with_reducible refine w_abs (fun m h1 h2 => ?_) | ((with_reducible refine w_of (z := ?_) ?_ ?_); rotate_left; rfl) | ((with_reducible refine frz_i (ds := ?_) (st2 := ?_) ?_ ?_); rotate_left; rotate_left; rfl; (try dsimp only)) | ((with_reducible refine els_i (xs := ?_) ?_ ?_); rotate_left; rfl) | ((with_reducible refine elsT_i (xs := ?_) ?_ ?_); rotate_left; rfl) | ((with_reducible refine elsS_i (xs := ?_) ?_ ?_); rotate_left; rfl) | ((with_reducible refine livT_i ?_ ?_); exact all_vals _ _) | ((with_reducible refine livS_i ?_ ?_); exact all_vals _ _) | ((with_reducible refine atk_i (z := ?_) ?_ ?_); rotate_left; rfl) | ((with_reducible refine boo_i (c := ?_) ?_ ?_); rotate_left; rfl) | with_reducible refine frz_i (frzL_vals _ _) ?_ | with_reducible refine frz_v ?_ | with_reducible refine frz_nil ?_ | ((with_reducible refine frzS_ref (ds := ?_) ?_ ?_); rotate_left; rfl) | ((with_reducible refine frzT_ref (ds := ?_) ?_ ?_); rotate_left; rfl) | with_reducible refine ixn_i ?_ | ((with_reducible refine sqd_i (ds := ?_) (g := ?_) ?_ ?_); rotate_left; rotate_left; rfl) | ((with_reducible refine rg1_i ?_ ?_); (first | omega | (simp only [List.length_map]; omega))) | ((with_reducible refine rg2_i ?_ ?_); omega) | ((with_reducible refine retS_r (ds := ?_) ?_ ?_); rotate_left; rfl) | ((with_reducible refine retT_r (ds := ?_) ?_ ?_); rotate_left; rfl) | ((with_reducible refine tgt_i (σ2 := ?_) (st2 := ?_) ?_ ?_); rotate_left; rotate_left; rfl; (try dsimp only)) | ((with_reducible refine vie_i (d := ?_) ?_ ⟨rfl, ?_⟩); rotate_left; rfl) | ((with_reducible refine w_mul ?_ ?_); (first | exact .inl (.inl (by omega)) | exact .inl (.inr (by omega)))) | ((with_reducible refine w_mod ?_ ?_); omega) | ((with_reducible refine w_div ?_ ?_); exact divOk_of (by omega) (by omega)) | ((with_reducible refine br_eqt (dec_pos ?_) ?_); (with_reducible rfl)) | ((with_reducible refine br_in2 (fun bh => ?_) (fun bh => ?_)) <;> try (exfalso; omega)) | ((with_reducible refine br_inS (dec_pos ?_) ?_); (first | exact .inl rfl | exact .inr rfl)) | ((with_reducible refine br_inS (dec_neg ?_) ?_); exact (fun q => q.elim (ne_str (by decide)) (ne_str (by decide)))) | ((with_reducible refine br_eqf (dec_neg ?_) ?_); (with_reducible exact ne_str (by decide))) | ((with_reducible refine br_dec (fun bh => ?_) (fun bh => ?_)) <;> try (exfalso; (try simp only [List.length_map, List.length_nil, List.length_cons] at bh); omega)) | with_reducible refine br_t ?_ | with_reducible refine br_f ?_ | with_reducible refine br_not ?_ | ((with_reducible refine br_eqt ?_ ?_); rfl) | ((with_reducible refine br_eqf ?_ ?_); rfl) | ((with_reducible refine livS_i ?_ ?_); (first | rfl | (simp; done))) | ((with_reducible refine livT_i ?_ ?_); (first | rfl | (simp; done))) | ((with_reducible refine apS1_i (xs0 := ?_) ?_ ?_); rotate_left; rfl) | ((with_reducible refine apT1_i (xs0 := ?_) ?_ ?_); rotate_left; rfl) | ((with_reducible refine apS2_i (xs0 := ?_) ?_ ?_ ?_); rotate_left; rfl; (first | (simp only [sizeMax, List.length_map, List.length_append, List.length_cons, List.length_nil]; omega) | skip)) | ((with_reducible refine apT2_i (xs0 := ?_) ?_ ?_ ?_); rotate_left; rfl; (first | (simp only [sizeMax, List.length_map, List.length_append, List.length_cons, List.length_nil]; omega) | skip)) | ((with_reducible refine tuS_i (ds := ?_) ?_ ?_); rotate_left; rfl) | ((with_reducible refine tuT_i (ds := ?_) ?_ ?_); rotate_left; rfl) | ((with_reducible refine draw_w (by assumption) ?_ ?_ (fun v q h1 h2 => ?_)); omega; omega) | ((with_reducible refine up_w (by assumption) ?_ ?_ ?_ ?_ (fun v q h1 h2 => ?_)); omega; omega; omega; omega) | with_reducible refine pick_i2 (by assumption) (fun v q h1 => ?_) | with_reducible refine pick_i3 (by assumption) (fun v q h1 => ?_) | with_reducible refine pick_i4 (by assumption) (fun v q h1 => ?_) | with_reducible refine pick_i5 (by assumption) (fun v q h1 => ?_) | with_reducible refine pick_i6 (by assumption) (fun v q h1 => ?_) | with_reducible refine pick_i7 (by assumption) (fun v q h1 => ?_) | with_reducible refine pick_i8 (by assumption) (fun v q h1 => ?_) | with_reducible refine pick_i9 (by assumption) (fun v q h1 => ?_) | ($s)))
set_option hygiene true
namespace Pk06
open PySem Dn Pre PreW
section
variable {st : Store} {i : Nat} {p0 : Pool} {ext : List Cell} {Q : A → Store → Prop} {E : Exc → Store → Prop}
theorem listed_w (b : Box) (ok : BoxOk b) (h8 : manyB b ≤ 8) (h : Q (.v (.tup ((rowsB b).map (rowD b)))) st) :
    okE (d__law_listed [.v (.tup (b.low.map D.int)), .v (.tup (b.high.map D.int)), .v (.tup (b.tops.map D.int)), .v (.int (manyB b : Int))] st) Q E := by
  refine w_fnT (fun d => d = .tup ((rowsB b).map (rowD b))) ?_ fun d e => by rw [e]; exact h
  have hl6 := ok.len
  unfold b__law_listed
  repeat1' fail
  refine ⟨fun j σ st' => ∃ t5 t6 t7 t8 t9, σ = [some (.v (.tup (b.low.map D.int))), some (.v (.tup (b.high.map D.int))), some (.v (.tup (b.tops.map D.int))), some (.v (.int (manyB b : Int))), some (.ref (st.length + 0)), t5, t6, t7, t8, t9] ∧ st' = T st [.lst ((((List.range j).map (dgs (loB b) (spB b) b.low.length)).map (rowD b)).map A.v)], ⟨_, _, _, _, _, rfl, rfl⟩, fun _ _ _ _ => trivial, ?_, ?_⟩
  · rintro j x σ st' hx ⟨t5, t6, t7, t8, t9, rfl, rfl⟩
    obtain ⟨hj, rfl⟩ := range0_get hx
    rw [Int.toNat_natCast] at hj
    refine ⟨_, _, rfl, ?_⟩
    unfold l2__law_listed
    simp only [List.cons_append, List.nil_append]
    repeat1' (first | with_reducible refine w_rangeDn ?_ | ((with_reducible refine rg2_i ?_ ?_); (simp only [List.length_map]; omega)))
    rw [List.length_map, List.length_map]
    have et : ((b.low.length : Int) - 1 - -1).toNat = b.low.length := by omega
    rw [et]
    refine ⟨fun k σ st' => ∃ t8 t9, ∃ (left : Nat) (asks : List Int), σ = [some (.v (.tup (b.low.map D.int))), some (.v (.tup (b.high.map D.int))), some (.v (.tup (b.tops.map D.int))), some (.v (.int (manyB b : Int))), some (.ref (st.length + 0)), some (.v (.int (j : Int))), some (.v (.int (left : Int))), some (.v (.tup (asks.map D.int))), t8, t9] ∧ st' = T st [.lst ((((List.range j).map (dgs (loB b) (spB b) b.low.length)).map (rowD b)).map A.v)] ∧ k ≤ b.low.length ∧ asks.length = k ∧ dgs (loB b) (spB b) (b.low.length - k) left ++ asks = dgs (loB b) (spB b) b.low.length j, ⟨_, _, j, [], rfl, by simp only [Int.zero_add], Nat.zero_le _, rfl, by simp⟩, fun _ _ _ _ => trivial, ?_, ?_⟩
    · rintro k x σ st' hx ⟨t8, t9, left, asks, rfl, rfl, hk, hal, hd⟩
      obtain ⟨hk2, rfl⟩ := rangeCW_get hx
      obtain ⟨m, hm⟩ : ∃ m, b.low.length - k = m + 1 := ⟨b.low.length - k - 1, by omega⟩
      have hml : m < b.low.length := by omega
      have ei : (b.low.length : Int) - 1 + -1 * (k : Int) = (m : Int) := by omega
      obtain ⟨s1, s2, s3⟩ := ok.sp hml
      have lo := ok.ok m hml
      have a1 : ((b.low.map D.int).map A.v)[m]? = some (.v (.int (loB b m))) := mget (getD_at hml)
      have a2 : ((b.high.map D.int).map A.v)[m]? = some (.v (.int (b.high.getD m 0))) := mget (getD_at (by rw [ok.eql]; exact hml))
      rw [ei]
      refine ⟨_, _, rfl, ?_⟩
      unfold l1__law_listed
      simp only [List.cons_append, List.nil_append]
      have es : b.high.getD m 0 - loB b m + 1 = (spB b m : Int) := by omega
      have ef : ((left : Int).fmod (spB b m : Int)) = ((left % spB b m : Nat) : Int) := by rw [Int.fmod_eq_emod_of_nonneg _ (by omega)]; rfl
      have eg : ((left : Int).fdiv (spB b m : Int)) = ((left / spB b m : Nat) : Int) := by rw [Int.fdiv_eq_ediv_of_nonneg _ (by omega)]; rfl
      repeat1' (first | refine atk_i a1 ?_ | refine atk_i a2 ?_ | refine w_catT (by rw [List.length_map]; simp only [sizeMax, List.length_cons, List.length_nil]; omega) ?_)
      rw [es, ef, eg]
      refine ⟨_, _, left / spB b m, (loB b m + ((left % spB b m : Nat) : Int)) :: asks, rfl, rfl, by omega, by rw [List.length_cons, hal], ?_⟩
      rw [hm] at hd
      rw [show b.low.length - (k + 1) = m by omega, ← hd]
      show _ = (dgs (loB b) (spB b) m (left / spB b m) ++ [_]) ++ asks
      rw [List.append_assoc]
      rfl
    · rintro σ st' ⟨t8, t9, left, asks, rfl, rfl, hk, hal, hd⟩
      rw [rangeCW_len, Nat.sub_self] at hd
      have hd2 : asks = dgs (loB b) (spB b) b.low.length j := hd
      subst hd2
      repeat1' fail
      · simp only [sizeMax, List.length_map, List.length_range]; omega
      refine ⟨_, _, _, _, _, rfl, ?_⟩
      rw [List.range_succ, List.map_append, List.map_append, List.map_append]
      rfl
  · rintro σ st' ⟨t5, t6, t7, t8, t9, rfl, rfl⟩
    rw [rangeW_len, Int.toNat_natCast]
    have er : (List.range (manyB b)).map (dgs (loB b) (spB b) b.low.length) = rowsB b := rfl
    rw [er]
    repeat1' fail
    rfl
end

end Pk06

set_option linter.all false
set_option Elab.async false
set_option maxRecDepth 100000
set_option maxHeartbeats 0
/-! Math_k06d. -/
namespace Pk06
open PySem Dn Pre PreW
theorem mapB {β : Type} {f : β → D} {zs : List β} {j : Nat} {z : β} (h : zs[j]? = some z) : (zs.map f)[j]? = some (f z) := by rw [List.getElem?_map, h]; rfl
section
variable {st : Store} {i : Nat} {p0 : Pool} {ext : List Cell} {Q : A → Store → Prop} {E : Exc → Store → Prop}
theorem it_n {a : EF} {σ : Dn.Env} {st : Store} (n : Nat) (h : a σ st = .ok (.v (.int (n : Int))) st) (hn : n ≤ 1000000) : iRange1 a σ st = .ok ⟨((List.range n).map natD).map .v, fun _ => True⟩ st := it_range h hn
def FacOk (fs : List Int) : Prop := fs.length ≤ 3 ∧ fs ≠ [] ∧ ∀ f ∈ fs, 1 ≤ f ∧ f ≤ 61
theorem facs_w {fss : List (List Int)} (hi : i < st.length) (h0 : fss ≠ []) (hl : fss.length < 1073741824) (hf : ∀ fs ∈ fss, FacOk fs) (hQ : ∀ fs q, FacOk fs → Q (.v (.lst (fs.map D.int))) (S st i q ext)) : okE (d__law_pick [.ref i, .v (.lst (fss.map fun fs => .lst (fs.map D.int)))] (S st i p0 ext)) Q E := by
  refine pick_w hi (by simpa using h0) (by simpa using hl) fun d q hd => ?_
  obtain ⟨fs, h1, rfl⟩ := List.mem_map.mp hd
  exact hQ fs q (hf fs h1)
theorem widths_w (n : Nat) (hn : n ≤ 6) (hi : i < st.length) (hQ : ∀ (ws : List Int) q, ws.length = n → (∀ w ∈ ws, 1 ≤ w ∧ w ≤ 61) → Q (.v (.lst (ws.map D.int))) (S st i q ext)) : okE (d__law_widths [.ref i, .v (.int (n : Int))] (S st i p0 ext)) Q E := by
  refine w_fnS hi (fun d => ∃ ws : List Int, d = .lst (ws.map D.int) ∧ ws.length = n ∧ ∀ w ∈ ws, 1 ≤ w ∧ w ≤ 61) (fun st1 hi => ?_) fun d q ⟨ss, e, o1, o2⟩ => by rw [e]; exact hQ ss q o1 o2
  unfold b__law_widths
  repeat1' fail
  · rw [Int.toNat_natCast]
    refine drawR D.int (fun z => 1 ≤ z ∧ z ≤ 61) (by simp only [sizeMax]; omega) (fun y hy q => ⟨_, rfl, ?_⟩) (fun zs q' hl hz => frz_i (frzL_vals _ _) (retS_v ⟨zs, rfl, hl, hz⟩))
    unfold e1__law_widths
    repeat1' fail
    all_goals exact ⟨_, _, rfl, rfl, by omega, by omega⟩
  · rw [Int.toNat_natCast]
    refine drawR D.int (fun z => 1 ≤ z ∧ z ≤ 61) (by simp only [sizeMax]; omega) (fun y hy q => ⟨_, rfl, ?_⟩) (fun zs q' hl hz => frz_i (frzL_vals _ _) (retS_v ⟨zs, rfl, hl, hz⟩))
    unfold e2__law_widths
    repeat1' fail
    all_goals exact ⟨_, _, rfl, rfl, by omega, by omega⟩
  refine facs_w (fss := [[8], [2, 4], [4, 2], [2, 2, 2]]) hi (by decide) (by decide) ?_ fun fs q hfs => ?_
  · intro fs hfs
    simp only [List.mem_cons, List.not_mem_nil, or_false] at hfs
    rcases hfs with rfl | rfl | rfl | rfl <;> exact ⟨by decide, by decide, by decide⟩
  show okS _ _
  refine w_seq (w_join (fun σ st' => ∃ q, ∃ fs : List Int, FacOk fs ∧ st' = S st1 i q [] ∧ σ = [some (.ref i), some (.v (.int (n : Int))), some (.v (.int v)), none, some (.v (.lst (fs.map D.int))), none, none, none]) ?_ ?_)
  · repeat1' fail
    · refine facs_w (fss := [[9], [3, 3], [2, 5], [3, 2, 2]]) hi (by decide) (by decide) ?_ fun fs q hfs => ?_
      · intro fs hfs
        simp only [List.mem_cons, List.not_mem_nil, or_false] at hfs
        rcases hfs with rfl | rfl | rfl | rfl <;> exact ⟨by decide, by decide, by decide⟩
      · exact ⟨_, _, hfs, rfl, rfl⟩
    · exact ⟨_, _, hfs, rfl, rfl⟩
  rintro σ st' ⟨q, fs, ⟨f1, f2, f3⟩, rfl, rfl⟩
  repeat1' fail
  rw [Int.toNat_natCast]
  refine colR (g := fun _ => .int 1) (by simp only [sizeMax]; omega) (fun y hy => ⟨_, rfl, ⟨rfl, rfl⟩⟩) ?_
  repeat1' fail
  have hm : m ≤ n ∧ m ≤ fs.length ∧ 0 ≤ m := by simp only [List.length_map] at *; omega
  refine ⟨fun j σ st' => ∃ t2 t7, ∃ ws : List Int, σ = [some (.ref i), some (.v (.int (n : Int))), t2, none, some (.v (.lst (fs.map D.int))), some (.ref (st1.length + 0)), some (.v (.int v)), t7] ∧ st' = S st1 i q [.lst ((ws.map D.int).map A.v)] ∧ ws.length = n ∧ ∀ w ∈ ws, 1 ≤ w ∧ w ≤ 61, ⟨_, _, (List.range n).map (fun _ => 1), rfl, by simp only [List.map_map, List.nil_append]; rfl, by rw [List.length_map, List.length_range], fun z hz => by obtain ⟨_, _, rfl⟩ := List.mem_map.mp hz; exact ⟨by decide, by decide⟩⟩, fun _ _ _ _ => trivial, ?_, ?_⟩
  · rintro j x σ st' hx ⟨t2, t7, ws, rfl, rfl, hwl, hws⟩
    obtain ⟨hj, rfl⟩ := range0_get hx
    have hjf : j < fs.length := by omega
    have hn0 : (n : Int) ≠ 0 := by omega
    obtain ⟨f, hf⟩ : ∃ f, fs[j]? = some f := ⟨_, List.getElem?_eq_getElem hjf⟩
    have hfb := f3 f (List.mem_of_getElem? hf)
    have hmod : 0 ≤ (v + (j : Int)).fmod (n : Int) ∧ (v + (j : Int)).fmod (n : Int) < n := by
      rw [Int.fmod_eq_emod_of_nonneg _ (by omega)]
      exact ⟨Int.emod_nonneg _ hn0, Int.emod_lt_of_pos _ (by omega)⟩
    obtain ⟨k, hk⟩ := Int.eq_ofNat_of_zero_le hmod.1
    refine ⟨_, _, rfl, ?_⟩
    unfold l4__law_widths
    simp only [List.cons_append, List.nil_append]
    refine w_asg (w_ix (w_var rfl (w_var rfl ⟨_, _, _, _, rfl, rfl, ixLit j (by rw [List.length_map, List.length_map]; exact hjf), mget hf, ?_⟩)))
    refine tgSubE (j := k) (xs := (ws.map D.int).map A.v) rfl (okE_eq (w_op (w_B (w_cons (w_op (w_var rfl (w_var rfl (w_of (z := .v (.int (v + (j : Int)))) rfl (w_nil (w_of (z := .v (.int (v + (j : Int)))) rfl (w_var rfl (w_mod hn0 ⟨by rw [hk], rfl⟩)))))))))))) (by rw [S_get]; rfl) (by rw [List.length_map, List.length_map]; omega) (S_set 0 _) ?_
    refine ⟨_, _, ws.set k f, rfl, by rw [List.map_set, List.map_set]; rfl, by rw [List.length_set]; exact hwl, fun z hz => ?_⟩
    rcases List.mem_or_eq_of_mem_set hz with h | h
    · exact hws z h
    · rw [h]; exact hfb
  · rintro σ st' ⟨t2, t7, ws, rfl, rfl, hwl, hws⟩
    repeat1' fail
    exact ⟨ws, rfl, hwl, hws⟩
theorem box_w (hi : i < st.length) (hQ : ∀ (b : Box) q, BoxOk b → Q (.v (boxD b)) (S st i q ext)) : okE (d__law_box [.ref i] (S st i p0 ext)) Q E := by
  refine w_fnS hi (fun d => ∃ b : Box, d = boxD b ∧ BoxOk b) (fun st1 hi => ?_) fun d q ⟨b, e, o⟩ => by rw [e]; exact hQ b q o
  unfold b__law_box
  refine w_seq (w_set (w_call (w_cons (w_var rfl (w_cons (w_C (w_nil (draw_w hi (by decide) (by decide) fun c q hc1 hc2 => ?_))))))))
  obtain ⟨n, rfl⟩ := Int.eq_ofNat_of_zero_le hc1
  refine w_seq (w_set (w_call (w_cons (w_var rfl (w_cons (w_var rfl (w_nil (widths_w n (by omega) hi fun ws q hwl hws => ?_))))))))
  show okS _ _
  have hsz : ws.length < sizeMax := by simp only [sizeMax]; omega
  refine w_seq (w_set (w_tuple (w_frz (w_compD ws D.int (fun w d => ∃ v, d = .int v ∧ 0 ≤ v ∧ v < 62 - w) hsz rfl (fun w hw q => ⟨_, rfl, ?_⟩) fun ds q hdl hds => ?_))))
  · have := hws w hw
    unfold e1__law_box
    repeat1' fail
    exact ⟨_, _, rfl, rfl, _, rfl, by omega, by omega⟩
  obtain ⟨lo, rfl, _⟩ := forms (f := D.int) (P := fun _ => True) ds fun d hd => by
    obtain ⟨k, hk⟩ := List.mem_iff_getElem?.mp hd
    have hkl := (List.getElem?_eq_some_iff.mp hk).1
    obtain ⟨v, e, _⟩ := hds k _ d (List.getElem?_eq_getElem (by omega)) hk
    exact ⟨v, e, trivial⟩
  rw [List.length_map] at hdl
  have hlo : ∀ j, j < lo.length → 0 ≤ lo.getD j 0 ∧ lo.getD j 0 < 62 - ws.getD j 0 ∧ 1 ≤ ws.getD j 0 ∧ ws.getD j 0 ≤ 61 := fun j hj => by
    have hw := getD_at (xs := ws) (show j < ws.length by omega)
    obtain ⟨v, e, h1, h2⟩ := hds j _ _ hw (mapB (getD_at hj))
    cases e
    have := hws _ (List.mem_of_getElem? hw)
    exact ⟨h1, h2, this⟩
  refine frz_i (frzL_vals _ _) (els_i (xs := (lo.map D.int).map A.v) rfl (frz_i (frzL_vals _ _) ?_))
  show okS _ _
  refine w_seq (w_set (w_tuple (w_frz (w_compP (List.range n) natD (fun _ => true) (fun j => .int (lo.getD j 0 + ws.getD j 0 - 1)) (by rw [List.length_range]; simp only [sizeMax]; omega) (it_range rfl (by omega)) (fun y hy => ⟨_, rfl, ⟨rfl, rfl⟩, fun _ => ?_⟩) ?_))))
  · have hy' := List.mem_range.mp hy
    have a1 : ((lo.map D.int).map A.v)[y]? = some (.v (.int (lo.getD y 0))) := mget (getD_at (by omega))
    have a2 : ((ws.map D.int).map A.v)[y]? = some (.v (.int (ws.getD y 0))) := mget (getD_at (by omega))
    unfold e2__law_box
    repeat1' (first | refine atk_i a1 ?_ | refine atk_i a2 ?_)
    exact ⟨rfl, rfl⟩
  rw [List.filter_eq_self.mpr fun _ _ => rfl]
  refine frz_i (frzL_vals _ _) (els_i (xs := ((List.range n).map fun j => D.int (lo.getD j 0 + ws.getD j 0 - 1)).map A.v) rfl (frz_i (frzL_vals _ _) ?_))
  show okS _ _
  refine w_seq (w_set (w_tuple (w_frz (w_comp (w_range1 (w_call (w_cons (w_var rfl (w_cons (w_C (w_nil (draw_w hi (by decide) (by decide) fun t q ht1 ht2 => rg1_i (by omega) ?_))))))))))))
  refine drawR D.int (fun z => True) (by simp only [sizeMax]; omega) (fun y hy q => ⟨_, rfl, ?_⟩) (fun zs q' hl hz => ?_)
  · unfold e3__law_box
    repeat1' fail
    exact ⟨_, _, rfl, rfl, trivial⟩
  refine frz_i (frzL_vals _ _) (els_i (xs := (zs.map D.int).map A.v) rfl (frz_i (frzL_vals _ _) ?_))
  show okS _ _
  have eh : ((List.range n).map fun j => D.int (lo.getD j 0 + ws.getD j 0 - 1)) = ((List.range n).map fun j => lo.getD j 0 + ws.getD j 0 - 1).map D.int := by rw [List.map_map]; rfl
  rw [eh]
  repeat1' fail
  refine ⟨⟨lo, (List.range n).map fun j => lo.getD j 0 + ws.getD j 0 - 1, zs⟩, rfl, by dsimp only; omega, by dsimp only; rw [List.length_map, List.length_range]; omega, by dsimp only; omega, fun j hj => ?_⟩
  dsimp only at hj ⊢
  obtain ⟨b1, b2, b3, b4⟩ := hlo j hj
  have e : ((List.range n).map fun j => lo.getD j 0 + ws.getD j 0 - 1).getD j 0 = lo.getD j 0 + ws.getD j 0 - 1 := by
    rw [List.getD_eq_getElem?_getD, List.getElem?_map, List.getElem?_range (by omega)]
    rfl
  rw [e]
  omega
end

end Pk06

set_option linter.all false
set_option Elab.async false
set_option maxRecDepth 100000
set_option maxHeartbeats 0
/-! Math_k06e. -/
namespace Pk06
open PySem Dn Pre PreW
theorem good_ints (n : Nat) (xs : List Int) (h : xs.length ≤ sizeMax) : Good (n + 2) (.tup (xs.map D.int)) := ⟨by rw [List.length_map]; exact h, fun d hd => by
  obtain ⟨z, _, rfl⟩ := List.mem_map.mp hd
  trivial⟩
section
variable {st : Store} {i : Nat} {p0 : Pool} {ext : List Cell} {Q : A → Store → Prop} {E : Exc → Store → Prop}
theorem same_w (n : Nat) (d : D) (h : Good n d) (q : Q (.v (.bl true)) st) : okE (d__law_same n [.v d, .v d] st) Q E := by rw [same_refl n d st h]; exact q
theorem rows_good (b : Box) (ok : BoxOk b) (h8 : manyB b ≤ 8) : Good 12 (.tup ((rowsB b).map (rowD b))) := by
  refine ⟨by rw [List.length_map]; unfold rowsB; rw [List.length_map, List.length_range]; simp only [sizeMax]; omega, fun d hd => ?_⟩
  obtain ⟨r, hr, rfl⟩ := List.mem_map.mp hd
  unfold rowsB at hr
  obtain ⟨c, _, rfl⟩ := List.mem_map.mp hr
  refine ⟨by simp only [sizeMax, List.length_cons, List.length_nil]; omega, fun d hd => ?_⟩
  simp only [List.mem_cons, List.not_mem_nil, or_false] at hd
  rcases hd with rfl | rfl
  · exact good_ints 8 _ (by rw [dgs_len]; have := ok.len; simp only [sizeMax]; omega)
  · exact good_ints 8 _ (by have := ok.tl; simp only [sizeMax]; omega)
theorem asked_w (b : Box) (ok : BoxOk b) (h : Q (.v (.bl true)) st) : okE (d__law_asked [.v (boxD b)] st) Q E := by
  refine w_fnT (fun d => d = .bl true) ?_ fun d e => by rw [e]; exact h
  have hm := many_le ok
  have hl6 := ok.len
  have hg := fun (h8 : manyB b ≤ 8) => rows_good b ok h8
  have gs := fun (n : Nat) (d : D) (st : Store) (Q : A → Store → Prop) (E : Exc → Store → Prop) => same_w (st := st) (Q := Q) (E := E) n d
  unfold b__law_asked boxD
  refine w_seq (w_asg (w_var rfl ?_))
  refine tgt_i rfl ?_
  refine w_seq (w_set (w_C ?_))
  repeat1' fail
  refine ⟨fun j σ st' => ∃ t5, σ = [some (.v (.tup [.tup (b.low.map D.int), .tup (b.high.map D.int), .tup (b.tops.map D.int)])), some (.v (.tup (b.low.map D.int))), some (.v (.tup (b.high.map D.int))), some (.v (.tup (b.tops.map D.int))), some (.v (.int (prd (spB b) j : Int))), t5, none, none, none, none, none] ∧ st' = T st [], ⟨_, rfl, rfl⟩, fun _ _ _ _ => trivial, ?_, ?_⟩
  · rintro j x σ st' hx ⟨t5, rfl, rfl⟩
    obtain ⟨hj, rfl⟩ := range0_get hx
    rw [Int.toNat_natCast, List.length_map, List.length_map] at hj
    obtain ⟨s1, s2, s3⟩ := ok.sp hj
    have hp := prd_le (sp := spB b) (k := j) fun i hi => (ok.sp (Nat.lt_trans hi hj)).2.1
    have hp2 : prd (spB b) j ≤ 61 ^ 6 := Nat.le_trans hp (Nat.pow_le_pow_right (by decide) (by have := ok.len; omega))
    have lo := (ok.ok j hj).1
    have a1 : ((b.low.map D.int).map A.v)[j]? = some (.v (.int (b.low.getD j 0))) := mget (getD_at hj)
    have a2 : ((b.high.map D.int).map A.v)[j]? = some (.v (.int (b.high.getD j 0))) := mget (getD_at (by rw [ok.eql]; exact hj))
    have hmul : mulOk (prd (spB b) j : Int) (b.high.getD j 0 - b.low.getD j 0 + 1) := .inl (.inr (by unfold loB at s3; omega))
    have hval : (prd (spB b) j : Int) * (b.high.getD j 0 - b.low.getD j 0 + 1) = (prd (spB b) (j + 1) : Int) := by
      show _ = ((prd (spB b) j * spB b j : Nat) : Int)
      rw [Int.natCast_mul, s3]
      unfold loB
      congr 1
      omega
    refine ⟨_, _, rfl, ?_⟩
    unfold l1__law_asked
    simp only [List.cons_append, List.nil_append]
    repeat1' (first | refine atk_i a1 ?_ | refine atk_i a2 ?_ | refine w_mul hmul ?_)
    rw [hval]
    exact ⟨_, rfl, rfl⟩
  · rintro σ st' ⟨t5, rfl, rfl⟩
    rw [rangeW_len, Int.toNat_natCast, List.length_map, List.length_map]
    have eM : prd (spB b) b.low.length = manyB b := rfl
    rw [eM]
    refine w_seq (w_set (w_C (w_seq (w_set (w_C (w_seq (w_set (w_C (w_seq (w_set (w_C ?_)))))))))))
    by_cases h8 : manyB b ≤ 8
    · have g1 := fun (st : Store) (Q : A → Store → Prop) (E : Exc → Store → Prop) => listed_w (st := st) (Q := Q) (E := E) b ok h8
      have g2 := fun (st : Store) (Q : A → Store → Prop) (E : Exc → Store → Prop) (h) => weather_w (st := st) (Q := Q) (E := E) b ok (fun _ => h) (fun q => absurd q (by omega))
      repeat1' (first | refine g1 _ _ _ ?_ | refine g2 _ _ _ ?_ | with_reducible refine w_try0 ?_ | unfold y2__law_asked | refine gs _ _ _ _ _ (hg h8) ?_)
      all_goals rfl
    · refine w_seq (w_sif (w_tcmp (w_op (w_var rfl (w_C (w_of (z := .v (.bl (dec ((manyB b : Int) ≤ 8)))) rfl (w_of (z := dec ((manyB b : Int) ≤ 8)) rfl (br_dec (fun bh => absurd bh (by omega)) (fun _ => w_snil ?_)))))))))
      refine w_seq (w_try1 ?_)
      unfold y2__law_asked
      refine w_set (w_call (w_cons (w_var rfl (w_cons (w_var rfl (w_cons (w_var rfl (w_nil (weather_w b ok (fun q => absurd q h8) (fun _ => .inl ⟨rfl, ?_⟩))))))))))
      refine ⟨[some (.v (.tup [.tup (b.low.map D.int), .tup (b.high.map D.int), .tup (b.tops.map D.int)])), some (.v (.tup (b.low.map D.int))), some (.v (.tup (b.high.map D.int))), some (.v (.tup (b.tops.map D.int))), some (.v (.int (manyB b : Int))), t5, some (.v .non), some (.v (.int (manyB b : Int))), some (.v (.bl true)), some (.v .non), none], T st [], fun a => ?_, ?_⟩
      · unfold x3__law_asked
        repeat1' (first | refine w_xf rfl rfl dicGet1 ?_ | refine w_xis rfl rfl ?_)
        exact ⟨rfl, rfl⟩
      · repeat1' (first | refine gs _ _ _ _ _ trivial ?_)
        all_goals rfl
end

end Pk06

set_option linter.all false
set_option Elab.async false
set_option maxRecDepth 100000
set_option maxHeartbeats 0
/-! Math_k06. -/
namespace Pk06
open PySem Dn Pre PreW
theorem law_true (ns : List Int) (hn : ns.length ≤ 63) : d_law [.v (.ro (ns.map D.int))] [] = .ok (.v (.bl true)) [] := by
  refine okE_eq (w_fnT (fun d => d = .bl true) ?_ fun d e => ⟨by rw [e], rfl⟩)
  unfold b_law
  refine w_seq (w_set (w_newpool (ns := ns) (k := 0) ?_ (by decide) fun p0 => ?_))
  · repeat1' fail
    exact ⟨rfl, rfl⟩
  show okS _ _
  refine w_seq (w_set (w_call (w_cons (w_var rfl (w_nil ?_)))))
  rw [← poolT (p := p0) (q := p0)]
  refine box_w poolT_lt fun b1 q1 ok1 => ?_
  rw [poolT]
  show okS _ _
  refine w_seq (w_set (w_call (w_cons (w_var rfl (w_nil ?_)))))
  rw [← poolT (p := q1) (q := q1)]
  refine box_w poolT_lt fun b2 q2 ok2 => ?_
  rw [poolT]
  show okS _ _
  repeat1' (first | refine asked_w b1 ok1 ?_ | refine asked_w b2 ok2 ?_)
  all_goals rfl
end Pk06

set_option linter.all false
set_option Elab.async false
set_option maxRecDepth 100000
set_option maxHeartbeats 0
/-! The walk of k06. -/
namespace Pk06
open PySem PySem.Spec PyProof.Rows L2 Dn Pre
def topS (i : Nat) : Stmt := PySem.Challenge.pw_gridstead_k06_weather_box.main.body.getD i (.Pass ⟨0, 0, 0, 0⟩)
abbrev cs : List Nat := []
abbrev s_weather_box : Stmt := topS 5
abbrev s__law_pool : Stmt := topS 7
abbrev s__law_draw : Stmt := topS 8
abbrev s__law_pick : Stmt := topS 9
abbrev s__law_up : Stmt := topS 10
abbrev s__law_same : Stmt := topS 11
abbrev s__law_widths : Stmt := topS 12
abbrev s__law_box : Stmt := topS 13
abbrev s__law_listed : Stmt := topS 14
abbrev s__law_asked : Stmt := topS 15
abbrev s_law : Stmt := topS 16
abbrev s_TooWide_init : Stmt := inClass (topS 2) 0
theorem nsc_TooWide : NdefX.NScope ["self", "count", "__class__"] ["self", "count"] ["__class__"] (defScope s_TooWide_init) := NdefX.nscope_by (by kernel_rfl)
structure Top (P : Program) (K : PySem.W.Frag) (mg : Str → Option Value) where
  weather_box : Fn1 K mg "weather_box" s_weather_box ["low", "high", "ceilings"]
  _law_pool : Fn1 K mg "_law_pool" s__law_pool ["script", "place"]
  _law_draw : Fn1 K mg "_law_draw" s__law_draw ["pool", "many"]
  _law_pick : Fn1 K mg "_law_pick" s__law_pick ["pool", "row"]
  _law_up : Fn1 K mg "_law_up" s__law_up ["pool", "few", "many"]
  _law_same : Fn1 K mg "_law_same" s__law_same ["got", "due"]
  _law_widths : Fn1 K mg "_law_widths" s__law_widths ["pool", "count"]
  _law_box : Fn1 K mg "_law_box" s__law_box ["pool"]
  _law_listed : Fn1 K mg "_law_listed" s__law_listed ["low", "high", "tops", "many"]
  _law_asked : Fn1 K mg "_law_asked" s__law_asked ["box"]
  law : Fn1 K mg "law" s_law ["script"]
  x_GridError : Ec K mg "GridError"
  x_TooWide : Ec K mg "TooWide"
  x_TooMany : Ec K mg "TooMany"
  sub_TooWide_GridError : PySem.W.subIn K (.ref x_TooWide.C) (.ref x_GridError.C) = some true
  sub_TooWide_TooMany : PySem.W.subIn K (.ref x_TooWide.C) (.ref x_TooMany.C) = some false
  sub_TooWide_TooWide : PySem.W.subIn K (.ref x_TooWide.C) (.ref x_TooWide.C) = some true
  r_TooWide : ErI K mg P "TooWide" "count"
  nf_TooWide_count : PySem.W.findIn K (.ref x_TooWide.C) "count" = some none
  z_ValueError : mg "ValueError" = none
  z_abs : mg "abs" = none
  z_bool : mg "bool" = none
  z_int : mg "int" = none
  z_isinstance : mg "isinstance" = none
  z_len : mg "len" = none
  z_min : mg "min" = none
  z_range : mg "range" = none
  z_str : mg "str" = none
  z_tuple : mg "tuple" = none
  z_zip : mg "zip" = none
section
variable {P : Program} {w : World} {K : PySem.W.Frag} {mg : Str → Option Value} {base : Heap}
theorem sc_weather_box : FnScope ["low", "high", "ceilings", "count", "least", "most", "rows", "row", "demand"] ["low", "high", "ceilings"] (defScope s_weather_box) := ⟨rfl, rfl, rfl, by decide +kernel, rfl, by decide +kernel, by decide +kernel⟩
theorem ok_weather_box (T : Top P K mg) : FnOk P w K mg base (L2.CX P w) 3 T.weather_box.f T.weather_box.fd ["low", "high", "ceilings"] (spV (kx K mg cs) 3 d_weather_box) :=
  fnV_ok (sb := b_weather_box) T.weather_box.fn sc_weather_box rfl rfl fun cdv A outer s H E hr => (ss_cons (s_set (i := 3) sc_weather_box.nd rfl (by first | exact .inl rfl | exact .inr rfl) e_int)
  (ss_cons (s_for (passes_of rfl) rfl (i_zip rfl rfl T.z_zip (v_ 0) (v_ 1)) (g_tup rfl rfl (gs_cons (gn_ 4 sc_weather_box.nd) (gs_cons (gn_ 5 sc_weather_box.nd) gs_nil)))
  (ss_one (s_aug (i := 3) sc_weather_box.nd rfl (by first | exact .inl rfl | exact .inr rfl) (e_op2 op_addU k2_addU (e_op op_sub k_sub (v_ 5) (v_ 4)) e_int) ip_mul ipk_mul)))
  (ss_cons (s_if (t_cmp op_gt k_gt (v_ 3) e_int (nomark _))
  (ss_one (s_raiseI rfl rfl rfl (takes_of rfl rfl rfl rfl) T.r_TooWide (hr.mono (by decide)) rfl (v_ 3)))
  ss_nil)
  (ss_cons (s_set (i := 6) sc_weather_box.nd rfl (by first | exact .inl rfl | exact .inr rfl) (e_frz (l_disp (a_cons (e_tup a_nil) a_nil))))
  (ss_cons (s_for (passes_of rfl) rfl (i_zip rfl rfl T.z_zip (v_ 0) (v_ 1)) (g_tup rfl rfl (gs_cons (gn_ 4 sc_weather_box.nd) (gs_cons (gn_ 5 sc_weather_box.nd) gs_nil)))
  (ss_one (s_setLc2 (i := 6) false rfl sc_weather_box.nd rfl rfl (sw_true rfl rfl rfl (by decide +kernel)) (own := [("row", 7), ("demand", 8)]) (vs1 := [8]) (i_seq rfl (v_ 6)) (blkOk_by (by kernel_rfl)) (fun _ _ _ _ _ => (gn_ 7 sc_weather_box.nd)) (fun _ _ _ _ _ => ts_nil) (fun _ _ _ _ _ => (i_range2 rfl T.z_range (v_ 4) (e_op2 op_addU k2_addU (v_ 5) e_int))) (fun _ _ _ _ _ => (gn_ 8 sc_weather_box.nd)) (fun _ _ _ _ _ => ts_nil) (fun _ _ _ _ _ => (e_op2 op_addU k2_addU (v_ 7) (e_tup (a_cons (v_ 8) a_nil)))) (by decide))))
  (ss_one (s_ret (e_tuple rfl T.z_tuple rfl (e_frz (l_comp (own := [("row", 7)]) rfl sc_weather_box.nd (i_seq rfl (v_ 6)) (blkOk_by (by kernel_rfl)) (fun _ _ _ _ _ => (gn_ 7 sc_weather_box.nd)) (fun _ _ _ _ _ => ts_nil) (fun _ _ _ _ _ => (e_tup (a_cons (v_ 7) (a_cons (v_ 2) a_nil))))))))))))))
theorem sc__law_pool : FnScope ["script", "place", "cell", "free"] ["script", "place"] (defScope s__law_pool) := ⟨rfl, rfl, rfl, by decide +kernel, rfl, by decide +kernel, by decide +kernel⟩
theorem ok__law_pool (T : Top P K mg) : FnOk P w K mg base (L2.CX P w) 1 T._law_pool.f T._law_pool.fd ["script", "place"] (spL (kx K mg cs) 2 d__law_pool) :=
  fnL_ok (sb := b__law_pool) T._law_pool.fn sc__law_pool rfl rfl fun cdv A outer s H E hr => (ss_cons (s_set (i := 2) sc__law_pool.nd rfl (by first | exact .inl rfl | exact .inr rfl) e_int)
  (ss_cons (s_if (t_cmp (op_ltU hr.units0) k_ltU (v_ 1) (e_len rfl T.z_len rfl (v_ 0)) (nomark _))
  (ss_one (s_set (i := 2) sc__law_pool.nd rfl (by first | exact .inl rfl | exact .inr rfl) (e_op2 op_addU k2_addU (e_op2 op_mulU k2_mulU e_int (e_callB call_abs k_abs rfl T.z_abs (by decide +kernel) (a_cons (e_callTy call_int1 k_intc rfl T.z_int (by decide +kernel) (a_cons (e_ix rfl (v_ 0) (v_ 1) (fun _ _ => rfl)) a_nil)) a_nil))) (e_callTy call_int1 k_intc rfl T.z_int (by decide +kernel) (a_cons (e_cmp (op_ltU hr.units0) k_ltU (e_ix rfl (v_ 0) (v_ 1) (fun _ _ => rfl)) e_int (nomark _)) a_nil)))))
  ss_nil)
  (ss_cons (s_set (i := 3) sc__law_pool.nd rfl (by first | exact .inl rfl | exact .inr rfl) e_int)
  (ss_cons (s_if (t_cmp op_ge k_ge (v_ 2) (e_op op_pow k_pow e_int e_int) (nomark _))
  (ss_one (s_set (i := 3) sc__law_pool.nd rfl (by first | exact .inl rfl | exact .inr rfl) (v_ 2)))
  ss_nil)
  (ss_one (s_ret (e_live (l_disp (a_cons (v_ 3) (a_cons (e_op op_modN k_mod (e_callTy call_int1 k_intc rfl T.z_int (by decide +kernel) (a_cons (e_op2 op_addU k2_addU (v_ 2) (e_op2 op_mulU k2_mulU e_int (e_op2 op_addU k2_addU (v_ 1) e_int))) a_nil)) e_int) (a_cons e_int a_nil)))))))))))
theorem sc__law_draw : FnScope ["pool", "many", "told", "mixed"] ["pool", "many"] (defScope s__law_draw) := ⟨rfl, rfl, rfl, by decide +kernel, rfl, by decide +kernel, by decide +kernel⟩
theorem ok__law_draw (T : Top P K mg) : FnOk P w K mg base (L2.CX P w) 1 T._law_draw.f T._law_draw.fd ["pool", "many"] (spV (kx K mg cs) 2 d__law_draw) :=
  fnV_ok (sb := b__law_draw) T._law_draw.fn sc__law_draw rfl rfl fun cdv A outer s H E hr => (ss_cons (s_if (t_cmp op_gt k_gt (e_ix rfl (v_ 0) e_int (fun _ _ => rfl)) e_int (nomark _))
  (ss_cons (s_set (i := 2) sc__law_draw.nd rfl (by first | exact .inl rfl | exact .inr rfl) (e_op op_modN k_mod (e_callTy call_int1 k_intc rfl T.z_int (by decide +kernel) (a_cons (e_ix rfl (v_ 0) e_int (fun _ _ => rfl)) a_nil)) (v_ 1)))
  (ss_cons (s_asg (e_op op_divB k_div (e_ix rfl (v_ 0) e_int (fun _ _ => rfl)) (v_ 1)) (g_sub (pg_sub (v_ 0) e_int set_list)))
  (ss_one (s_ret (v_ 2)))))
  ss_nil)
  (ss_cons (s_asg (e_op2 op_addU k2_addU (e_ix rfl (v_ 0) e_int (fun _ _ => rfl)) e_int) (g_sub (pg_sub (v_ 0) e_int set_list)))
  (ss_cons (s_set (i := 3) sc__law_draw.nd rfl (by first | exact .inl rfl | exact .inr rfl) (e_op op_modN k_mod (e_callTy call_int1 k_intc rfl T.z_int (by decide +kernel) (a_cons (e_op2 op_addU k2_addU (e_ix rfl (v_ 0) e_int (fun _ _ => rfl)) (e_op2 op_mulU k2_mulU (e_ix rfl (v_ 0) e_int (fun _ _ => rfl)) e_int)) a_nil)) e_int))
  (ss_cons (s_set (i := 3) sc__law_draw.nd rfl (by first | exact .inl rfl | exact .inr rfl) (e_op op_modN k_mod (e_callTy call_int1 k_intc rfl T.z_int (by decide +kernel) (a_cons (e_op2 op_addU k2_addU (e_op2 op_addU k2_addU (e_op2 op_mulU k2_mulU (v_ 3) (v_ 3)) (e_op2 op_mulU k2_mulU e_int (v_ 3))) (e_ix rfl (v_ 0) e_int (fun _ _ => rfl))) a_nil)) e_int))
  (ss_cons (s_set (i := 3) sc__law_draw.nd rfl (by first | exact .inl rfl | exact .inr rfl) (e_op op_modN k_mod (e_callTy call_int1 k_intc rfl T.z_int (by decide +kernel) (a_cons (e_op2 op_addU k2_addU (e_op2 op_addU k2_addU (e_op2 op_mulU k2_mulU (v_ 3) (v_ 3)) (e_op2 op_mulU k2_mulU e_int (v_ 3))) e_int) a_nil)) e_int))
  (ss_one (s_ret (e_op op_modN k_mod (e_callTy call_int1 k_intc rfl T.z_int (by decide +kernel) (a_cons (e_op op_divB k_div (v_ 3) e_int) a_nil)) (v_ 1)))))))))
theorem sc__law_pick : FnScope ["pool", "row"] ["pool", "row"] (defScope s__law_pick) := ⟨rfl, rfl, rfl, by decide +kernel, rfl, by decide +kernel, by decide +kernel⟩
theorem ok__law_pick (T : Top P K mg) : FnOk P w K mg base (L2.CX P w) 2 T._law_pick.f T._law_pick.fd ["pool", "row"] (spV (kx K mg cs) 2 d__law_pick) :=
  fnV_ok (sb := b__law_pick) T._law_pick.fn sc__law_pick rfl rfl fun cdv A outer s H E hr => (ss_one (s_ret (e_ix rfl (v_ 1) (e_call (ok__law_draw T) (hr.mono (by decide)) (takes_of rfl rfl rfl rfl) rfl T._law_draw.gm T._law_draw.fn.kp T._law_draw.bd (a_cons (v_ 0) (a_cons (e_len rfl T.z_len rfl (v_ 1)) a_nil))) (fun _ _ => rfl))))
theorem sc__law_up : FnScope ["pool", "few", "many"] ["pool", "few", "many"] (defScope s__law_up) := ⟨rfl, rfl, rfl, by decide +kernel, rfl, by decide +kernel, by decide +kernel⟩
theorem ok__law_up (T : Top P K mg) : FnOk P w K mg base (L2.CX P w) 2 T._law_up.f T._law_up.fd ["pool", "few", "many"] (spV (kx K mg cs) 3 d__law_up) :=
  fnV_ok (sb := b__law_up) T._law_up.fn sc__law_up rfl rfl fun cdv A outer s H E hr => (ss_cons (s_if (t_cmp op_gt k_gt (e_call (ok__law_draw T) (hr.mono (by decide)) (takes_of rfl rfl rfl rfl) rfl T._law_draw.gm T._law_draw.fn.kp T._law_draw.bd (a_cons (v_ 0) (a_cons e_int a_nil))) e_int (nomark _))
  (ss_one (s_ret (e_call (ok__law_draw T) (hr.mono (by decide)) (takes_of rfl rfl rfl rfl) rfl T._law_draw.gm T._law_draw.fn.kp T._law_draw.bd (a_cons (v_ 0) (a_cons (v_ 1) a_nil)))))
  ss_nil)
  (ss_one (s_ret (e_call (ok__law_draw T) (hr.mono (by decide)) (takes_of rfl rfl rfl rfl) rfl T._law_draw.gm T._law_draw.fn.kp T._law_draw.bd (a_cons (v_ 0) (a_cons (v_ 2) a_nil))))))
theorem sc__law_same : FnScope ["got", "due", "x"] ["got", "due"] (defScope s__law_same) := ⟨rfl, rfl, rfl, by decide +kernel, rfl, by decide +kernel, by decide +kernel⟩
theorem ok__law_same (T : Top P K mg) : ∀ n : Nat, FnOk P w K mg base (L2.CX P w) (n + 1) T._law_same.f T._law_same.fd ["got", "due"] (spV (kx K mg cs) 2 (d__law_same n))
  | 0 => fn_never
  | n + 1 => by
    have ih := ok__law_same T n
    exact fnV_ok (lv := n + 1) (sb := b__law_same n) T._law_same.fn sc__law_same rfl rfl fun cdv A outer s H E hr => (ss_cons (s_if (t_of rfl (e_isi (t := .tuple) rfl T.z_isinstance rfl T.z_tuple (by decide +kernel) rfl (v_ 1)))
  (ss_cons (s_if (PW.pt (w_or (t_not (t_of rfl (e_isi (t := .tuple) rfl T.z_isinstance rfl T.z_tuple (by decide +kernel) rfl (v_ 0)))) (w_or1 (t_cmp2 (op_neG hr.units) k2_neG (e_len rfl T.z_len rfl (v_ 0)) (e_len rfl T.z_len rfl (v_ 1)) (nomark _)))))
  (ss_one (s_ret e_bl))
  ss_nil)
  (ss_one (s_ret (e_cmp2 (op_eqG hr.units) k2_eqG (e_frz (l_comp (own := [("x", 2)]) rfl sc__law_same.nd (i_range1 rfl T.z_range (e_len rfl T.z_len rfl (v_ 1))) (blkOk_by (by kernel_rfl)) (fun _ _ _ _ _ => (gn_ 2 sc__law_same.nd)) (fun _ _ _ _ _ => (ts_one (t_not (t_of rfl (e_call ih (hr.mono (by omega)) takes0 rfl T._law_same.gm T._law_same.fn.kp T._law_same.bd (a_cons (e_ix rfl (v_ 0) (v_ 2) (fun _ _ => rfl)) (a_cons (e_ix rfl (v_ 1) (v_ 2) (fun _ _ => rfl)) a_nil))))))) (fun _ _ _ _ _ => (v_ 2)))) (e_frz (l_disp a_nil)) (nomark _)))))
  ss_nil)
  (ss_cons (s_if (t_cmp op_isN k_isN (v_ 1) e_non (nomark _))
  (ss_one (s_ret (e_cmp op_isN k_isN (v_ 0) e_non (nomark _))))
  ss_nil)
  (ss_cons (s_if (PW.pt (w_or (t_cmp op_isB k_isB (v_ 1) e_bl (nomark _)) (w_or1 (t_cmp op_isB k_isB (v_ 1) e_bl (nomark _)))))
  (ss_one (s_ret (e_and (e_isi (t := .bool) rfl T.z_isinstance rfl T.z_bool (by decide +kernel) rfl (v_ 0)) (e_one (e_cmp2 (op_eqG hr.units) k2_eqG (v_ 0) (v_ 1) (nomark _))))))
  ss_nil)
  (ss_cons (s_if (t_of rfl (e_isi (t := .str) rfl T.z_isinstance rfl T.z_str (by decide +kernel) rfl (v_ 1)))
  (ss_one (s_ret (e_and (e_isi (t := .str) rfl T.z_isinstance rfl T.z_str (by decide +kernel) rfl (v_ 0)) (e_one (e_cmp2 (op_eqG hr.units) k2_eqG (v_ 0) (v_ 1) (nomark _))))))
  ss_nil)
  (ss_one (s_ret (e_and (e_isi (t := .int) rfl T.z_isinstance rfl T.z_int (by decide +kernel) rfl (v_ 0)) (e_and (e_not (e_isi (t := .bool) rfl T.z_isinstance rfl T.z_bool (by decide +kernel) rfl (v_ 0))) (e_one (e_cmp2 (op_eqG hr.units) k2_eqG (v_ 0) (v_ 1) (nomark _)))))))))))
theorem sc__law_widths : FnScope ["pool", "count", "style", "j", "factors", "spans", "at", "x"] ["pool", "count"] (defScope s__law_widths) := ⟨rfl, rfl, rfl, by decide +kernel, rfl, by decide +kernel, by decide +kernel⟩
theorem ok__law_widths (T : Top P K mg) : FnOk P w K mg base (L2.CX P w) 3 T._law_widths.f T._law_widths.fd ["pool", "count"] (spV (kx K mg cs) 2 d__law_widths) :=
  fnV_ok (sb := b__law_widths) T._law_widths.fn sc__law_widths rfl rfl fun cdv A outer s H E hr => (ss_cons (s_set (i := 2) sc__law_widths.nd rfl (by first | exact .inl rfl | exact .inr rfl) (e_call (ok__law_draw T) (hr.mono (by decide)) (takes_of rfl rfl rfl rfl) rfl T._law_draw.gm T._law_draw.fn.kp T._law_draw.bd (a_cons (v_ 0) (a_cons e_int a_nil))))
  (ss_cons (s_if (t_cmp2 (op_eqG hr.units) k2_eqG (v_ 2) e_int (nomark _))
  (ss_one (s_ret (e_frz (l_comp (own := [("j", 3)]) rfl sc__law_widths.nd (i_range1 rfl T.z_range (v_ 1)) (blkOk_by (by kernel_rfl)) (fun _ _ _ _ _ => (gn_ 3 sc__law_widths.nd)) (fun _ _ _ _ _ => ts_nil) (fun _ _ _ _ _ => (e_op2 op_addU k2_addU e_int (e_call (ok__law_up T) (hr.mono (by decide)) takes0 rfl T._law_up.gm T._law_up.fn.kp T._law_up.bd (a_cons (v_ 0) (a_cons e_int (a_cons e_int a_nil))))))))))
  ss_nil)
  (ss_cons (s_if (t_cmp2 (op_eqG hr.units) k2_eqG (v_ 2) e_int (nomark _))
  (ss_one (s_ret (e_frz (l_comp (own := [("j", 3)]) rfl sc__law_widths.nd (i_range1 rfl T.z_range (v_ 1)) (blkOk_by (by kernel_rfl)) (fun _ _ _ _ _ => (gn_ 3 sc__law_widths.nd)) (fun _ _ _ _ _ => ts_nil) (fun _ _ _ _ _ => (e_op2 op_addU k2_addU e_int (e_call (ok__law_draw T) (hr.mono (by decide)) takes0 rfl T._law_draw.gm T._law_draw.fn.kp T._law_draw.bd (a_cons (v_ 0) (a_cons e_int a_nil)))))))))
  ss_nil)
  (ss_cons (s_set (i := 4) sc__law_widths.nd rfl (by first | exact .inl rfl | exact .inr rfl) (e_call (ok__law_pick T) (hr.mono (by decide)) (takes_of rfl rfl rfl rfl) rfl T._law_pick.gm T._law_pick.fn.kp T._law_pick.bd (a_cons (v_ 0) (a_cons (e_frz (l_disp (a_cons (e_frz (l_disp (a_cons e_int a_nil))) (a_cons (e_frz (l_disp (a_cons e_int (a_cons e_int a_nil)))) (a_cons (e_frz (l_disp (a_cons e_int (a_cons e_int a_nil)))) (a_cons (e_frz (l_disp (a_cons e_int (a_cons e_int (a_cons e_int a_nil))))) a_nil)))))) a_nil))))
  (ss_cons (s_if (t_cmp2 (op_eqG hr.units) k2_eqG (v_ 2) e_int (nomark _))
  (ss_one (s_set (i := 4) sc__law_widths.nd rfl (by first | exact .inl rfl | exact .inr rfl) (e_call (ok__law_pick T) (hr.mono (by decide)) (takes_of rfl rfl rfl rfl) rfl T._law_pick.gm T._law_pick.fn.kp T._law_pick.bd (a_cons (v_ 0) (a_cons (e_frz (l_disp (a_cons (e_frz (l_disp (a_cons e_int a_nil))) (a_cons (e_frz (l_disp (a_cons e_int (a_cons e_int a_nil)))) (a_cons (e_frz (l_disp (a_cons e_int (a_cons e_int a_nil)))) (a_cons (e_frz (l_disp (a_cons e_int (a_cons e_int (a_cons e_int a_nil))))) a_nil)))))) a_nil)))))
  ss_nil)
  (ss_cons (s_setLc (i := 5) true rfl sc__law_widths.nd rfl rfl (sw_true rfl rfl rfl (by decide +kernel)) (own := [("j", 3)]) (i_range1 rfl T.z_range (v_ 1)) (blkOk_by (by kernel_rfl)) (fun _ _ _ _ _ => (gn_ 3 sc__law_widths.nd)) (fun _ _ _ _ _ => ts_nil) (fun _ _ _ _ _ => e_int))
  (ss_cons (s_set (i := 6) sc__law_widths.nd rfl (by first | exact .inl rfl | exact .inr rfl) (e_call (ok__law_draw T) (hr.mono (by decide)) (takes_of rfl rfl rfl rfl) rfl T._law_draw.gm T._law_draw.fn.kp T._law_draw.bd (a_cons (v_ 0) (a_cons e_int a_nil))))
  (ss_cons (s_for (passes_of rfl) rfl (i_range1 rfl T.z_range (e_callB (call_min2 rfl) k_min2 rfl T.z_min (by decide +kernel) (a_cons (v_ 1) (a_cons (e_len rfl T.z_len rfl (v_ 4)) a_nil)))) (gn_ 7 sc__law_widths.nd)
  (ss_one (s_asg (e_ix rfl (v_ 4) (v_ 7) (fun _ _ => rfl)) (g_sub (pg_sub (v_ 5) (e_op op_modN k_mod (e_callTy call_int1 k_intc rfl T.z_int (by decide +kernel) (a_cons (e_op2 op_addU k2_addU (v_ 6) (v_ 7)) a_nil)) (v_ 1)) set_list)))))
  (ss_one (s_ret (v_ 5)))))))))))
theorem sc__law_box : FnScope ["pool", "count", "spans", "low", "span", "high", "j", "tops", "p"] ["pool"] (defScope s__law_box) := ⟨rfl, rfl, rfl, by decide +kernel, rfl, by decide +kernel, by decide +kernel⟩
theorem ok__law_box (T : Top P K mg) : FnOk P w K mg base (L2.CX P w) 4 T._law_box.f T._law_box.fd ["pool"] (spV (kx K mg cs) 1 d__law_box) :=
  fnV_ok (sb := b__law_box) T._law_box.fn sc__law_box rfl rfl fun cdv A outer s H E hr => (ss_cons (s_set (i := 1) sc__law_box.nd rfl (by first | exact .inl rfl | exact .inr rfl) (e_call (ok__law_draw T) (hr.mono (by decide)) (takes_of rfl rfl rfl rfl) rfl T._law_draw.gm T._law_draw.fn.kp T._law_draw.bd (a_cons (v_ 0) (a_cons e_int a_nil))))
  (ss_cons (s_set (i := 2) sc__law_box.nd rfl (by first | exact .inl rfl | exact .inr rfl) (e_call (ok__law_widths T) (hr.mono (by decide)) (takes_of rfl rfl rfl rfl) rfl T._law_widths.gm T._law_widths.fn.kp T._law_widths.bd (a_cons (v_ 0) (a_cons (v_ 1) a_nil))))
  (ss_cons (s_set (i := 3) sc__law_box.nd rfl (by first | exact .inl rfl | exact .inr rfl) (e_tuple rfl T.z_tuple rfl (e_frz (l_comp (own := [("span", 4)]) rfl sc__law_box.nd (i_seq rfl (v_ 2)) (blkOk_by (by kernel_rfl)) (fun _ _ _ _ _ => (gn_ 4 sc__law_box.nd)) (fun _ _ _ _ _ => ts_nil) (fun _ _ _ _ _ => (e_call (ok__law_draw T) (hr.mono (by decide)) takes0 rfl T._law_draw.gm T._law_draw.fn.kp T._law_draw.bd (a_cons (v_ 0) (a_cons (e_op op_sub k_sub e_int (v_ 4)) a_nil))))))))
  (ss_cons (s_set (i := 5) sc__law_box.nd rfl (by first | exact .inl rfl | exact .inr rfl) (e_tuple rfl T.z_tuple rfl (e_frz (l_comp (own := [("j", 6)]) rfl sc__law_box.nd (i_range1 rfl T.z_range (v_ 1)) (blkOk_by (by kernel_rfl)) (fun _ _ _ _ _ => (gn_ 6 sc__law_box.nd)) (fun _ _ _ _ _ => ts_nil) (fun _ _ _ _ _ => (e_op op_sub k_sub (e_op2 op_addU k2_addU (e_ix rfl (v_ 3) (v_ 6) (fun _ _ => rfl)) (e_ix rfl (v_ 2) (v_ 6) (fun _ _ => rfl))) e_int))))))
  (ss_cons (s_set (i := 7) sc__law_box.nd rfl (by first | exact .inl rfl | exact .inr rfl) (e_tuple rfl T.z_tuple rfl (e_frz (l_comp (own := [("p", 8)]) rfl sc__law_box.nd (i_range1 rfl T.z_range (e_call (ok__law_draw T) (hr.mono (by decide)) (takes_of rfl rfl rfl rfl) rfl T._law_draw.gm T._law_draw.fn.kp T._law_draw.bd (a_cons (v_ 0) (a_cons e_int a_nil)))) (blkOk_by (by kernel_rfl)) (fun _ _ _ _ _ => (gn_ 8 sc__law_box.nd)) (fun _ _ _ _ _ => ts_nil) (fun _ _ _ _ _ => (e_call (ok__law_draw T) (hr.mono (by decide)) takes0 rfl T._law_draw.gm T._law_draw.fn.kp T._law_draw.bd (a_cons (v_ 0) (a_cons e_int a_nil))))))))
  (ss_one (s_ret (e_tup (a_cons (v_ 3) (a_cons (v_ 5) (a_cons (v_ 7) a_nil)))))))))))
theorem sc__law_listed : FnScope ["low", "high", "tops", "many", "rows", "code", "left", "asks", "j", "span"] ["low", "high", "tops", "many"] (defScope s__law_listed) := ⟨rfl, rfl, rfl, by decide +kernel, rfl, by decide +kernel, by decide +kernel⟩
theorem ok__law_listed (T : Top P K mg) : FnOk P w K mg base (L2.CX P w) 1 T._law_listed.f T._law_listed.fd ["low", "high", "tops", "many"] (spV (kx K mg cs) 4 d__law_listed) :=
  fnV_ok (sb := b__law_listed) T._law_listed.fn sc__law_listed rfl rfl fun cdv A outer s H E hr => (ss_cons (s_set (i := 4) sc__law_listed.nd rfl (by first | exact .inl rfl | exact .inr rfl) (e_live (l_disp a_nil)))
  (ss_cons (s_for (passes_of rfl) rfl (i_range1 rfl T.z_range (v_ 3)) (gn_ 5 sc__law_listed.nd)
  (ss_cons (s_set (i := 6) sc__law_listed.nd rfl (by first | exact .inl rfl | exact .inr rfl) (v_ 5))
  (ss_cons (s_set (i := 7) sc__law_listed.nd rfl (by first | exact .inl rfl | exact .inr rfl) (e_tup a_nil))
  (ss_cons (s_for (passes_of rfl) rfl (i_rangeDn rfl T.z_range (e_op op_sub k_sub (e_len rfl T.z_len rfl (v_ 0)) e_int) (e_un un_neg k_neg e_int)) (gn_ 8 sc__law_listed.nd)
  (ss_cons (s_set (i := 9) sc__law_listed.nd rfl (by first | exact .inl rfl | exact .inr rfl) (e_op2 op_addU k2_addU (e_op op_sub k_sub (e_ix rfl (v_ 1) (v_ 8) (fun _ _ => rfl)) (e_ix rfl (v_ 0) (v_ 8) (fun _ _ => rfl))) e_int))
  (ss_cons (s_set (i := 7) sc__law_listed.nd rfl (by first | exact .inl rfl | exact .inr rfl) (e_op2 op_addU k2_addU (e_tup (a_cons (e_op2 op_addU k2_addU (e_ix rfl (v_ 0) (v_ 8) (fun _ _ => rfl)) (e_op op_modN k_mod (e_callTy call_int1 k_intc rfl T.z_int (by decide +kernel) (a_cons (v_ 6) a_nil)) (v_ 9))) a_nil)) (v_ 7)))
  (ss_one (s_set (i := 6) sc__law_listed.nd rfl (by first | exact .inl rfl | exact .inr rfl) (e_op op_divB k_div (v_ 6) (v_ 9)))))))
  (ss_one (s_expr (e_append (pe_bm PySem.F.plainAttrs_list PySem.F.slot_list_append PySem.F.type_list_append mt_append (v_ 4) (pa_cons (e_tup (a_cons (v_ 7) (a_cons (v_ 2) a_nil))) pa_nil)))))))))
  (ss_one (s_ret (e_tuple rfl T.z_tuple rfl (v_ 4))))))
theorem sc__law_asked : FnScope ["box", "low", "high", "tops", "many", "j", "told", "count", "fits", "due", "e"] ["box"] (defScope s__law_asked) := ⟨rfl, rfl, rfl, by decide +kernel, rfl, by decide +kernel, by decide +kernel⟩
theorem ok__law_asked (T : Top P K mg) : FnOk P w K mg base (L2.CX P w) 14 T._law_asked.f T._law_asked.fd ["box"] (spV (kx K mg cs) 1 d__law_asked) :=
  fnV_ok (sb := b__law_asked) T._law_asked.fn sc__law_asked rfl rfl fun cdv A outer s H E hr => (ss_cons (s_asg (v_ 0) (g_tup rfl rfl (gs_cons (gn_ 1 sc__law_asked.nd) (gs_cons (gn_ 2 sc__law_asked.nd) (gs_cons (gn_ 3 sc__law_asked.nd) gs_nil)))))
  (ss_cons (s_set (i := 4) sc__law_asked.nd rfl (by first | exact .inl rfl | exact .inr rfl) e_int)
  (ss_cons (s_for (passes_of rfl) rfl (i_range1 rfl T.z_range (e_len rfl T.z_len rfl (v_ 1))) (gn_ 5 sc__law_asked.nd)
  (ss_one (s_set (i := 4) sc__law_asked.nd rfl (by first | exact .inl rfl | exact .inr rfl) (e_op2 op_mulU k2_mulU (v_ 4) (e_op2 op_addU k2_addU (e_op op_sub k_sub (e_ix rfl (v_ 2) (v_ 5) (fun _ _ => rfl)) (e_ix rfl (v_ 1) (v_ 5) (fun _ _ => rfl))) e_int)))))
  (ss_cons (s_set (i := 6) sc__law_asked.nd rfl (by first | exact .inl rfl | exact .inr rfl) e_non)
  (ss_cons (s_set (i := 7) sc__law_asked.nd rfl (by first | exact .inl rfl | exact .inr rfl) e_non)
  (ss_cons (s_set (i := 8) sc__law_asked.nd rfl (by first | exact .inl rfl | exact .inr rfl) e_bl)
  (ss_cons (s_set (i := 9) sc__law_asked.nd rfl (by first | exact .inl rfl | exact .inr rfl) e_non)
  (ss_cons (s_if (t_cmp op_le k_le (v_ 4) e_int (nomark _))
  (ss_one (s_set (i := 9) sc__law_asked.nd rfl (by first | exact .inl rfl | exact .inr rfl) (e_call (ok__law_listed T) (hr.mono (by decide)) (takes_of rfl rfl rfl rfl) rfl T._law_listed.gm T._law_listed.fn.kp T._law_listed.bd (a_cons (v_ 1) (a_cons (v_ 2) (a_cons (v_ 3) (a_cons (v_ 4) a_nil)))))))
  ss_nil)
  (ss_cons (s_try1 (i := 10) rfl rfl rfl sc__law_asked.nd rfl rfl ⟨rfl, by decide, .inl T.x_TooWide.gm⟩ (takes_of rfl rfl rfl rfl) (tc_cons T.x_TooWide.gm (PySem.W.exm_ref T.x_TooWide.exC T.x_TooWide.hd T.x_TooWide.ty T.sub_TooWide_TooWide) tc_nil) (fun W pn xe tk po => (ss_one (s_set (i := 6) sc__law_asked.nd rfl (by first | exact .inl rfl | exact .inr rfl) (e_call (ok_weather_box T) (hr.mono (by decide)) tk rfl T.weather_box.gm T.weather_box.fn.kp T.weather_box.bd (a_cons (v_ 1) (a_cons (v_ 2) (a_cons (v_ 3) a_nil))))))) (fun a oe y cls d pn hz hv => (ss_cons (s_set (i := 7) sc__law_asked.nd rfl (by first | exact .inl rfl | exact .inr rfl) (e_xf rfl (tb_cons T.x_TooWide.gm ⟨T.x_TooWide.xfc, T.nf_TooWide_count⟩ tb_nil) hz hv rfl (by first | exact .inl rfl | exact .inr (.inl rfl) | exact .inr (.inr rfl))))
  (ss_one (s_set (i := 8) sc__law_asked.nd rfl (by first | exact .inl rfl | exact .inr rfl) (e_and (e_xis rfl (tc_cons T.x_TooWide.gm ⟨T.x_TooWide.excc, (kit_mk T.x_GridError.hd T.x_GridError.ty T.sub_TooWide_GridError T.x_GridError.self)⟩ tc_nil) hz hv rfl (by first | exact .inl rfl | exact .inr (.inl rfl) | exact .inr (.inr rfl)) rfl T.z_isinstance rfl T.x_GridError.gm) (e_and (e_xisB rfl (tc_cons T.x_TooWide.gm ⟨T.x_TooWide.excc, (kit_ve T.x_TooWide.ve)⟩ tc_nil) hz hv rfl (by first | exact .inl rfl | exact .inr (.inl rfl) | exact .inr (.inr rfl)) rfl T.z_isinstance rfl T.z_ValueError (by decide +kernel)) (e_one (e_not (e_xis rfl (tc_cons T.x_TooWide.gm ⟨T.x_TooWide.excc, (kit_mk T.x_TooMany.hd T.x_TooMany.ty T.sub_TooWide_TooMany T.x_TooMany.self)⟩ tc_nil) hz hv rfl (by first | exact .inl rfl | exact .inr (.inl rfl) | exact .inr (.inr rfl)) rfl T.z_isinstance rfl T.x_TooMany.gm))))))))))
  (ss_cons (s_if (t_cmp op_gt k_gt (v_ 4) e_int (nomark _))
  (ss_one (s_ret (e_and (e_cmp op_isN k_isN (v_ 6) e_non (nomark _)) (e_and (v_ 8) (e_one (e_call (ok__law_same T 12) (hr.mono (by decide)) (takes_of rfl rfl rfl rfl) rfl T._law_same.gm T._law_same.fn.kp T._law_same.bd (a_cons (v_ 7) (a_cons (v_ 4) a_nil))))))))
  ss_nil)
  (ss_one (s_ret (e_and (e_cmp op_isN k_isN (v_ 7) e_non (nomark _)) (e_one (e_call (ok__law_same T 12) (hr.mono (by decide)) (takes_of rfl rfl rfl rfl) rfl T._law_same.gm T._law_same.fn.kp T._law_same.bd (a_cons (v_ 6) (a_cons (v_ 9) a_nil)))))))))))))))))
theorem sc_law : FnScope ["script", "pool", "one", "two"] ["script"] (defScope s_law) := ⟨rfl, rfl, rfl, by decide +kernel, rfl, by decide +kernel, by decide +kernel⟩
theorem ok_law (T : Top P K mg) : FnOk P w K mg base (L2.CX P w) 15 T.law.f T.law.fd ["script"] (spV (kx K mg cs) 1 d_law) :=
  fnV_ok (sb := b_law) T.law.fn sc_law rfl rfl fun cdv A outer s H E hr => (ss_cons (s_set (i := 1) sc_law.nd rfl (by first | exact .inl rfl | exact .inr rfl) (e_live (l_call (ok__law_pool T) (hr.mono (by decide)) (takes_of rfl rfl rfl rfl) rfl T._law_pool.gm T._law_pool.fn.kp T._law_pool.bd (a_cons (v_ 0) (a_cons e_int a_nil)))))
  (ss_cons (s_set (i := 2) sc_law.nd rfl (by first | exact .inl rfl | exact .inr rfl) (e_call (ok__law_box T) (hr.mono (by decide)) (takes_of rfl rfl rfl rfl) rfl T._law_box.gm T._law_box.fn.kp T._law_box.bd (a_cons (v_ 1) a_nil)))
  (ss_cons (s_set (i := 3) sc_law.nd rfl (by first | exact .inl rfl | exact .inr rfl) (e_call (ok__law_box T) (hr.mono (by decide)) (takes_of rfl rfl rfl rfl) rfl T._law_box.gm T._law_box.fn.kp T._law_box.bd (a_cons (v_ 1) a_nil)))
  (ss_cons (s_if (PW.pt (w_or (t_not (t_of rfl (e_call (ok__law_asked T) (hr.mono (by decide)) (takes_of rfl rfl rfl rfl) rfl T._law_asked.gm T._law_asked.fn.kp T._law_asked.bd (a_cons (v_ 2) a_nil)))) (w_or1 (t_not (t_of rfl (e_call (ok__law_asked T) (hr.mono (by decide)) (takes_of rfl rfl rfl rfl) rfl T._law_asked.gm T._law_asked.fn.kp T._law_asked.bd (a_cons (v_ 3) a_nil)))))))
  (ss_one (s_ret e_bl))
  ss_nil)
  (ss_one (s_ret (e_call (ok__law_asked T) (hr.mono (by decide)) (takes_of rfl rfl rfl rfl) rfl T._law_asked.gm T._law_asked.fn.kp T._law_asked.bd (a_cons (v_ 2) a_nil))))))))
end
theorem all_mk {l : PySem.W.OpenLaw} {P : Program} (hP : l.prog = P) {w : World} {K : PySem.W.Frag} {h : Heap} {mg : Str → Option Value} {fa : Addr} (X : K.In h) (G : h.Ns mainGlobals mg) (hfa : mg "law" = some (.ref fa))
    {f0 : Addr} {od0 an0 : Option Addr} {sl0 : Array (Option Value)} {oc0 kV0 dc0 pm0 cd0 ct0 : Value}
    (a0 : PySem.W.nsIn K mainGlobals "weather_box" = some (some (.ref f0)))
    (l0 : K.lookup f0 = some ⟨oc0, od0, .func (PySem.W.fnOf "weather_box" "weather_box" (defArgs s_weather_box) (defBody s_weather_box) (defScope s_weather_box) .none kV0 dc0 pm0 an0 cd0 ct0), sl0⟩)
    (c0 : PySem.W.codeIn K cd0 "weather_box" = true)
    (k0 : PySem.W.keepIn K (.ref f0) = true)
    {f1 : Addr} {od1 an1 : Option Addr} {sl1 : Array (Option Value)} {oc1 kV1 dc1 pm1 cd1 ct1 : Value}
    (a1 : PySem.W.nsIn K mainGlobals "_law_pool" = some (some (.ref f1)))
    (l1 : K.lookup f1 = some ⟨oc1, od1, .func (PySem.W.fnOf "_law_pool" "_law_pool" (defArgs s__law_pool) (defBody s__law_pool) (defScope s__law_pool) .none kV1 dc1 pm1 an1 cd1 ct1), sl1⟩)
    (c1 : PySem.W.codeIn K cd1 "_law_pool" = true)
    (k1 : PySem.W.keepIn K (.ref f1) = true)
    {f2 : Addr} {od2 an2 : Option Addr} {sl2 : Array (Option Value)} {oc2 kV2 dc2 pm2 cd2 ct2 : Value}
    (a2 : PySem.W.nsIn K mainGlobals "_law_draw" = some (some (.ref f2)))
    (l2 : K.lookup f2 = some ⟨oc2, od2, .func (PySem.W.fnOf "_law_draw" "_law_draw" (defArgs s__law_draw) (defBody s__law_draw) (defScope s__law_draw) .none kV2 dc2 pm2 an2 cd2 ct2), sl2⟩)
    (c2 : PySem.W.codeIn K cd2 "_law_draw" = true)
    (k2 : PySem.W.keepIn K (.ref f2) = true)
    {f3 : Addr} {od3 an3 : Option Addr} {sl3 : Array (Option Value)} {oc3 kV3 dc3 pm3 cd3 ct3 : Value}
    (a3 : PySem.W.nsIn K mainGlobals "_law_pick" = some (some (.ref f3)))
    (l3 : K.lookup f3 = some ⟨oc3, od3, .func (PySem.W.fnOf "_law_pick" "_law_pick" (defArgs s__law_pick) (defBody s__law_pick) (defScope s__law_pick) .none kV3 dc3 pm3 an3 cd3 ct3), sl3⟩)
    (c3 : PySem.W.codeIn K cd3 "_law_pick" = true)
    (k3 : PySem.W.keepIn K (.ref f3) = true)
    {f4 : Addr} {od4 an4 : Option Addr} {sl4 : Array (Option Value)} {oc4 kV4 dc4 pm4 cd4 ct4 : Value}
    (a4 : PySem.W.nsIn K mainGlobals "_law_up" = some (some (.ref f4)))
    (l4 : K.lookup f4 = some ⟨oc4, od4, .func (PySem.W.fnOf "_law_up" "_law_up" (defArgs s__law_up) (defBody s__law_up) (defScope s__law_up) .none kV4 dc4 pm4 an4 cd4 ct4), sl4⟩)
    (c4 : PySem.W.codeIn K cd4 "_law_up" = true)
    (k4 : PySem.W.keepIn K (.ref f4) = true)
    {f5 : Addr} {od5 an5 : Option Addr} {sl5 : Array (Option Value)} {oc5 kV5 dc5 pm5 cd5 ct5 : Value}
    (a5 : PySem.W.nsIn K mainGlobals "_law_same" = some (some (.ref f5)))
    (l5 : K.lookup f5 = some ⟨oc5, od5, .func (PySem.W.fnOf "_law_same" "_law_same" (defArgs s__law_same) (defBody s__law_same) (defScope s__law_same) .none kV5 dc5 pm5 an5 cd5 ct5), sl5⟩)
    (c5 : PySem.W.codeIn K cd5 "_law_same" = true)
    (k5 : PySem.W.keepIn K (.ref f5) = true)
    {f6 : Addr} {od6 an6 : Option Addr} {sl6 : Array (Option Value)} {oc6 kV6 dc6 pm6 cd6 ct6 : Value}
    (a6 : PySem.W.nsIn K mainGlobals "_law_widths" = some (some (.ref f6)))
    (l6 : K.lookup f6 = some ⟨oc6, od6, .func (PySem.W.fnOf "_law_widths" "_law_widths" (defArgs s__law_widths) (defBody s__law_widths) (defScope s__law_widths) .none kV6 dc6 pm6 an6 cd6 ct6), sl6⟩)
    (c6 : PySem.W.codeIn K cd6 "_law_widths" = true)
    (k6 : PySem.W.keepIn K (.ref f6) = true)
    {f7 : Addr} {od7 an7 : Option Addr} {sl7 : Array (Option Value)} {oc7 kV7 dc7 pm7 cd7 ct7 : Value}
    (a7 : PySem.W.nsIn K mainGlobals "_law_box" = some (some (.ref f7)))
    (l7 : K.lookup f7 = some ⟨oc7, od7, .func (PySem.W.fnOf "_law_box" "_law_box" (defArgs s__law_box) (defBody s__law_box) (defScope s__law_box) .none kV7 dc7 pm7 an7 cd7 ct7), sl7⟩)
    (c7 : PySem.W.codeIn K cd7 "_law_box" = true)
    (k7 : PySem.W.keepIn K (.ref f7) = true)
    {f8 : Addr} {od8 an8 : Option Addr} {sl8 : Array (Option Value)} {oc8 kV8 dc8 pm8 cd8 ct8 : Value}
    (a8 : PySem.W.nsIn K mainGlobals "_law_listed" = some (some (.ref f8)))
    (l8 : K.lookup f8 = some ⟨oc8, od8, .func (PySem.W.fnOf "_law_listed" "_law_listed" (defArgs s__law_listed) (defBody s__law_listed) (defScope s__law_listed) .none kV8 dc8 pm8 an8 cd8 ct8), sl8⟩)
    (c8 : PySem.W.codeIn K cd8 "_law_listed" = true)
    (k8 : PySem.W.keepIn K (.ref f8) = true)
    {f9 : Addr} {od9 an9 : Option Addr} {sl9 : Array (Option Value)} {oc9 kV9 dc9 pm9 cd9 ct9 : Value}
    (a9 : PySem.W.nsIn K mainGlobals "_law_asked" = some (some (.ref f9)))
    (l9 : K.lookup f9 = some ⟨oc9, od9, .func (PySem.W.fnOf "_law_asked" "_law_asked" (defArgs s__law_asked) (defBody s__law_asked) (defScope s__law_asked) .none kV9 dc9 pm9 an9 cd9 ct9), sl9⟩)
    (c9 : PySem.W.codeIn K cd9 "_law_asked" = true)
    (k9 : PySem.W.keepIn K (.ref f9) = true)
    {f10 : Addr} {od10 an10 : Option Addr} {sl10 : Array (Option Value)} {oc10 kV10 dc10 pm10 cd10 ct10 : Value}
    (a10 : PySem.W.nsIn K mainGlobals "law" = some (some (.ref f10)))
    (l10 : K.lookup f10 = some ⟨oc10, od10, .func (PySem.W.fnOf "law" "law" (defArgs s_law) (defBody s_law) (defScope s_law) .none kV10 dc10 pm10 an10 cd10 ct10), sl10⟩)
    (c10 : PySem.W.codeIn K cd10 "law" = true)
    (k10 : PySem.W.keepIn K (.ref f10) = true)
    (xhn : PySem.W.specialIn K (.builtin "object.__class__") "__get__" = some (some (.builtin "getset_descriptor.__get__")))
    (xht : PySem.W.takesIn K (.builtin "object.__class__") = some true)
    {EGridError : Addr}
    (xaGridError : PySem.W.nsIn K mainGlobals "GridError" = some (some (.ref EGridError)))
    (xbGridError : PySem.W.subIn K (.ref EGridError) (.type "BaseException") = some true)
    (xdGridError : PySem.W.hasDictIn K EGridError = true)
    (xtGridError : PySem.W.typeIn K (.ref EGridError) = some (.type "type"))
    (xsGridError : PySem.W.subIn K (.ref EGridError) (.ref EGridError) = some true)
    (xgGridError : PySem.W.findIn K (.ref EGridError) "__getattribute__" = some (some (.builtin "BaseException.__getattribute__")))
    (xhGridError : PySem.W.findIn K (.ref EGridError) "__getattr__" = some none)
    (xcGridError : PySem.W.findIn K (.ref EGridError) "__class__" = some (some (.builtin "object.__class__")))
    (xmGridError : PySem.W.mroIn K EGridError (.type "object") = some true)
    (xvGridError : PySem.W.subIn K (.ref EGridError) (.type "ValueError") = some true)
    {ETooWide : Addr}
    (xaTooWide : PySem.W.nsIn K mainGlobals "TooWide" = some (some (.ref ETooWide)))
    (xbTooWide : PySem.W.subIn K (.ref ETooWide) (.type "BaseException") = some true)
    (xdTooWide : PySem.W.hasDictIn K ETooWide = true)
    (xtTooWide : PySem.W.typeIn K (.ref ETooWide) = some (.type "type"))
    (xsTooWide : PySem.W.subIn K (.ref ETooWide) (.ref ETooWide) = some true)
    (xgTooWide : PySem.W.findIn K (.ref ETooWide) "__getattribute__" = some (some (.builtin "BaseException.__getattribute__")))
    (xhTooWide : PySem.W.findIn K (.ref ETooWide) "__getattr__" = some none)
    (xcTooWide : PySem.W.findIn K (.ref ETooWide) "__class__" = some (some (.builtin "object.__class__")))
    (xmTooWide : PySem.W.mroIn K ETooWide (.type "object") = some true)
    (xvTooWide : PySem.W.subIn K (.ref ETooWide) (.type "ValueError") = some true)
    {ETooMany : Addr}
    (xaTooMany : PySem.W.nsIn K mainGlobals "TooMany" = some (some (.ref ETooMany)))
    (xbTooMany : PySem.W.subIn K (.ref ETooMany) (.type "BaseException") = some true)
    (xdTooMany : PySem.W.hasDictIn K ETooMany = true)
    (xtTooMany : PySem.W.typeIn K (.ref ETooMany) = some (.type "type"))
    (xsTooMany : PySem.W.subIn K (.ref ETooMany) (.ref ETooMany) = some true)
    (xgTooMany : PySem.W.findIn K (.ref ETooMany) "__getattribute__" = some (some (.builtin "BaseException.__getattribute__")))
    (xhTooMany : PySem.W.findIn K (.ref ETooMany) "__getattr__" = some none)
    (xcTooMany : PySem.W.findIn K (.ref ETooMany) "__class__" = some (some (.builtin "object.__class__")))
    (xmTooMany : PySem.W.mroIn K ETooMany (.type "object") = some true)
    (xvTooMany : PySem.W.subIn K (.ref ETooMany) (.type "ValueError") = some true)
    (xsubTooWideGridError : PySem.W.subIn K (.ref ETooWide) (.ref EGridError) = some true)
    (xsubTooWideTooMany : PySem.W.subIn K (.ref ETooWide) (.ref ETooMany) = some false)
    (xsubTooWideTooWide : PySem.W.subIn K (.ref ETooWide) (.ref ETooWide) = some true)
    (xkTooWide : PySem.W.keepIn K (.ref ETooWide) = true)
    (xext : PySem.W.nsIn K cStatics "thirdparty.any" = some none)
    (xsuper : PySem.W.nsIn K mainGlobals "super" = some none)
    {fYTooWide ccYTooWide cdaYTooWide : Addr} {odYTooWide anYTooWide cddYTooWide cldYTooWide : Option Addr} {slYTooWide ccsYTooWide cslYTooWide : Array (Option Value)} {ocYTooWide kVYTooWide dcYTooWide pmYTooWide ctYTooWide cclYTooWide clYTooWide : Value} {cvsYTooWide : Array Value} {fileYTooWide : Str} {tfYTooWide : Tok}
    {nmYTooWide qYTooWide : Str} {NYTooWide : Addr} {bsYTooWide bmYTooWide : List Value} {snYTooWide : List Str} {subYTooWide : List Value} {abYTooWide : Bool} {colYTooWide : Option Bool} {ddYTooWide : Option Addr} {m0YTooWide m1YTooWide m2YTooWide m3YTooWide m5YTooWide : Option Value}
    (xLTooWide : K.lookup ETooWide = some (excClassObj nmYTooWide qYTooWide ETooWide NYTooWide bsYTooWide bmYTooWide true snYTooWide subYTooWide abYTooWide colYTooWide ddYTooWide m0YTooWide m1YTooWide m2YTooWide m3YTooWide m5YTooWide "ValueError.__new__"))
    (xbmTooWide : PySem.HandSPX.refsVE bmYTooWide = true)
    (xsaTooWide : PySem.W.findIn K (.ref ETooWide) "__setattr__" = some (some (.builtin "object.__setattr__")))
    (xiTooWide : PySem.W.findIn K (.ref ETooWide) "__init__" = some (some (.ref fYTooWide)))
    (xtiTooWide : PySem.W.typeIn K (.ref fYTooWide) = some (.type "function"))
    (xlTooWide : K.lookup fYTooWide = some ⟨ocYTooWide, odYTooWide, .func (PySem.W.fnX "__init__" "TooWide.__init__" (defArgs s_TooWide_init) (defBody s_TooWide_init) (defScope s_TooWide_init) [("__class__", ccYTooWide)] .none kVYTooWide dcYTooWide pmYTooWide anYTooWide (.ref cdaYTooWide) ctYTooWide), slYTooWide⟩)
    (xcdTooWide : PySem.W.codeIn K (.ref cdaYTooWide) "TooWide.__init__" = true)
    (xlcTooWide : K.lookup cdaYTooWide = some ⟨cclYTooWide, cddYTooWide, .fields cvsYTooWide, ccsYTooWide⟩)
    (xv2TooWide : cvsYTooWide[2]? = some (.str fileYTooWide tfYTooWide))
    (xfileTooWide : ((P.main.file : Str) == fileYTooWide) = true)
    (xcellTooWide : K.lookup ccYTooWide = some ⟨clYTooWide, cldYTooWide, .cell (some (.ref ETooWide)), cslYTooWide⟩)
    (xmsTooWide : PySem.W.mroIn K ETooWide (.ref ETooWide) = some true)
    (xsupTooWide : PySem.W.ks_superIn K ETooWide ETooWide "__init__" = some (some (.builtin "ValueError.__init__")))
    (xnfTooWide_count : PySem.W.findIn K (.ref ETooWide) "count" = some none)
    (xtop : (P.main.scope.names.lookup ("super" : Str)).isSome = false)
    (z_ValueError : PySem.W.nsIn K mainGlobals "ValueError" = some none)
    (z_abs : PySem.W.nsIn K mainGlobals "abs" = some none)
    (z_bool : PySem.W.nsIn K mainGlobals "bool" = some none)
    (z_int : PySem.W.nsIn K mainGlobals "int" = some none)
    (z_isinstance : PySem.W.nsIn K mainGlobals "isinstance" = some none)
    (z_len : PySem.W.nsIn K mainGlobals "len" = some none)
    (z_min : PySem.W.nsIn K mainGlobals "min" = some none)
    (z_range : PySem.W.nsIn K mainGlobals "range" = some none)
    (z_str : PySem.W.nsIn K mainGlobals "str" = some none)
    (z_tuple : PySem.W.nsIn K mainGlobals "tuple" = some none)
    (z_zip : PySem.W.nsIn K mainGlobals "zip" = some none)
    : ∃ fd : FuncData, (∀ (s : Shared) (v : Value), BindsTo s fd ⟨[v], []⟩ [("script", v)]) ∧ ∀ base : Heap, K.In base → base.Ns mainGlobals mg → FnOk l.prog w K mg base (L2.CX l.prog w) 15 fa fd ["script"] (spV (kx K mg cs) 1 d_law) := by
  subst hP
  have e := hfa.symm.trans (PySem.W.mg_of X G a10)
  cases e
  have F0 := fun_mk (st := s_weather_box) l0 c0 k0
  have F1 := fun_mk (st := s__law_pool) l1 c1 k1
  have F2 := fun_mk (st := s__law_draw) l2 c2 k2
  have F3 := fun_mk (st := s__law_pick) l3 c3 k3
  have F4 := fun_mk (st := s__law_up) l4 c4 k4
  have F5 := fun_mk (st := s__law_same) l5 c5 k5
  have F6 := fun_mk (st := s__law_widths) l6 c6 k6
  have F7 := fun_mk (st := s__law_box) l7 c7 k7
  have F8 := fun_mk (st := s__law_listed) l8 c8 k8
  have F9 := fun_mk (st := s__law_asked) l9 c9 k9
  have F10 := fun_mk (st := s_law) l10 c10 k10
  exact ⟨_, fun s v => .of_eq rfl, fun base _ _ => ok_law (P := l.prog) (w := w) (base := base) ⟨⟨_, _, F0, F0.binds (ps := ["low", "high", "ceilings"]) (fun _ _ _ _ _ _ us hl => match us, hl with | [_, _, _], _ => rfl), PySem.W.mg_of X G a0⟩, ⟨_, _, F1, F1.binds (ps := ["script", "place"]) (fun _ _ _ _ _ _ us hl => match us, hl with | [_, _], _ => rfl), PySem.W.mg_of X G a1⟩, ⟨_, _, F2, F2.binds (ps := ["pool", "many"]) (fun _ _ _ _ _ _ us hl => match us, hl with | [_, _], _ => rfl), PySem.W.mg_of X G a2⟩, ⟨_, _, F3, F3.binds (ps := ["pool", "row"]) (fun _ _ _ _ _ _ us hl => match us, hl with | [_, _], _ => rfl), PySem.W.mg_of X G a3⟩, ⟨_, _, F4, F4.binds (ps := ["pool", "few", "many"]) (fun _ _ _ _ _ _ us hl => match us, hl with | [_, _, _], _ => rfl), PySem.W.mg_of X G a4⟩, ⟨_, _, F5, F5.binds (ps := ["got", "due"]) (fun _ _ _ _ _ _ us hl => match us, hl with | [_, _], _ => rfl), PySem.W.mg_of X G a5⟩, ⟨_, _, F6, F6.binds (ps := ["pool", "count"]) (fun _ _ _ _ _ _ us hl => match us, hl with | [_, _], _ => rfl), PySem.W.mg_of X G a6⟩, ⟨_, _, F7, F7.binds (ps := ["pool"]) (fun _ _ _ _ _ _ us hl => match us, hl with | [_], _ => rfl), PySem.W.mg_of X G a7⟩, ⟨_, _, F8, F8.binds (ps := ["low", "high", "tops", "many"]) (fun _ _ _ _ _ _ us hl => match us, hl with | [_, _, _, _], _ => rfl), PySem.W.mg_of X G a8⟩, ⟨_, _, F9, F9.binds (ps := ["box"]) (fun _ _ _ _ _ _ us hl => match us, hl with | [_], _ => rfl), PySem.W.mg_of X G a9⟩, ⟨_, _, F10, F10.binds (ps := ["script"]) (fun _ _ _ _ _ _ us hl => match us, hl with | [_], _ => rfl), PySem.W.mg_of X G a10⟩, ⟨EGridError, PySem.W.mg_of X G xaGridError, xbGridError, xdGridError, xtGridError, xsGridError, xgGridError, xhGridError, xcGridError, xmGridError, xvGridError, xhn, xht⟩, ⟨ETooWide, PySem.W.mg_of X G xaTooWide, xbTooWide, xdTooWide, xtTooWide, xsTooWide, xgTooWide, xhTooWide, xcTooWide, xmTooWide, xvTooWide, xhn, xht⟩, ⟨ETooMany, PySem.W.mg_of X G xaTooMany, xbTooMany, xdTooMany, xtTooMany, xsTooMany, xgTooMany, xhTooMany, xcTooMany, xmTooMany, xvTooMany, xhn, xht⟩, xsubTooWideGridError, xsubTooWideTooMany, xsubTooWideTooWide, eri_of (st := s_TooWide_init) (PySem.W.mg_of X G xaTooWide) xLTooWide xbmTooWide xsaTooWide xbTooWide xtTooWide xkTooWide xvTooWide xnfTooWide_count xiTooWide xtiTooWide xlTooWide xcdTooWide xlcTooWide xv2TooWide xfileTooWide xcellTooWide xmsTooWide xsupTooWide xext xtop (PySem.W.mg_none_of X G xsuper) nsc_TooWide ⟨_, rfl, rfl⟩ rfl rfl (by decide) (by decide) (fun L => ⟨_, rfl⟩) (fun L => rfl) (fun L => rfl) (fun L => rfl) (fun s us _ hl => match us, hl with | [_, _], _ => .of_eq rfl), xnfTooWide_count, PySem.W.mg_none_of X G z_ValueError, PySem.W.mg_none_of X G z_abs, PySem.W.mg_none_of X G z_bool, PySem.W.mg_none_of X G z_int, PySem.W.mg_none_of X G z_isinstance, PySem.W.mg_none_of X G z_len, PySem.W.mg_none_of X G z_min, PySem.W.mg_none_of X G z_range, PySem.W.mg_none_of X G z_str, PySem.W.mg_none_of X G z_tuple, PySem.W.mg_none_of X G z_zip⟩⟩
end Pk06
open PySem PySem.W PyProof.Rows
set_option maxRecDepth 100000 in
set_option maxHeartbeats 0 in
theorem PySem.Challenge.cw_gridstead_k06_weather_box_holds : PySem.Challenge.rw_gridstead_k06_weather_box.Holds := by
  w_on; o_law; k_head; (case hw => w_witness2)
  k_fill
  refine Dn.walk_of (l := PySem.Challenge.rw_gridstead_k06_weather_box) (k := 15) (g := Pk06.d_law) (cs := Pk06.cs) rfl rfl ⟨rfl, by decide, by decide⟩ (fun w h Y => PySem.W.kIn_of Y) ?F Pk06.law_true
  case F =>
    intro w mg fa h KX G hmg
    refine' Pk06.all_mk rfl KX G hmg ?a0 ?l0 ?c0 ?k0 ?a1 ?l1 ?c1 ?k1 ?a2 ?l2 ?c2 ?k2 ?a3 ?l3 ?c3 ?k3 ?a4 ?l4 ?c4 ?k4 ?a5 ?l5 ?c5 ?k5 ?a6 ?l6 ?c6 ?k6 ?a7 ?l7 ?c7 ?k7 ?a8 ?l8 ?c8 ?k8 ?a9 ?l9 ?c9 ?k9 ?a10 ?l10 ?c10 ?k10 ?xhn ?xht ?xaGridError ?xbGridError ?xdGridError ?xtGridError ?xsGridError ?xgGridError ?xhGridError ?xcGridError ?xmGridError ?xvGridError ?xaTooWide ?xbTooWide ?xdTooWide ?xtTooWide ?xsTooWide ?xgTooWide ?xhTooWide ?xcTooWide ?xmTooWide ?xvTooWide ?xaTooMany ?xbTooMany ?xdTooMany ?xtTooMany ?xsTooMany ?xgTooMany ?xhTooMany ?xcTooMany ?xmTooMany ?xvTooMany ?xsubTooWideGridError ?xsubTooWideTooMany ?xsubTooWideTooWide ?xkTooWide ?xext ?xsuper ?xLTooWide ?xbmTooWide ?xsaTooWide ?xiTooWide ?xtiTooWide ?xlTooWide ?xcdTooWide ?xlcTooWide ?xv2TooWide ?xfileTooWide ?xcellTooWide ?xmsTooWide ?xsupTooWide ?xnfTooWide_count ?xtop ?z_ValueError ?z_abs ?z_bool ?z_int ?z_isinstance ?z_len ?z_min ?z_range ?z_str ?z_tuple ?z_zip
    (case a0 => k_is)
    (case l0 => k_is)
    (case c0 => k_is)
    (case k0 => k_is)
    (case a1 => k_is)
    (case l1 => k_is)
    (case c1 => k_is)
    (case k1 => k_is)
    (case a2 => k_is)
    (case l2 => k_is)
    (case c2 => k_is)
    (case k2 => k_is)
    (case a3 => k_is)
    (case l3 => k_is)
    (case c3 => k_is)
    (case k3 => k_is)
    (case a4 => k_is)
    (case l4 => k_is)
    (case c4 => k_is)
    (case k4 => k_is)
    (case a5 => k_is)
    (case l5 => k_is)
    (case c5 => k_is)
    (case k5 => k_is)
    (case a6 => k_is)
    (case l6 => k_is)
    (case c6 => k_is)
    (case k6 => k_is)
    (case a7 => k_is)
    (case l7 => k_is)
    (case c7 => k_is)
    (case k7 => k_is)
    (case a8 => k_is)
    (case l8 => k_is)
    (case c8 => k_is)
    (case k8 => k_is)
    (case a9 => k_is)
    (case l9 => k_is)
    (case c9 => k_is)
    (case k9 => k_is)
    (case a10 => k_is)
    (case l10 => k_is)
    (case c10 => k_is)
    (case k10 => k_is)
    (case xhn => k_is)
    (case xht => k_is)
    (case xaGridError => k_is)
    (case xbGridError => k_is)
    (case xdGridError => k_is)
    (case xtGridError => k_is)
    (case xsGridError => k_is)
    (case xgGridError => k_is)
    (case xhGridError => k_is)
    (case xcGridError => k_is)
    (case xmGridError => k_is)
    (case xvGridError => k_is)
    (case xaTooWide => k_is)
    (case xbTooWide => k_is)
    (case xdTooWide => k_is)
    (case xtTooWide => k_is)
    (case xsTooWide => k_is)
    (case xgTooWide => k_is)
    (case xhTooWide => k_is)
    (case xcTooWide => k_is)
    (case xmTooWide => k_is)
    (case xvTooWide => k_is)
    (case xaTooMany => k_is)
    (case xbTooMany => k_is)
    (case xdTooMany => k_is)
    (case xtTooMany => k_is)
    (case xsTooMany => k_is)
    (case xgTooMany => k_is)
    (case xhTooMany => k_is)
    (case xcTooMany => k_is)
    (case xmTooMany => k_is)
    (case xvTooMany => k_is)
    (case xsubTooWideGridError => k_is)
    (case xsubTooWideTooMany => k_is)
    (case xsubTooWideTooWide => k_is)
    (case xkTooWide => k_is)
    (case xext => k_is)
    (case xsuper => k_is)
    (case xLTooWide => k_is)
    (case xbmTooWide => rfl)
    (case xsaTooWide => k_is)
    (case xiTooWide => k_is)
    (case xtiTooWide => k_is)
    (case xlTooWide => k_is)
    (case xcdTooWide => k_is)
    (case xlcTooWide => k_is)
    (case xv2TooWide => rfl)
    (case xfileTooWide => rfl)
    (case xcellTooWide => k_is)
    (case xmsTooWide => k_is)
    (case xsupTooWide => ks_is)
    (case xnfTooWide_count => k_is)
    (case xtop => rfl)
    (case z_ValueError => k_is)
    (case z_abs => k_is)
    (case z_bool => k_is)
    (case z_int => k_is)
    (case z_isinstance => k_is)
    (case z_len => k_is)
    (case z_min => k_is)
    (case z_range => k_is)
    (case z_str => k_is)
    (case z_tuple => k_is)
    (case z_zip => k_is)
