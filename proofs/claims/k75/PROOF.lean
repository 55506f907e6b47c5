import PyProof.Rows.All
import Wide.All
import OpenK.AllK
import Wide.FinOn
import HandS.ForMost
import HandS.ForExc
import HandS.Flow
import HandS.Deep
import HandS.IsInst
import HandS.Wide
import HandS.WideMore
import HandS.TupAny
import HandS.TupMul
import HandS.Property
import HandS.StrMore
import HandS.ExcSuper
import HandS.ExcOwn
import HandS.RaiseMore
import HandS.Codes
import HandS.Zip
import HandS.SortInts
import HandS.DeepEq
import HandS.ExcField
import HandS.ExcIs
import HandS.Sort
import KE.KExcLine
import KE.KIsAll
import HandS.TryOnly
import HandS.TryMany
import HandS.Comp
import HandS.TupLe
import PyProof.InstNe
import HandS.SlotsOwn
import HandS.Iter
import KE.GoesMore
import HandS.Text
import HandS.Replace
import HandS.Style
import PySem.Challenge.RW_rueless_k75_wants_walked_and_written
set_option Elab.async false
set_option linter.all false
section
open PySem PySem.W PyProof.Rows
set_option maxRecDepth 100000 in
set_option maxHeartbeats 0 in
open_top head75 for PySem.Challenge.rw_rueless_k75_wants_walked_and_written
end
set_option maxRecDepth 100000
/-! The plain part: trees as values, what a def does as a function of trees. -/
namespace Dm
open PySem

/-- a value as a tree -/
inductive D where
  | non | bl (b : Bool) | int (i : Int) | str (s : List Nat)
  | lst (xs : List D) | tup (xs : List D) | ro (xs : List D)
  | obj (c : Nat) (fs : List (Nat × D))
  | ref (n : Nat)
  deriving Inhabited

/-- what a shared cell holds -/
inductive Cell where
  | lst (xs : List D)
  | obj (c : Nat) (fs : List (Nat × D))
abbrev Sto := List Cell

/-- an error of an own class -/
structure Exc where
  c : Nat
  fs : List (Nat × D)

inductive Out (α : Type) where
  | ok (a : α) (S : Sto)
  | er (x : Exc) (S : Sto)
  | no
abbrev M (α : Type) : Type := Sto → Out α

def pur {α : Type} (a : α) : M α := fun S => .ok a S
def thr {α : Type} (x : Exc) : M α := fun S => .er x S
def stk {α : Type} : M α := fun _ => .no
def bnd {α β : Type} (m : M α) (k : α → M β) : M β := fun S => match m S with
  | .ok a S' => k a S'
  | .er x S' => .er x S'
  | .no => .no
/-- the heap of cells is asked -/
def gts : M Sto := fun S => .ok S S
@[simp] theorem bnd_pur {α β : Type} (a : α) (k : α → M β) : bnd (pur a) k = k a := rfl
@[simp] theorem bnd_thr {α β : Type} (x : Exc) (k : α → M β) : bnd (thr x) k = thr x := rfl
@[simp] theorem bnd_stk {α β : Type} (k : α → M β) : bnd stk k = stk := rfl
theorem bnd_assoc {α β γ : Type} (m : M α) (k : α → M β) (l : β → M γ) : bnd (bnd m k) l = bnd m (fun a => bnd (k a) l) := by
  funext S; simp only [bnd]; cases m S <;> rfl
theorem pur_ap {α : Type} (a : α) (S : Sto) : pur a S = .ok a S := rfl
/-- if b then m else stuck -/
def need {α : Type} (b : Bool) (m : M α) : M α := if b = true then m else stk
@[simp] theorem need_true {α : Type} (m : M α) : need true m = m := rfl
@[simp] theorem need_false {α : Type} (m : M α) : need false m = stk := rfl

def LIM : Nat := 16777216

/-! ### fields -/
def lk (k : Nat) : List (Nat × D) → Option D
  | [] => none
  | (j, d) :: r => if j = k then some d else lk k r
def putD (k : Nat) (d : D) : List (Nat × D) → List (Nat × D)
  | [] => [(k, d)]
  | (j, e) :: r => if j = k then (j, d) :: r else (j, e) :: putD k d r

/-! ### views -/
/-- a list that may only be looked at; any other -/
def lstM (S : Sto) : D → Option (List D)
  | .lst xs => some xs
  | .ref n => match S[n]? with
    | some (.lst xs) => some xs
    | _ => none
  | _ => none
def lstOf (S : Sto) : D → Option (List D)
  | .lst xs => some xs
  | .ro xs => some xs
  | .ref n => match S[n]? with
    | some (.lst xs) => some xs
    | _ => none
  | _ => none
def fldsOf (S : Sto) : D → Option (Nat × List (Nat × D))
  | .obj c fs => some (c, fs)
  | .ref n => match S[n]? with
    | some (.obj c fs) => some (c, fs)
    | _ => none
  | _ => none

/-! ### slots, expressions -/
inductive Sl where
  | un
  | sh (d : D)
  | ow (xs : List D)
  | ex (x : Exc)
abbrev Ev := List Sl
abbrev EX := Ev → M D
abbrev CX := Ev → M Bool
abbrev AX := Ev → M (List D)
abbrev LX := Ev → M (List D)

def eVar (i : Nat) : EX := fun r => match r[i]? with
  | some (.sh d) => pur d
  | _ => stk
/-- a name that is only looked at -/
def eVarB (i : Nat) : EX := fun r => match r[i]? with
  | some (.sh d) => pur d
  | some (.ow xs) => pur (.lst xs)
  | _ => stk
def eC (d : D) : EX := fun _ => pur d
def eUn (g : D → M D) (a : EX) : EX := fun r => bnd (a r) g
def eBin (g : D → D → M D) (a b : EX) : EX := fun r => bnd (a r) fun x => bnd (b r) fun y => g x y
def aNil : AX := fun _ => pur []
def aCons (e : EX) (t : AX) : AX := fun r => bnd (e r) fun x => bnd (t r) fun xs => pur (x :: xs)
def eArgs (f : List D → M D) (t : AX) : EX := fun r => bnd (t r) f
def eTup (t : AX) : EX := fun r => bnd (t r) fun xs => need (decide (xs.length ≤ LIM)) (pur (.tup xs))
def lLst (t : AX) : LX := fun r => bnd (t r) fun xs => need (decide (xs.length ≤ LIM)) (pur xs)
/-- a list that was just made, kept for good -/
def eFz (l : LX) : EX := fun r => bnd (l r) fun xs => pur (.lst xs)
/-- a list that was just made, as a new shared cell -/
def eCell (l : LX) : EX := fun r => bnd (l r) fun xs S => .ok (.ref S.length) (S ++ [.lst xs])

/-- truth -/
def dTru (d : D) : M Bool := fun S => match d with
  | .non => .ok false S
  | .bl b => .ok b S
  | .int i => .ok (i != 0) S
  | .str s => if s.length ≤ LIM then .ok (s.length != 0) S else .no
  | .tup xs => .ok (!xs.isEmpty) S
  | .lst xs => .ok (!xs.isEmpty) S
  | .ro xs => .ok (!xs.isEmpty) S
  | .ref n => match S[n]? with
    | some (.lst xs) => .ok (!xs.isEmpty) S
    | _ => .no
  | .obj _ _ => .no
def cTru (e : EX) : CX := fun r => bnd (e r) dTru
def cNot (c : CX) : CX := fun r => bnd (c r) fun b => pur (!b)
def cAnd (c d : CX) : CX := fun r => bnd (c r) fun b => if b = true then d r else pur false
def cOr (c d : CX) : CX := fun r => bnd (c r) fun b => if b = true then pur true else d r
def eAnd (a b : EX) : EX := fun r => bnd (a r) fun x => bnd (dTru x) fun t => if t = true then b r else pur x
def eOr (a b : EX) : EX := fun r => bnd (a r) fun x => bnd (dTru x) fun t => if t = true then pur x else b r
def eNot (a : EX) : EX := fun r => bnd (a r) fun x => bnd (dTru x) fun t => pur (.bl (!t))
def eIf (c : CX) (a b : EX) : EX := fun r => bnd (c r) fun t => if t = true then a r else b r

/-! ### targets, statements -/
abbrev TX := D → Ev → Option Ev
def tNm (i : Nat) : TX := fun d r => some (r.set i (.sh d))
def tTs : List TX → List D → Ev → Option Ev
  | [], [], r => some r
  | t :: ts, d :: ds, r => match t d r with
    | some r1 => tTs ts ds r1
    | none => none
  | _, _, _ => none
def tTp (ts : List TX) : TX := fun d r => match d with
  | .tup ds => tTs ts ds r
  | _ => none

inductive SO where
  | nx (r : Ev) (S : Sto)
  | rt (d : D) (S : Sto)
  | bk (r : Ev) (S : Sto)
  | ct (r : Ev) (S : Sto)
  | er (x : Exc) (r : Ev) (S : Sto)
  | no
abbrev SX := Ev → Sto → SO

/-- an expression's end as a statement's -/
def onS {α : Type} (o : Out α) (r : Ev) (k : α → Sto → SO) : SO := match o with
  | .ok a S => k a S
  | .er x S => .er x r S
  | .no => .no
def sSeq (a b : SX) : SX := fun r S => match a r S with
  | .nx r' S' => b r' S'
  | o => o
def sPass : SX := fun r S => .nx r S
def sBrk : SX := fun r S => .bk r S
def sCnt : SX := fun r S => .ct r S
def sRet (e : EX) : SX := fun r S => onS (e r S) r fun d S' => .rt d S'
def sRetN : SX := fun _ S => .rt .non S
def sIf (c : CX) (a b : SX) : SX := fun r S => onS (c r S) r fun t S' => if t = true then a r S' else b r S'
def sExp (e : EX) : SX := fun r S => onS (e r S) r fun _ S' => .nx r S'
/-- a target is given a value -/
def sAsg (e : EX) (t : TX) : SX := fun r S => onS (e r S) r fun d S' => match t d r with
  | some r' => .nx r' S'
  | none => .no
/-- a name is given a list that was just made and is its own -/
def sOwn (i : Nat) (l : LX) : SX := fun r S => onS (l r S) r fun xs S' => .nx (r.set i (.ow xs)) S'
/-- x.append(e), x its own -/
def sApp (i : Nat) (e : EX) : SX := fun r S => match r[i]? with
  | some (.ow xs) => onS (e r S) r fun d S' => if xs.length < LIM then .nx (r.set i (.ow (xs ++ [d]))) S' else .no
  | _ => .no
/-- from here on a name's own list is not changed any more -/
def frz (i : Nat) (r : Ev) : Ev := match r[i]? with
  | some (.ow xs) => r.set i (.sh (.lst xs))
  | _ => r
def sFrz (i : Nat) (s : SX) : SX := fun r S => s (frz i r) S

/-- what is walked: its items; that it stays as it is -/
structure Src where
  ds : List D
  ok : Sto → Prop
abbrev IX := Ev → M Src
open Classical in
/-- a walk over items -/
noncomputable def forL (ok : Sto → Prop) (t : TX) (b : SX) : List D → SX
  | [], r, S => if ok S then .nx r S else .no
  | d :: ds, r, S => if ok S then match t d r with
    | none => .no
    | some r1 => match b r1 S with
      | .nx r2 S2 => forL ok t b ds r2 S2
      | .ct r2 S2 => forL ok t b ds r2 S2
      | .bk r2 S2 => .nx r2 S2
      | o => o
    else .no
noncomputable def sFor (src : IX) (t : TX) (b : SX) : SX := fun r S => onS (src r S) r fun s S' => forL s.ok t b s.ds r S'

def whF : Nat → CX → SX → SX
  | 0, _, _, _, _ => .no
  | n + 1, c, b, r, S => onS (c r S) r fun t S1 => if t = true then
      match b r S1 with
      | .nx r2 S2 => whF n c b r2 S2
      | .ct r2 S2 => whF n c b r2 S2
      | .bk r2 S2 => .nx r2 S2
      | o => o
    else .nx r S1
open Classical in
noncomputable def sWh (c : CX) (b : SX) : SX := fun r S => if h : ∃ n, whF n c b r S ≠ .no then whF h.choose c b r S else .no

/-! ### comprehensions -/
def wipeD (r : Ev) : List Nat → Ev
  | [] => r
  | i :: is => (wipeD r is).set i .un
open Classical in
noncomputable def lcF (ok : Sto → Prop) (t : TX) (c : CX) (e : EX) (r : Ev) : List D → M (List D)
  | [] => fun S => if ok S then .ok [] S else .no
  | d :: ds => fun S => if ok S then (match t d r with
    | none => stk
    | some r1 => bnd (c r1) fun k => if k = true then bnd (e r1) fun y => bnd (lcF ok t c e r ds) fun ys => pur (y :: ys) else lcF ok t c e r ds) S else .no
/-- an error in a comprehension is not spoken of -/
def noE {α : Type} (m : M α) : M α := fun S => match m S with
  | .ok a S' => .ok a S'
  | _ => .no
@[simp] theorem noE_pur {α : Type} (a : α) : noE (pur a) = pur a := rfl
@[simp] theorem noE_stk {α : Type} : noE (stk : M α) = stk := rfl
noncomputable def lLc (own : List Nat) (src : IX) (t : TX) (c : CX) (e : EX) : LX := fun r => bnd (src r) fun s => bnd (noE (lcF s.ok t c e (wipeD r own) s.ds)) fun ys => need (decide (ys.length ≤ LIM)) (pur ys)
open Classical in
/-- two clauses -/
noncomputable def lcF2 (ok : Sto → Prop) (t : TX) (c : CX) (own1 : List Nat) (src1 : IX) (t1 : TX) (c1 : CX) (e : EX) (r : Ev) : List D → M (List D)
  | [] => fun S => if ok S then .ok [] S else .no
  | d :: ds => fun S => if ok S then (match t d r with
    | none => stk
    | some r1 => bnd (c r1) fun k => if k = true then bnd (src1 r1) fun s => bnd (lcF s.ok t1 c1 e (wipeD r1 own1) s.ds) fun ys => bnd (lcF2 ok t c own1 src1 t1 c1 e r ds) fun zs => pur (ys ++ zs) else lcF2 ok t c own1 src1 t1 c1 e r ds) S else .no
noncomputable def lLc2 (own : List Nat) (src : IX) (t : TX) (c : CX) (own1 : List Nat) (src1 : IX) (t1 : TX) (c1 : CX) (e : EX) : LX := fun r => bnd (src r) fun s => bnd (noE (lcF2 s.ok t c own1 src1 t1 c1 e (wipeD r own) s.ds)) fun ys => need (decide (ys.length ≤ LIM)) (pur ys)
def cYes : CX := fun _ => pur true

/-! ### what is walked -/
/-- the items of a list, a tuple, a text; a cell must stay -/
def dIter (d : D) : M Src := fun S => match d with
  | .tup xs => .ok ⟨xs, fun _ => True⟩ S
  | .lst xs => .ok ⟨xs, fun _ => True⟩ S
  | .ro xs => .ok ⟨xs, fun _ => True⟩ S
  | .str s => .ok ⟨s.map fun c => .str [c], fun _ => True⟩ S
  | .ref n => match S[n]? with
    | some (.lst xs) => .ok ⟨xs, fun S' => S'[n]? = some (.lst xs)⟩ S
    | _ => .no
  | _ => .no
def iIter (e : EX) : IX := fun r => bnd (e r) dIter
end Dm
set_option maxRecDepth 100000
/-! Trees in the heap: what stands for what, what a step keeps, what is asked of expressions and statements. -/
namespace Dm
set_option autoImplicit false
open PySem L2

/-- the error that an except suite holds: where it lies, its class, its dict -/
structure CE where
  a : Addr
  cls : Value
  d : Option Addr
/-- the text's own part, its classes by number, the names of fields -/
structure Tb where
  K : PySem.W.Frag
  C : Nat → Addr
  names : List Str
  ex : Option CE := none
/-- what is kept for good; the shared cells -/
structure Wd where
  F : Hp
  L : List Addr
abbrev sv (s : List Nat) : V := .str ⟨s.toArray⟩

mutual
inductive Rep (T : Tb) (w : Wd) : V → D → Prop where
  | non : Rep T w .non .non
  | bl (b : Bool) : Rep T w (.bl b) (.bl b)
  | int (i : Int) : Rep T w (.int i) (.int i)
  | str (s : List Nat) : Rep T w (sv s) (.str s)
  | lst {a : Addr} {vs : List V} {ds : List D} : w.F a = some (.lst vs) → Reps T w vs ds → Rep T w (.ref a) (.lst ds)
  | ro {a : Addr} {vs : List V} {ds : List D} : SqL T.K w.F a vs → Reps T w vs ds → Rep T w (.ref a) (.ro ds)
  | tup {a : Addr} {vs : List V} {ds : List D} : SqT T.K w.F a vs → Reps T w vs ds → Rep T w (.ref a) (.tup ds)
  | obj {a : Addr} {c : Nat} {dx : Addr} {ws : List (Str × V)} {fs : List (Nat × D)} : w.F a = some (.ins (T.C c) dx ws) → RepF T w ws fs → Rep T w (.ref a) (.obj c fs)
  | ref {a : Addr} {n : Nat} : w.L[n]? = some a → Rep T w (.ref a) (.ref n)
inductive Reps (T : Tb) (w : Wd) : List V → List D → Prop where
  | nil : Reps T w [] []
  | cons {v : V} {d : D} {vs : List V} {ds : List D} : Rep T w v d → Reps T w vs ds → Reps T w (v :: vs) (d :: ds)
inductive RepF (T : Tb) (w : Wd) : List (Str × V) → List (Nat × D) → Prop where
  | nil : RepF T w [] []
  | cons {f : Str} {k : Nat} {v : V} {d : D} {ws : List (Str × V)} {fs : List (Nat × D)} : T.names[k]? = some f → Rep T w v d → RepF T w ws fs → RepF T w ((f, v) :: ws) ((k, d) :: fs)
end

/-- more is kept, more cells -/
structure Wd.Le (w w' : Wd) : Prop where
  F : ∀ a o, w.F a = some o → w'.F a = some o
  L : ∃ l, w'.L = w.L ++ l
theorem Wd.Le.refl (w : Wd) : w.Le w := ⟨fun _ _ h => h, [], by simp⟩
theorem Wd.Le.trans {w w1 w2 : Wd} (a : w.Le w1) (b : w1.Le w2) : w.Le w2 := by
  obtain ⟨l, e⟩ := a.L
  obtain ⟨m, f⟩ := b.L
  exact ⟨fun c o h => b.F c o (a.F c o h), l ++ m, by rw [f, e, List.append_assoc]⟩
theorem Wd.Le.at_ {w w' : Wd} (h : w.Le w') {n : Nat} {a : Addr} (e : w.L[n]? = some a) : w'.L[n]? = some a := by
  obtain ⟨l, q⟩ := h.L
  rw [q, List.getElem?_append_left (List.getElem?_eq_some_iff.mp e).1]
  exact e
theorem sqL_mono {K : PySem.W.Frag} {H H' : Hp} {a : Addr} {xs : List V} (e : ∀ b o, H b = some o → H' b = some o) (h : SqL K H a xs) : SqL K H' a xs := Same.seq e h
theorem sqT_mono {K : PySem.W.Frag} {H H' : Hp} {a : Addr} {xs : List V} (e : ∀ b o, H b = some o → H' b = some o) (h : SqT K H a xs) : SqT K H' a xs := by
  rcases h with q | q
  · rcases q with q | ⟨o, q⟩
    · exact .inl (.inl (e _ _ q))
    · exact .inl (.inr ⟨o, e _ _ q⟩)
  · exact .inr q

section
variable {T : Tb} {w w' : Wd}
mutual
theorem Rep.mono (h : w.Le w') : ∀ (d : D) (v : V), Rep T w v d → Rep T w' v d
  | .non, _, r => by cases r; exact .non
  | .bl b, _, r => by cases r; exact .bl b
  | .int i, _, r => by cases r; exact .int i
  | .str s, _, r => by cases r; exact .str s
  | .lst ds, _, r => by
    cases r with
    | lst a b => exact .lst (h.F _ _ a) (Reps.mono h ds _ b)
  | .ro ds, _, r => by
    cases r with
    | ro a b => exact .ro (sqL_mono h.F a) (Reps.mono h ds _ b)
  | .tup ds, _, r => by
    cases r with
    | tup a b => exact .tup (sqT_mono h.F a) (Reps.mono h ds _ b)
  | .obj c fs, _, r => by
    cases r with
    | obj a b => exact .obj (h.F _ _ a) (RepF.mono h fs _ b)
  | .ref n, _, r => by
    cases r with
    | ref a => exact .ref (h.at_ a)
theorem Reps.mono (h : w.Le w') : ∀ (ds : List D) (vs : List V), Reps T w vs ds → Reps T w' vs ds
  | [], _, r => by cases r; exact .nil
  | d :: ds, _, r => by
    cases r with
    | cons a b => exact .cons (Rep.mono h d _ a) (Reps.mono h ds _ b)
theorem RepF.mono (h : w.Le w') : ∀ (fs : List (Nat × D)) (ws : List (Str × V)), RepF T w ws fs → RepF T w' ws fs
  | [], _, r => by cases r; exact .nil
  | (k, d) :: fs, _, r => by
    cases r with
    | cons e a b => exact .cons e (Rep.mono h d _ a) (RepF.mono h fs _ b)
end
theorem Rep.up (h : w.Le w') {d : D} {v : V} (r : Rep T w v d) : Rep T w' v d := Rep.mono h d v r
theorem Reps.up (h : w.Le w') {ds : List D} {vs : List V} (r : Reps T w vs ds) : Reps T w' vs ds := Reps.mono h ds vs r
theorem RepF.up (h : w.Le w') {fs : List (Nat × D)} {ws : List (Str × V)} (r : RepF T w ws fs) : RepF T w' ws fs := RepF.mono h fs ws r
theorem Reps.length : ∀ {vs : List V} {ds : List D}, Reps T w vs ds → vs.length = ds.length
  | [], [], _ => rfl
  | [], _ :: _, r => by cases r
  | _ :: _, [], r => by cases r
  | _ :: vs, _ :: ds, r => by
    cases r with
    | cons a b => simp [Reps.length b]
theorem Reps.append : ∀ {vs ws : List V} {ds es : List D}, Reps T w vs ds → Reps T w ws es → Reps T w (vs ++ ws) (ds ++ es)
  | [], _, [], _, _, s => s
  | [], _, _ :: _, _, r, _ => by cases r
  | _ :: _, _, [], _, r, _ => by cases r
  | _ :: vs, _, _ :: ds, _, r, s => by
    cases r with
    | cons a b => exact .cons a (Reps.append b s)
theorem Reps.get : ∀ {vs : List V} {ds : List D} {i : Nat} {d : D}, Reps T w vs ds → ds[i]? = some d → ∃ v, vs[i]? = some v ∧ Rep T w v d
  | [], [], _, _, _, h => by simp at h
  | [], _ :: _, _, _, r, _ => by cases r
  | _ :: _, [], _, _, r, _ => by cases r
  | v :: _, _ :: _, 0, _, r, h => by
    cases r with
    | cons a b => simp at h; subst h; exact ⟨v, rfl, a⟩
  | _ :: vs, _ :: ds, i + 1, d, r, h => by
    cases r with
    | cons a b => simpa using Reps.get b (by simpa using h)
theorem Reps.getV {vs : List V} {ds : List D} {i : Nat} {v : V} (r : Reps T w vs ds) (h : vs[i]? = some v) : ∃ d, ds[i]? = some d ∧ Rep T w v d := by
  have hl := r.length
  obtain ⟨hi, _⟩ := List.getElem?_eq_some_iff.mp h
  have e : ds[i]? = some ds[i] := List.getElem?_eq_getElem (by omega)
  obtain ⟨u, hu, ru⟩ := r.get e
  rw [h] at hu; cases hu
  exact ⟨_, e, ru⟩
theorem Reps.take : ∀ {vs : List V} {ds : List D} (n : Nat), Reps T w vs ds → Reps T w (vs.take n) (ds.take n)
  | _, _, 0, _ => by simp; exact .nil
  | [], [], _ + 1, _ => by simp; exact .nil
  | [], _ :: _, _ + 1, r => by cases r
  | _ :: _, [], _ + 1, r => by cases r
  | _ :: _, _ :: _, n + 1, r => by
    cases r with
    | cons a b => exact .cons a (Reps.take n b)
theorem Reps.drop : ∀ {vs : List V} {ds : List D} (n : Nat), Reps T w vs ds → Reps T w (vs.drop n) (ds.drop n)
  | _, _, 0, r => r
  | [], [], _ + 1, _ => .nil
  | [], _ :: _, _ + 1, r => by cases r
  | _ :: _, [], _ + 1, r => by cases r
  | _ :: _, _ :: _, n + 1, r => by
    cases r with
    | cons a b => exact Reps.drop n b
theorem Reps.one {v : V} {d : D} (r : Rep T w v d) : Reps T w [v] [d] := .cons r .nil
theorem Reps.rep {v : V} {d : D} (r : Rep T w v d) : ∀ n : Nat, Reps T w (List.replicate n v) (List.replicate n d)
  | 0 => .nil
  | n + 1 => .cons r (Reps.rep r n)
theorem Reps.setAt : ∀ {vs : List V} {ds : List D} (i : Nat) {v : V} {d : D}, Reps T w vs ds → Rep T w v d → Reps T w (vs.set i v) (ds.set i d)
  | [], [], _, _, _, _, _ => .nil
  | [], _ :: _, _, _, _, r, _ => by cases r
  | _ :: _, [], _, _, _, r, _ => by cases r
  | _ :: _, _ :: _, 0, _, _, r, q => by
    cases r with
    | cons a b => exact .cons q b
  | _ :: _, _ :: _, i + 1, _, _, r, q => by
    cases r with
    | cons a b => exact .cons a (Reps.setAt i b q)
end

/-- what a cell's address holds -/
def CellAt (T : Tb) (w : Wd) (H : Hp) (a : Addr) : Cell → Prop
  | .lst xs => ∃ vs, H a = some (.lst vs) ∧ Reps T w vs xs
  | .obj c fs => ∃ dx ws, H a = some (.ins (T.C c) dx ws) ∧ RepF T w ws fs
structure WOk (T : Tb) (w : Wd) (H : Hp) (S : Sto) : Prop where
  fz : ∀ a o, w.F a = some o → H a = some o
  nd : w.L.Nodup
  nf : ∀ a, a ∈ w.L → w.F a = none
  len : S.length = w.L.length
  cell : ∀ (n : Nat) (c : Cell) (a : Addr), S[n]? = some c → w.L[n]? = some a → CellAt T w H a c
/-- a step: nothing that stood is changed but cells -/
structure Stp (w w' : Wd) (H H' : Hp) : Prop where
  le : w.Le w'
  new : ∀ a, w.F a = none → w'.F a ≠ none → H a = none
  keep : ∀ a o, H a = some o → a ∉ w.L → H' a = some o
  live : ∀ a, H' a = none → H a = none
  lnew : ∀ a, a ∈ w'.L → a ∉ w.L → H a = none
theorem Stp.refl (w : Wd) (H : Hp) : Stp w w H H := ⟨Wd.Le.refl w, fun a h h' => absurd h h', fun _ _ h _ => h, fun _ h => h, fun _ h h' => absurd h h'⟩
theorem Wd.Le.mem {w w' : Wd} (h : w.Le w') {a : Addr} (m : a ∈ w.L) : a ∈ w'.L := by
  obtain ⟨l, e⟩ := h.L
  rw [e]; exact List.mem_append_left _ m
theorem Stp.trans {w w1 w2 : Wd} {H H1 H2 : Hp} (s : Stp w w1 H H1) (t : Stp w1 w2 H1 H2) : Stp w w2 H H2 := by
  refine ⟨s.le.trans t.le, fun a h h' => ?_, fun a o h n => ?_, fun a h => s.live a (t.live a h), fun a h n => ?_⟩
  · by_cases q : w1.F a = none
    · exact s.live a (t.new a q h')
    · exact s.new a h q
  · refine t.keep a o (s.keep a o h n) fun m => ?_
    rw [s.lnew a m n] at h; cases h
  · by_cases q : a ∈ w1.L
    · exact s.lnew a q n
    · exact s.live a (t.lnew a h q)

/-- an error that flies -/
def ExcAt (T : Tb) (w : Wd) (H : Hp) (cls : Value) (dx : Option Addr) (x : Exc) : Prop :=
  cls = .ref (T.C x.c) ∧ ∃ d ws, dx = some d ∧ H d = some (.xd ws) ∧ RepF T w ws x.fs

/-- a list of a name's own -/
structure OwnAt (T : Tb) (H0 : Hp) (w : Wd) (H : Hp) (a : Addr) (xs : List D) : Prop where
  vs : ∃ vs, H a = some (.lst vs) ∧ Reps T w vs xs
  nf : w.F a = none
  nl : a ∉ w.L
  new : H0 a = none
/-- the entry of a def -/
structure Ent where
  w : Wd
  H : Hp
structure Rel (T : Tb) (fr : Ent) (w : Wd) (r : Ev) (S : Sto) (σ : St) (H : Hp) : Prop where
  stp : Stp fr.w w fr.H H
  ok : WOk T w H S
  len : r.length = σ.length
  sh : ∀ (i : Nat) (d : D), r[i]? = some (.sh d) → ∃ v, σ[i]? = some (some v) ∧ Rep T w v d
  ow : ∀ (i : Nat) (xs : List D), r[i]? = some (.ow xs) → ∃ a, σ[i]? = some (some (.ref a)) ∧ OwnAt T fr.H w H a xs
  ex : ∀ (i : Nat) (x : Exc), r[i]? = some (.ex x) → ∃ e, T.ex = some e ∧ σ[i]? = some (some (.ref e.a)) ∧ ExcAt T w H e.cls e.d x
  dj : ∀ (i j : Nat) (xs ys : List D) (a : Addr), i ≠ j → r[i]? = some (.ow xs) → r[j]? = some (.ow ys) → σ[i]? = some (some (.ref a)) → σ[j]? = some (some (.ref a)) → False
section
variable {T : Tb} {fr : Ent} {w w' : Wd} {r : Ev} {S S' : Sto} {σ : St} {H H' : Hp}
theorem OwnAt.step {H0 : Hp} {a : Addr} {xs : List D} (o : OwnAt T H0 w H a xs) (s : Stp w w' H H') : OwnAt T H0 w' H' a xs := by
  obtain ⟨⟨vs, h, q⟩, nf, nl, new⟩ := o
  refine ⟨⟨vs, s.keep _ _ h nl, q.up s.le⟩, ?_, fun m => ?_, new⟩
  · cases e : w'.F a with
    | none => rfl
    | some z =>
      have := s.new a nf (by rw [e]; simp)
      rw [h] at this; cases this
  · have := s.lnew a m nl
    rw [h] at this; cases this
theorem ExcAt.step {cls : Value} {d : Option Addr} {x : Exc} (k : WOk T w H S) (e : ExcAt T w H cls d x) (s : Stp w w' H H') : ExcAt T w' H' cls d x := by
  obtain ⟨h1, c, ws, h2, h3, h4⟩ := e
  refine ⟨h1, c, ws, h2, s.keep _ _ h3 fun m => ?_, h4.up s.le⟩
  obtain ⟨n, hn, e⟩ := List.getElem_of_mem m
  have e1 : w.L[n]? = some c := by rw [List.getElem?_eq_getElem hn, e]
  have hs : n < S.length := by rw [k.len]; exact hn
  have q := k.cell n S[n] c (List.getElem?_eq_getElem hs) e1
  cases z : S[n] with
  | lst xs => rw [z] at q; obtain ⟨vs, h, _⟩ := q; rw [h3] at h; cases h
  | obj i fs => rw [z] at q; obtain ⟨dx, us, h, _⟩ := q; rw [h3] at h; cases h
theorem Rel.step (R : Rel T fr w r S σ H) (s : Stp w w' H H') (k : WOk T w' H' S') : Rel T fr w' r S' σ H' :=
  ⟨R.stp.trans s, k, R.len, fun i d h => let ⟨v, e, q⟩ := R.sh i d h; ⟨v, e, q.up s.le⟩, fun i xs h => let ⟨a, e, q⟩ := R.ow i xs h; ⟨a, e, q.step s⟩, fun i x h => let ⟨e, h1, h2, h3⟩ := R.ex i x h; ⟨e, h1, h2, h3.step R.ok s⟩, R.dj⟩
end

/-! ### what is wanted behind -/
section
variable {α : Type} (T : Tb) (w : Wd) (H : Hp)
def Post (P : Wd → Hp → Sto → α → Prop) (R : Wd → Hp → Sto → Exc → Prop) : Out α → Prop
  | .ok a S => ∀ w' H', Stp w w' H H' → WOk T w' H' S → P w' H' S a
  | .er x S => ∀ w' H', Stp w w' H H' → WOk T w' H' S → R w' H' S x
  | .no => False
end
section
variable {α β : Type} {T : Tb} {w w1 : Wd} {H H1 : Hp} {P P' : Wd → Hp → Sto → α → Prop} {R R' : Wd → Hp → Sto → Exc → Prop}
theorem Post.later {o : Out α} (p : Post T w H P R o) (s : Stp w w1 H H1) : Post T w1 H1 P R o := by
  cases o with
  | ok a S => exact fun w' H' t k => p w' H' (s.trans t) k
  | er x S => exact fun w' H' t k => p w' H' (s.trans t) k
  | no => exact p
theorem Post.imp {o : Out α} (p : Post T w H P R o) (h : ∀ w' H' S a, P w' H' S a → P' w' H' S a) (h' : ∀ w' H' S x, R w' H' S x → R' w' H' S x) : Post T w H P' R' o := by
  cases o with
  | ok a S => exact fun w' H' t k => h _ _ _ _ (p w' H' t k)
  | er x S => exact fun w' H' t k => h' _ _ _ _ (p w' H' t k)
  | no => exact p
/-- the end of a chain, from the first link's -/
theorem Post.bnd {m : M α} {k : α → M β} {S : Sto} {P : Wd → Hp → Sto → β → Prop} (p : Post T w H P R (bnd m k S)) :
    Post T w H (fun w' H' S' a => Post T w' H' P R (k a S')) R (m S) := by
  unfold Dm.bnd at p
  cases e : m S with
  | ok a S' => rw [e] at p; exact fun w' H' s _ => p.later s
  | er x S' => rw [e] at p; exact p
  | no => rw [e] at p; exact p
theorem Post.noE {m : M α} {S : Sto} (p : Post T w H P R (noE m S)) : Post T w H P (fun _ _ _ _ => False) (m S) := by
  unfold Dm.noE at p
  cases e : m S with
  | ok a S' => rw [e] at p; exact p
  | er x S' => rw [e] at p; exact p.elim
  | no => rw [e] at p; exact p
theorem Post.pur {a : α} {S : Sto} (p : Post T w H P R (Dm.pur a S)) (k : WOk T w H S) : P w H S a := p w H (Stp.refl w H) k
theorem Post.need {b : Bool} {m : M α} {S : Sto} (p : Post T w H P R (need b m S)) : b = true ∧ Post T w H P R (m S) := by
  cases b with
  | true => exact ⟨rfl, p⟩
  | false => exact p.elim
end

/-- a value that is only looked at: for good, or a list of a name's own -/
def RT (T : Tb) (w : Wd) (H : Hp) (v : V) (d : D) : Prop := Rep T w v d ∨ ∃ a vs xs, d = .lst xs ∧ v = .ref a ∧ H a = some (.lst vs) ∧ a ∉ w.L ∧ Reps T w vs xs
theorem RT.step {T : Tb} {w w' : Wd} {H H' : Hp} {v : V} {d : D} (r : RT T w H v d) (s : Stp w w' H H') : RT T w' H' v d := by
  rcases r with r | ⟨a, vs, xs, rfl, rfl, h, n, q⟩
  · exact .inl (r.up s.le)
  · refine .inr ⟨a, vs, xs, rfl, rfl, s.keep _ _ h n, fun m => ?_, q.up s.le⟩
    have := s.lnew a m n
    rw [h] at this; cases this
/-- a list that was just made -/
structure Made (T : Tb) (H0 : Hp) (w : Wd) (H : Hp) (a : Addr) (xs : List D) : Prop where
  vs : ∃ vs, H a = some (.lst vs) ∧ Reps T w vs xs
  nf : w.F a = none
  nl : a ∉ w.L
  new : H0 a = none

section
variable (T : Tb) (W : WX)
abbrev eW (σ : St) : Wd → Hp → Sto → Exc → Prop := fun w' H' _ x => ∀ cls dx, ExcAt T w' H' cls dx x → W cls dx σ H'
def tE (f : EX) : TE := fun σ H Q => ∃ fr w r S, Rel T fr w r S σ H ∧ Post T w H (fun w' H' _ d => ∀ v, Rep T w' v d → Q v H') (eW T W σ) (f r S)
def tB (f : EX) : TE := fun σ H Q => ∃ fr w r S, Rel T fr w r S σ H ∧ Post T w H (fun w' H' _ d => ∀ v, RT T w' H' v d → Q v H') (eW T W σ) (f r S)
def tL (f : LX) : TE := fun σ H Q => ∃ fr w r S, Rel T fr w r S σ H ∧ Post T w H (fun w' H' _ xs => ∀ a, Made T H w' H' a xs → Q (.ref a) H') (eW T W σ) (f r S)
def tQ (f : CX) : TT := fun σ H Q => ∃ fr w r S, Rel T fr w r S σ H ∧ Post T w H (fun _ H' _ b => Q b H') (eW T W σ) (f r S)
def tA (f : AX) : TA := fun σ H Q => ∃ fr w r S, Rel T fr w r S σ H ∧ Post T w H (fun w' H' _ ds => ∀ vs, Reps T w' vs ds → Q vs H') (eW T W σ) (f r S)
def PostS (fr : Ent) (w : Wd) (D : Ends) : SO → Prop
  | .nx r S => ∀ w' σ' H', w.Le w' → Rel T fr w' r S σ' H' → D.nx σ' H'
  | .rt d S => ∀ w' H' v, Stp fr.w w' fr.H H' → WOk T w' H' S → Rep T w' v d → D.rt v H'
  | .bk r S => ∀ w' σ' H', w.Le w' → Rel T fr w' r S σ' H' → D.bk σ' H'
  | .ct r S => ∀ w' σ' H', w.Le w' → Rel T fr w' r S σ' H' → D.ct σ' H'
  | .er x r S => ∀ w' σ' H' cls dx, w.Le w' → Rel T fr w' r S σ' H' → ExcAt T w' H' cls dx x → W cls dx σ' H'
  | .no => False
def tS (g : SX) : TS := fun D σ H => ∃ fr w r S, Rel T fr w r S σ H ∧ PostS T W fr w D (g r S)
end
/-- a def's promise -/
def spD (T : Tb) (n : Nat) (f : List D → M D) : Sp := fun vs H Q E => ∃ w S ds, WOk T w H S ∧ Reps T w vs ds ∧ ds.length = n ∧
  Post T w H (fun w' H' _ d => ∀ v, Rep T w' v d → Q v H') (fun w' H' _ x => ∀ cls dx, ExcAt T w' H' cls dx x → E cls dx H') (f ds S)

theorem imE {X : Cx} {e : Expr} {t t' : TE} (h : PE X e t) (i : ∀ σ H Q, t' σ H Q → t σ H Q) : PE X e t' := ⟨fun pins s σ H Q I q => h.run pins s σ H Q I (i σ H Q q)⟩
theorem imT {X : Cx} {e : Expr} {t t' : TT} (h : PT X e t) (i : ∀ σ H Q, t' σ H Q → t σ H Q) : PT X e t' := ⟨fun pins s σ H Q I q => h.run pins s σ H Q I (i σ H Q q)⟩
theorem imA {X : Cx} {e : List Expr} {t t' : TA} (h : PA X e t) (i : ∀ σ H Q, t' σ H Q → t σ H Q) : PA X e t' := ⟨fun pos pins s σ H Q I q => h.run pos pins s σ H Q I (i σ H Q q)⟩
theorem imS {X : Cx} {e : Stmt} {t t' : TS} (h : PS X e t) (i : ∀ D σ H, t' D σ H → t D σ H) : PS X e t' := ⟨fun pins s σ H D I q => h.run pins s σ H D I (i D σ H q)⟩
theorem imSs {X : Cx} {e : List Stmt} {t t' : TS} (h : PSs X e t) (i : ∀ D σ H, t' D σ H → t D σ H) : PSs X e t' := ⟨fun pins s σ H D I q => h.run pins s σ H D I (i D σ H q)⟩
end Dm
set_option maxRecDepth 100000
/-! Expressions, one rule a construct. -/
namespace Dm
set_option autoImplicit false
open PySem L2

theorem limE : sizeLine = LIM := PySem.sizeLine_eq
section
variable {T : Tb} {w w' w0 : Wd} {H H' H0 : Hp} {S S' : Sto}
theorem WOk.mem (k : WOk T w H S) {a : Addr} (h : a ∈ w.L) : ∃ o, H a = some o := by
  obtain ⟨n, hn, e⟩ := List.getElem_of_mem h
  have e1 : w.L[n]? = some a := by rw [List.getElem?_eq_getElem hn, e]
  have hs : n < S.length := by rw [k.len]; exact hn
  have c := k.cell n S[n] a (List.getElem?_eq_getElem hs) e1
  cases q : S[n] with
  | lst xs => rw [q] at c; obtain ⟨vs, h, _⟩ := c; exact ⟨_, h⟩
  | obj i fs => rw [q] at c; obtain ⟨dx, ws, h, _⟩ := c; exact ⟨_, h⟩
theorem CellAt.le (h : w.Le w') {a : Addr} {c : Cell} (e : H' a = H a) (q : CellAt T w H a c) : CellAt T w' H' a c := by
  cases c with
  | lst xs => obtain ⟨vs, x, y⟩ := q; exact ⟨vs, e.trans x, y.up h⟩
  | obj i fs => obtain ⟨dx, ws, x, y⟩ := q; exact ⟨dx, ws, e.trans x, y.up h⟩
/-- a thing at a is kept for good from here on -/
def Wd.put (w : Wd) (a : Addr) (o : HO) : Wd := ⟨upd w.F a o, w.L⟩
theorem put_le {a : Addr} {o : HO} (h : w.F a = none) : w.Le (w.put a o) := ⟨fun b q e => by
  show upd w.F a o b = some q
  by_cases z : b = a
  · rw [z, h] at e; cases e
  · rw [upd_ne z]; exact e, [], by simp [Wd.put]⟩
theorem WOk.nF (k : WOk T w H S) {a : Addr} (h : H a = none) : w.F a = none := by
  cases e : w.F a with
  | none => rfl
  | some o => rw [k.fz a o e] at h; cases h
theorem WOk.nL (k : WOk T w H S) {a : Addr} (h : H a = none) : a ∉ w.L := fun m => by
  obtain ⟨o, e⟩ := k.mem m
  rw [e] at h; cases h
/-- freezing what stands at a, which the start did not know -/
theorem WOk.put (k : WOk T w H S) {a : Addr} {o : HO} (h : H a = some o) (nf : w.F a = none) (nl : a ∉ w.L) : WOk T (w.put a o) H S := by
  refine ⟨fun b q e => ?_, k.nd, fun b m => ?_, k.len, fun n c b e1 e2 => (k.cell n c b e1 e2).le (put_le nf) rfl⟩
  · by_cases z : b = a
    · subst z
      have : upd w.F b o b = some q := e
      rw [upd_same] at this; cases this; exact h
    · have : upd w.F a o b = some q := e
      rw [upd_ne z] at this; exact k.fz b q this
  · show upd w.F a o b = none
    have z : b ≠ a := fun z => nl (by rw [← z]; exact m)
    rw [upd_ne z]; exact k.nf b m
theorem Stp.put (s : Stp w0 w H0 H) {a : Addr} {o : HO} (n0 : H0 a = none) (nf : w.F a = none) : Stp w0 (w.put a o) H0 H := by
  refine ⟨s.le.trans (put_le nf), fun b e1 e2 => ?_, s.keep, s.live, s.lnew⟩
  by_cases z : b = a
  · rw [z]; exact n0
  · have : upd w.F a o b ≠ none := e2
    rw [upd_ne z] at this
    exact s.new b e1 this
/-- a new thing is laid -/
theorem WOk.laid (k : WOk T w H S) {a : Addr} {o : HO} (h : H a = none) : WOk T w (upd H a o) S := by
  refine ⟨fun b q e => ?_, k.nd, k.nf, k.len, fun n c b e1 e2 => (k.cell n c b e1 e2).le (Wd.Le.refl w) ?_⟩
  · rw [upd_ne (fun z => by rw [z] at e; rw [k.nF h] at e; cases e)]; exact k.fz b q e
  · exact upd_ne fun z => k.nL h (by rw [← z]; exact List.mem_of_getElem? e2)
theorem Stp.laid (w : Wd) {H : Hp} {a : Addr} {o : HO} (h : H a = none) : Stp w w H (upd H a o) := by
  refine ⟨Wd.Le.refl w, fun b e1 e2 => absurd e1 e2, fun b q e _ => ?_, fun b e => ?_, fun b m n => absurd m n⟩
  · rw [upd_ne (fun z => by rw [z, h] at e; cases e)]; exact e
  · by_cases z : b = a
    · rw [z]; exact h
    · rw [upd_ne z] at e; exact e
/-- laid and kept for good -/
theorem laidF (k : WOk T w H S) {a : Addr} {o : HO} (h : H a = none) : Stp w (w.put a o) H (upd H a o) ∧ WOk T (w.put a o) (upd H a o) S :=
  ⟨(Stp.laid w h).put h (k.nF h), (k.laid h).put upd_same (k.nF h) (k.nL h)⟩
theorem put_at {a : Addr} {o : HO} : (w.put a o).F a = some o := upd_same
theorem rep_tup {p : Addr} {vs : List V} {ds : List D} (nf : w.F p = none) (r : Reps T w vs ds) : Rep T (w.put p (.tup vs)) (.ref p) (.tup ds) := .tup (SqT.of put_at) (r.up (put_le nf))
theorem rep_lst {p : Addr} {vs : List V} {ds : List D} (nf : w.F p = none) (r : Reps T w vs ds) : Rep T (w.put p (.lst vs)) (.ref p) (.lst ds) := .lst put_at (r.up (put_le nf))
theorem made_laid (k : WOk T w H S) {p : Addr} {vs : List V} {ds : List D} (h : H p = none) (r : Reps T w vs ds) : Made T H w (upd H p (.lst vs)) p ds :=
  ⟨⟨vs, upd_same, r⟩, k.nF h, k.nL h, h⟩

/-- a list that is looked at -/
theorem lst_view (k : WOk T w H S) {v : V} {d : D} {xs : List D} (r : RT T w H v d) (e : lstOf S d = some xs) : ∃ a vs, v = .ref a ∧ SqL T.K H a vs ∧ Reps T w vs xs := by
  rcases r with r | ⟨a, vs, ys, rfl, rfl, h, n, q⟩
  · cases r with
    | lst a b => cases e; exact ⟨_, _, rfl, SqL.of (k.fz _ _ a), b⟩
    | ro a b => cases e; exact ⟨_, _, rfl, sqL_mono k.fz a, b⟩
    | @ref a n h =>
      dsimp only [lstOf] at e
      cases q : S[n]? with
      | none => rw [q] at e; cases e
      | some c =>
        rw [q] at e
        have := k.cell n c a q h
        cases c with
        | lst ys => cases e; obtain ⟨vs, h1, h2⟩ := this; exact ⟨a, vs, rfl, SqL.of h1, h2⟩
        | obj _ _ => cases e
    | _ => cases e
  · cases e; exact ⟨a, vs, rfl, SqL.of h, q⟩
/-- .. that is not read only -/
theorem lstM_view (k : WOk T w H S) {v : V} {d : D} {xs : List D} (r : RT T w H v d) (e : lstM S d = some xs) : ∃ a vs, v = .ref a ∧ H a = some (.lst vs) ∧ Reps T w vs xs := by
  rcases r with r | ⟨a, vs, ys, rfl, rfl, h, n, q⟩
  · cases r with
    | lst a b => cases e; exact ⟨_, _, rfl, k.fz _ _ a, b⟩
    | @ref a n h =>
      dsimp only [lstM] at e
      cases q : S[n]? with
      | none => rw [q] at e; cases e
      | some c =>
        rw [q] at e
        have := k.cell n c a q h
        cases c with
        | lst ys => cases e; obtain ⟨vs, h1, h2⟩ := this; exact ⟨a, vs, rfl, h1, h2⟩
        | obj _ _ => cases e
    | _ => cases e
  · cases e; exact ⟨a, vs, rfl, h, q⟩
theorem tup_view (k : WOk T w H S) {v : V} {xs : List D} (r : RT T w H v (.tup xs)) : ∃ a vs, v = .ref a ∧ SqT T.K H a vs ∧ Reps T w vs xs := by
  rcases r with r | ⟨a, vs, ys, e, _⟩
  · cases r with
    | tup a b => exact ⟨_, _, rfl, sqT_mono k.fz a, b⟩
  · cases e
theorem RT.int {v : V} {i : Int} (r : RT T w H v (.int i)) : v = .int i := by
  rcases r with r | ⟨_, _, _, e, _⟩
  · cases r; rfl
  · cases e
theorem RT.str {v : V} {s : List Nat} (r : RT T w H v (.str s)) : v = sv s := by
  rcases r with r | ⟨_, _, _, e, _⟩
  · cases r; rfl
  · cases e
theorem RT.bl {v : V} {b : Bool} (r : RT T w H v (.bl b)) : v = .bl b := by
  rcases r with r | ⟨_, _, _, e, _⟩
  · cases r; rfl
  · cases e
theorem RT.non {v : V} (r : RT T w H v .non) : v = .non := by
  rcases r with r | ⟨_, _, _, e, _⟩
  · cases r; rfl
  · cases e
end

/-! ### chains -/
section
variable {α β : Type} {T : Tb} {w w1 : Wd} {H H1 : Hp} {P P' : Wd → Hp → Sto → α → Prop} {R R' : Wd → Hp → Sto → Exc → Prop}
theorem Post.on {o : Out α} (p : Post T w H P R o) (h : ∀ w' H' S a, Stp w w' H H' → WOk T w' H' S → P w' H' S a → P' w' H' S a) (h' : ∀ w' H' S x, R w' H' S x → R' w' H' S x) : Post T w H P' R' o := by
  cases o with
  | ok a S => exact fun w' H' t k => h _ _ _ _ t k (p w' H' t k)
  | er x S => exact fun w' H' t k => h' _ _ _ _ (p w' H' t k)
  | no => exact p
theorem Post.map {m : M α} {g : α → β} {S : Sto} {P : Wd → Hp → Sto → β → Prop} (p : Post T w H P R (Dm.bnd m (fun a => Dm.pur (g a)) S)) : Post T w H (fun w' H' S' a => P w' H' S' (g a)) R (m S) := by
  unfold Dm.bnd at p
  cases e : m S with
  | ok a S' => rw [e] at p; exact p
  | er x S' => rw [e] at p; exact p
  | no => rw [e] at p; exact p
theorem Post.ok {a : α} {S : Sto} (p : Post T w H P R (.ok a S)) (k : WOk T w H S) : P w H S a := p w H (Stp.refl w H) k
end

section
variable {X : Cx} {T : Tb} {W : WX} {e a b : Expr} {pos : Pos}

/-! ### names, constants -/
theorem e_var {i : Nat} {x : Str} (hN : X.N[i]? = some x := by rfl) (hv : Vis X.env.scope x := by first | exact Or.inl rfl | exact Or.inr (Or.inl rfl) | exact Or.inr (Or.inr rfl)) (hd : (x == ("__debug__" : Str)) = false := by decide) (hcd : (x == ("__classdict__" : Str)) = false := by decide) :
    PE X (.Name x pos) (tE T W (eVar i)) := imE (pe_var hN hv hd hcd) fun σ H Q ⟨fr, w, r, S, R, p⟩ => by
  unfold eVar at p
  cases q : r[i]? with
  | none => rw [q] at p; exact p.elim
  | some s =>
    rw [q] at p
    cases s with
    | sh d =>
      obtain ⟨v, h1, h2⟩ := R.sh i d q
      exact ⟨v, h1, Post.ok p R.ok v h2⟩
    | un => exact p.elim
    | ow _ => exact p.elim
    | ex _ => exact p.elim
theorem b_var {i : Nat} {x : Str} (hN : X.N[i]? = some x := by rfl) (hv : Vis X.env.scope x := by first | exact Or.inl rfl | exact Or.inr (Or.inl rfl) | exact Or.inr (Or.inr rfl)) (hd : (x == ("__debug__" : Str)) = false := by decide) (hcd : (x == ("__classdict__" : Str)) = false := by decide) :
    PE X (.Name x pos) (tB T W (eVarB i)) := imE (pe_var hN hv hd hcd) fun σ H Q ⟨fr, w, r, S, R, p⟩ => by
  unfold eVarB at p
  cases q : r[i]? with
  | none => rw [q] at p; exact p.elim
  | some s =>
    rw [q] at p
    cases s with
    | sh d =>
      obtain ⟨v, h1, h2⟩ := R.sh i d q
      exact ⟨v, h1, Post.ok p R.ok v (.inl h2)⟩
    | un => exact p.elim
    | ex _ => exact p.elim
    | ow xs =>
      obtain ⟨c, h1, h2⟩ := R.ow i xs q
      obtain ⟨vs, h3, h4⟩ := h2.vs
      exact ⟨_, h1, Post.ok p R.ok _ (.inr ⟨c, vs, xs, rfl, rfl, h3, h2.nl, h4⟩)⟩
theorem e_c {v : V} {d : D} (h : PE X e (tC v)) (r : ∀ w, Rep T w v d) : PE X e (tE T W (eC d)) := imE h fun σ H Q ⟨fr, w, _, S, R, p⟩ => Post.ok p R.ok v (r w)
theorem e_non {j : Nat} : PE X (.Constant .none j pos) (tE T W (eC .non)) := e_c pe_non fun _ => .non
theorem e_bl {k : Bool} {j : Nat} : PE X (.Constant (.bool k) j pos) (tE T W (eC (.bl k))) := e_c pe_bl fun _ => .bl k
theorem e_int {i : Int} {j : Nat} : PE X (.Constant (.int i) j pos) (tE T W (eC (.int i))) := e_c pe_int fun _ => .int i
theorem rep_str {w : Wd} {x : Str} {l : List Nat} (h : x.cps.toList = l) : Rep T w (.str x) (.str l) := by
  have e : x = ⟨l.toArray⟩ := by
    cases x with
    | mk c => subst h; simp
  rw [e]; exact .str l
theorem e_str {x : Str} {j : Nat} {l : List Nat} (h : x.cps.toList = l := by first | rfl | decide +kernel) : PE X (.Constant (.str x) j pos) (tE T W (eC (.str l))) := e_c pe_str fun _ => rep_str h
/-- a constant of the module -/
theorem e_glob {x : Str} {u : Value} {v : V} {d : D} (hg : Gl X x) (hm : X.mg x = some u) (r : RelV v u) (h : ∀ w, Rep T w v d) (hd : (x == ("__debug__" : Str)) = false := by decide) : PE X (.Name x pos) (tE T W (eC d)) := e_c (pe_glob hg hm r hd) h
theorem eb {f : EX} (h : PE X e (tE T W f)) : PE X e (tB T W f) := imE h fun σ H Q ⟨fr, w, r, S, R, p⟩ => ⟨fr, w, r, S, R, p.on (fun _ _ _ d _ _ q v x => q v (.inl x)) fun _ _ _ _ q => q⟩
/-- a list just made, kept for good -/
theorem e_fz {l : LX} (h : PE X e (tL T W l)) : PE X e (tE T W (eFz l)) := imE h fun σ H Q ⟨fr, w, r, S, R, p⟩ => ⟨fr, w, r, S, R, by
  unfold eFz at p
  have p' := Post.map p
  cases q : l r S with
  | no => rw [q] at p'; exact p'
  | er x S' => rw [q] at p'; exact p'
  | ok xs S' =>
    rw [q] at p'
    intro w' H' t k c m
    obtain ⟨vs, h1, h2⟩ := m.vs
    exact p' (w'.put c (.lst vs)) H' (t.put m.new m.nf) (k.put h1 m.nf m.nl) _ (rep_lst m.nf h2)⟩

/-! ### operators -/
abbrev PR (Q : VK) : Wd → Hp → Sto → D → Prop := fun _ _ _ _ => True
def OpS (T : Tb) (r : R2) (g : D → D → M D) : Prop := ∀ (w : Wd) (H : Hp) (S : Sto) (v1 v2 : V) (d1 d2 : D) (Q : VK) (R : Wd → Hp → Sto → Exc → Prop), WOk T w H S → RT T w H v1 d1 → RT T w H v2 d2 →
  Post T w H (fun w' H' _ d => ∀ v, Rep T w' v d → Q v H') R (g d1 d2 S) → r v1 v2 H Q
def OpL (T : Tb) (r : R2) (g : D → D → M (List D)) : Prop := ∀ (w : Wd) (H : Hp) (S : Sto) (v1 v2 : V) (d1 d2 : D) (Q : VK) (R : Wd → Hp → Sto → Exc → Prop), WOk T w H S → RT T w H v1 d1 → RT T w H v2 d2 →
  Post T w H (fun w' H' _ xs => ∀ a, Made T H w' H' a xs → Q (.ref a) H') R (g d1 d2 S) → r v1 v2 H Q
def lBin (g : D → D → M (List D)) (a b : EX) : LX := fun r => bnd (a r) fun x => bnd (b r) fun y => g x y
theorem op_bin {r : R2} {g : D → D → M D} {fa fb : EX} (hs : OpS T r g) (σ : L2.St) (H : Hp) (Q : VK) (h : tE T W (eBin g fa fb) σ H Q) : tOp r (tB T W fa) (tB T W fb) σ H Q := by
  obtain ⟨fr, w, rr, S, R, p⟩ := h
  refine ⟨fr, w, rr, S, R, (Post.bnd p).on (fun w1 H1 S1 d1 t1 k1 p1 v1 r1 => ?_) fun _ _ _ _ q => q⟩
  refine ⟨fr, w1, rr, S1, R.step t1 k1, (Post.bnd p1).on (fun w2 H2 S2 d2 t2 k2 p2 v2 r2 => ?_) fun _ _ _ _ q => q⟩
  exact hs w2 H2 S2 v1 v2 d1 d2 Q (eW T W σ) k2 (r1.step t2) r2 p2
theorem op_binL {r : R2} {g : D → D → M (List D)} {fa fb : EX} (hs : OpL T r g) (σ : L2.St) (H : Hp) (Q : VK) (h : tL T W (lBin g fa fb) σ H Q) : tOp r (tB T W fa) (tB T W fb) σ H Q := by
  obtain ⟨fr, w, rr, S, R, p⟩ := h
  refine ⟨fr, w, rr, S, R, (Post.bnd p).on (fun w1 H1 S1 d1 t1 k1 p1 v1 r1 => ?_) fun _ _ _ _ q => q⟩
  refine ⟨fr, w1, rr, S1, R.step t1 k1, (Post.bnd p1).on (fun w2 H2 S2 d2 t2 k2 p2 v2 r2 => ?_) fun _ _ _ _ q => q⟩
  refine hs w2 H2 S2 v1 v2 d1 d2 Q (eW T W σ) k2 (r1.step t2) r2 (p2.on (fun w3 H3 S3 xs t3 k3 q a m => q a ?_) fun _ _ _ _ q => q)
  exact ⟨m.vs, m.nf, m.nl, t1.live _ (t2.live _ m.new)⟩
theorem e_bin {op : Operator} {r : R2} {g : D → D → M D} {fa fb : EX} (hs : OpS T r g) (ho : OpR X (binaryOp op) r) (ha : PE X a (tB T W fa)) (hb : PE X b (tB T W fb)) : PE X (.BinOp a op b pos) (tE T W (eBin g fa fb)) :=
  imE (pe_op ho ha hb) (op_bin hs)
theorem l_bin {op : Operator} {r : R2} {g : D → D → M (List D)} {fa fb : EX} (hs : OpL T r g) (ho : OpR X (binaryOp op) r) (ha : PE X a (tB T W fa)) (hb : PE X b (tB T W fb)) : PE X (.BinOp a op b pos) (tL T W (lBin g fa fb)) :=
  imE (pe_op ho ha hb) (op_binL hs)
theorem e_cmp {op : CmpOp} {r : R2} {g : D → D → M D} {fa fb : EX} (hs : OpS T r g) (ho : OpR X (compareOp op) r) (hm : behindInMarks op b = false) (ha : PE X a (tB T W fa)) (hb : PE X b (tB T W fb)) : PE X (.Compare a [op] [b] pos) (tE T W (eBin g fa fb)) :=
  imE (pe_cmpR ho ha hb hm) (op_bin hs)
theorem e_ix {r : R2} {g : D → D → M D} {fa fb : EX} (hs : OpS T r g) (ho : IxR X r) (ha : PE X a (tB T W fa)) (hb : PE X b (tB T W fb)) (hp : PlainIx b := by exact fun _ _ => rfl) : PE X (.Subscript a b pos) (tE T W (eBin g fa fb)) :=
  imE (pe_ix ho ha hb hp) (op_bin hs)

/-! ### truth, tests -/
theorem tru_sem {w : Wd} {H : Hp} {S : Sto} {v : V} {d : D} {P : Wd → Hp → Sto → Bool → Prop} {R : Wd → Hp → Sto → Exc → Prop} (k : WOk T w H S) (r : RT T w H v d) (p : Post T w H P R (dTru d S)) : ∃ t, TruV T.K v H t ∧ P w H S t := by
  have isE : ∀ {vs : List V} {xs : List D}, Reps T w vs xs → (!vs.isEmpty) = !xs.isEmpty := fun {vs xs} q => by
    cases vs <;> cases xs <;> first | rfl | cases q
  cases d with
  | non => cases r.non; exact ⟨false, rfl, Post.ok p k⟩
  | bl b => cases r.bl; exact ⟨b, rfl, Post.ok p k⟩
  | int i => cases r.int; exact ⟨i != 0, rfl, Post.ok p k⟩
  | str s =>
    cases r.str
    unfold dTru at p
    dsimp only at p
    split at p
    · rename_i h
      have hl : (⟨s.toArray⟩ : Str).length = s.length := by simp [Str.length]
      refine ⟨_, ⟨by rw [hl, limE]; exact h, rfl⟩, ?_⟩
      have := Post.ok p k
      rw [hl]
      have e : (((s.length : Nat) : Int) != 0) = (s.length != 0) := by
        cases s with
        | nil => rfl
        | cons a l =>
          have h1 : (((a :: l).length : Nat) : Int) ≠ 0 := by simp only [List.length_cons]; omega
          have h2 : (a :: l).length ≠ 0 := by simp
          rw [bne_iff_ne.mpr h1, bne_iff_ne.mpr h2]
      rw [e]; exact this
    · exact p.elim
  | lst xs =>
    obtain ⟨a, vs, rfl, h, q⟩ := lst_view k r (S := S) rfl
    exact ⟨_, .inl ⟨vs, h, rfl⟩, by rw [isE q]; exact Post.ok p k⟩
  | ro xs =>
    obtain ⟨a, vs, rfl, h, q⟩ := lst_view k r (S := S) rfl
    exact ⟨_, .inl ⟨vs, h, rfl⟩, by rw [isE q]; exact Post.ok p k⟩
  | tup xs =>
    obtain ⟨a, vs, rfl, h, q⟩ := tup_view k r
    exact ⟨_, .inr (.inl ⟨vs, h, rfl⟩), by rw [isE q]; exact Post.ok p k⟩
  | obj c fs => exact p.elim
  | ref n =>
    unfold dTru at p
    dsimp only at p
    split at p
    · rename_i xs e
      obtain ⟨a, vs, rfl, h, q⟩ := lst_view k r (S := S) (xs := xs) (by dsimp only [lstOf]; rw [e])
      exact ⟨_, .inl ⟨vs, h, rfl⟩, by rw [isE q]; exact Post.ok p k⟩
    · exact p.elim
theorem c_tru {f : EX} (ha : PE X a (tB T W f)) (hK : X.K = T.K := by rfl) (he : ∀ whole, isTrue a X.env whole = (do let v ← whole; standAt a.pos; holding [v] (truthy v)) := by exact fun _ => rfl) : PT X a (tQ T W (cTru f)) :=
  imT (pt_truth ha he) fun σ H Q ⟨fr, w, r, S, R, p⟩ => ⟨fr, w, r, S, R, (Post.bnd p).on (fun w1 H1 S1 d t k p1 v rv => by rw [hK]; exact tru_sem k rv p1) fun _ _ _ _ q => q⟩
/-- a comparison as a test -/
theorem c_cmp {op : CmpOp} {r : R2} {g : D → D → M D} {fa fb : EX} (hs : OpS T r g) (ho : OpR X (compareOp op) r) (hm : behindInMarks op b = false) (ha : PE X a (tB T W fa)) (hb : PE X b (tB T W fb)) (hbl : ∀ x y S z S', g x y S = .ok z S' → ∃ k, z = .bl k) :
    PT X (.Compare a [op] [b] pos) (tQ T W (cTru (eBin g fa fb))) := by
  refine imT (pt_cmpR ho ha hb hm) fun σ H Q ⟨fr, w, rr, S, R, p⟩ => ?_
  have key : tE T W (eBin g fa fb) σ H (fun x H1 => ∃ k, x = .bl k ∧ Q k H1) := by
    refine ⟨fr, w, rr, S, R, ?_⟩
    unfold cTru at p
    have p' := Post.bnd p
    have hz : ∀ z S', eBin g fa fb rr S = .ok z S' → ∃ k, z = .bl k := fun z S' e => by
      unfold eBin Dm.bnd at e
      cases q1 : fa rr S with
      | no => rw [q1] at e; cases e
      | er _ _ => rw [q1] at e; cases e
      | ok x S1 =>
        rw [q1] at e
        dsimp only at e
        cases q2 : fb rr S1 with
        | no => rw [q2] at e; cases e
        | er _ _ => rw [q2] at e; cases e
        | ok y S2 => rw [q2] at e; exact hbl x y S2 z S' e
    cases q : eBin g fa fb rr S with
    | no => rw [q] at p'; exact p'
    | er x S' => rw [q] at p'; exact p'
    | ok z S' =>
      obtain ⟨k, rfl⟩ := hz z S' q
      rw [q] at p'
      intro w' H' t kk v rv
      cases rv
      exact ⟨k, rfl, Post.ok (p' w' H' t kk) kk⟩
  exact op_bin hs σ H _ key
theorem c_not {f : CX} (h : PT X a (tQ T W f)) : PT X (.UnaryOp .Not a pos) (tQ T W (cNot f)) := imT (pt_not h) fun σ H Q ⟨fr, w, r, S, R, p⟩ => ⟨fr, w, r, S, R, by unfold cNot at p; exact Post.map p⟩
theorem ite_post {α : Type} {w : Wd} {H : Hp} {P : Wd → Hp → Sto → α → Prop} {R : Wd → Hp → Sto → Exc → Prop} {c : Bool} {m n : M α} {S : Sto} : ((if c = true then m else n) S) = if c = true then m S else n S := by cases c <;> rfl
theorem c_and1 {f : CX} (h : PT X a (tQ T W f)) : PW X (.BoolOp .And [a] pos) (tQ T W f) := pw_and1 h
theorem c_or1 {f : CX} (h : PT X a (tQ T W f)) : PW X (.BoolOp .Or [a] pos) (tQ T W f) := pw_or1 h
theorem imW {t t' : TT} (h : PW X e t) (i : ∀ σ H Q, t' σ H Q → t σ H Q) : PW X e t' := ⟨fun wh pins s σ H Q I q => h.run wh pins s σ H Q I (i σ H Q q)⟩
theorem c_and {f g : CX} {rest : List Expr} (h : PT X a (tQ T W f)) (h' : PW X (.BoolOp .And (b :: rest) pos) (tQ T W g)) : PW X (.BoolOp .And (a :: b :: rest) pos) (tQ T W (cAnd f g)) :=
  imW (pw_and h h') fun σ H Q ⟨fr, w, r, S, R, p⟩ => ⟨fr, w, r, S, R, (Post.bnd p).on (fun w1 H1 S1 c t k p1 => by
    cases c with
    | true => exact ⟨fr, w1, r, S1, R.step t k, p1⟩
    | false => exact Post.ok p1 k) fun _ _ _ _ q => q⟩
theorem c_or {f g : CX} {rest : List Expr} (h : PT X a (tQ T W f)) (h' : PW X (.BoolOp .Or (b :: rest) pos) (tQ T W g)) : PW X (.BoolOp .Or (a :: b :: rest) pos) (tQ T W (cOr f g)) :=
  imW (pw_or h h') fun σ H Q ⟨fr, w, r, S, R, p⟩ => ⟨fr, w, r, S, R, (Post.bnd p).on (fun w1 H1 S1 c t k p1 => by
    cases c with
    | true => exact Post.ok p1 k
    | false => exact ⟨fr, w1, r, S1, R.step t k, p1⟩) fun _ _ _ _ q => q⟩
theorem c_w {f : CX} (h : PW X a (tQ T W f)) : PT X a (tQ T W f) := h.pt
/-! values by and, or, not, if -/
theorem e_and1 {f : EX} {op : BoolOp} (h : PE X a (tE T W f)) : PE X (.BoolOp op [a] pos) (tE T W f) := pe_one h
theorem e_and {f g : EX} {rest : List Expr} (h : PE X a (tE T W f)) (h' : PE X (.BoolOp .And (b :: rest) pos) (tE T W g)) (hK : X.K = T.K := by rfl) : PE X (.BoolOp .And (a :: b :: rest) pos) (tE T W (eAnd f g)) :=
  imE (pe_andT h h') fun σ H Q ⟨fr, w, r, S, R, p⟩ => ⟨fr, w, r, S, R, (Post.bnd p).on (fun w1 H1 S1 d t k p1 v rv => by
    obtain ⟨c, h1, p2⟩ := tru_sem k (.inl rv) (Post.bnd p1)
    refine ⟨c, by rw [hK]; exact h1, ?_⟩
    cases c with
    | true => exact ⟨fr, w1, r, S1, R.step t k, p2⟩
    | false => exact Post.ok p2 k v rv) fun _ _ _ _ q => q⟩
theorem e_or {f g : EX} {rest : List Expr} (h : PE X a (tE T W f)) (h' : PE X (.BoolOp .Or (b :: rest) pos) (tE T W g)) (hK : X.K = T.K := by rfl) : PE X (.BoolOp .Or (a :: b :: rest) pos) (tE T W (eOr f g)) :=
  imE (pe_orT h h') fun σ H Q ⟨fr, w, r, S, R, p⟩ => ⟨fr, w, r, S, R, (Post.bnd p).on (fun w1 H1 S1 d t k p1 v rv => by
    obtain ⟨c, h1, p2⟩ := tru_sem k (.inl rv) (Post.bnd p1)
    refine ⟨c, by rw [hK]; exact h1, ?_⟩
    cases c with
    | true => exact Post.ok p2 k v rv
    | false => exact ⟨fr, w1, r, S1, R.step t k, p2⟩) fun _ _ _ _ q => q⟩
theorem e_not {f : EX} (h : PE X a (tB T W f)) (hK : X.K = T.K := by rfl) : PE X (.UnaryOp .Not a pos) (tE T W (eNot f)) :=
  imE (pe_notT h) fun σ H Q ⟨fr, w, r, S, R, p⟩ => ⟨fr, w, r, S, R, (Post.bnd p).on (fun w1 H1 S1 d t k p1 v rv => by
    obtain ⟨c, h1, p2⟩ := tru_sem k rv (Post.bnd p1)
    exact ⟨c, by rw [hK]; exact h1, Post.ok p2 k _ (.bl _)⟩) fun _ _ _ _ q => q⟩
theorem e_if {c : Expr} {fc : CX} {f g : EX} (hc : PT X c (tQ T W fc)) (h : PE X a (tE T W f)) (h' : PE X b (tE T W g)) : PE X (.IfExp c a b pos) (tE T W (eIf fc f g)) :=
  imE (pe_ifExp hc h h') fun σ H Q ⟨fr, w, r, S, R, p⟩ => ⟨fr, w, r, S, R, (Post.bnd p).on (fun w1 H1 S1 c t k p1 => by
    cases c with
    | true => exact ⟨fr, w1, r, S1, R.step t k, p1⟩
    | false => exact ⟨fr, w1, r, S1, R.step t k, p1⟩) fun _ _ _ _ q => q⟩

/-! ### arguments, displays -/
theorem a_nil : PA X [] (tA T W aNil) := imA pa_nil fun σ H Q ⟨fr, w, r, S, R, p⟩ => Post.ok p R.ok [] .nil
theorem a_cons {es : List Expr} {f : EX} {g : AX} (h : PE X e (tE T W f)) (h' : PA X es (tA T W g)) (hs : starEach (e :: es) X.env = (false, eval e X.env) :: starEach es X.env := by rfl) : PA X (e :: es) (tA T W (aCons f g)) :=
  imA (pa_cons h h' hs) fun σ H Q ⟨fr, w, r, S, R, p⟩ => ⟨fr, w, r, S, R, (Post.bnd p).on (fun w1 H1 S1 d t k p1 v rv =>
    ⟨fr, w1, r, S1, R.step t k, (Post.bnd p1).on (fun w2 H2 S2 ds t2 k2 p2 vs rvs => Post.ok p2 k2 _ (.cons (rv.up t2.le) rvs)) fun _ _ _ _ q => q⟩) fun _ _ _ _ q => q⟩
theorem e_tup {es : List Expr} {x1} {g : AX} (h : PA X es (tA T W g)) : PE X (.Tuple es x1 pos) (tE T W (eTup g)) :=
  imE (pe_tup h) fun σ H Q ⟨fr, w, r, S, R, p⟩ => ⟨fr, w, r, S, R, (Post.bnd p).on (fun w1 H1 S1 ds t k p1 vs rv => by
    obtain ⟨hl, p2⟩ := Post.need p1
    refine ⟨by rw [rv.length, limE]; exact of_decide_eq_true hl, fun q hq => ?_⟩
    obtain ⟨s1, k1⟩ := laidF k (o := .tup vs) hq
    exact p2 _ _ s1 k1 _ (rep_tup (k.nF hq) rv)) fun _ _ _ _ q => q⟩
theorem l_lst {es : List Expr} {g : AX} (h : PA X es (tA T W g)) : PE X (.List es pos) (tL T W (lLst g)) :=
  imE (pe_lst h) fun σ H Q ⟨fr, w, r, S, R, p⟩ => ⟨fr, w, r, S, R, (Post.bnd p).on (fun w1 H1 S1 ds t k p1 vs rv => by
    obtain ⟨hl, p2⟩ := Post.need p1
    refine ⟨by rw [rv.length, limE]; exact of_decide_eq_true hl, fun q hq => ?_⟩
    have m := made_laid k hq rv
    exact p2 w1 (upd H1 q (.lst vs)) (Stp.laid w1 hq) (k.laid hq) q ⟨m.vs, m.nf, m.nl, t.live _ hq⟩) fun _ _ _ _ q => q⟩
/-- arguments that are only looked at -/
abbrev RTs (T : Tb) (w : Wd) (H : Hp) : List V → List D → Prop := Paired (RT T w H)
def tAB (T : Tb) (W : WX) (f : AX) : TA := fun σ H Q => ∃ fr w r S, Rel T fr w r S σ H ∧ Post T w H (fun w' H' _ ds => ∀ vs, RTs T w' H' vs ds → Q vs H') (eW T W σ) (f r S)
theorem RTs.step {w w' : Wd} {H H' : Hp} {vs : List V} {ds : List D} (r : RTs T w H vs ds) (s : Stp w w' H H') : RTs T w' H' vs ds := by
  induction r with
  | nil => exact .nil
  | cons a _ ih => exact .cons (a.step s) ih
theorem ab_nil : PA X [] (tAB T W aNil) := imA pa_nil fun σ H Q ⟨fr, w, r, S, R, p⟩ => Post.ok p R.ok [] .nil
theorem ab_cons {es : List Expr} {f : EX} {g : AX} (h : PE X e (tB T W f)) (h' : PA X es (tAB T W g)) (hs : starEach (e :: es) X.env = (false, eval e X.env) :: starEach es X.env := by rfl) : PA X (e :: es) (tAB T W (aCons f g)) :=
  imA (pa_cons h h' hs) fun σ H Q ⟨fr, w, r, S, R, p⟩ => ⟨fr, w, r, S, R, (Post.bnd p).on (fun w1 H1 S1 d t k p1 v rv =>
    ⟨fr, w1, r, S1, R.step t k, (Post.bnd p1).on (fun w2 H2 S2 ds t2 k2 p2 vs rvs => Post.ok p2 k2 _ (.cons (rv.step t2) rvs)) fun _ _ _ _ q => q⟩) fun _ _ _ _ q => q⟩

/-! ### built-in functions, types, methods -/
def CaS (T : Tb) (r : List V → Hp → VK → Prop) (g : List D → M D) : Prop := ∀ (w : Wd) (H : Hp) (S : Sto) (vs : List V) (ds : List D) (Q : VK) (R : Wd → Hp → Sto → Exc → Prop), WOk T w H S → RTs T w H vs ds →
  Post T w H (fun w' H' _ d => ∀ v, Rep T w' v d → Q v H') R (g ds S) → r vs H Q
def CaL (T : Tb) (r : List V → Hp → VK → Prop) (g : List D → M (List D)) : Prop := ∀ (w : Wd) (H : Hp) (S : Sto) (vs : List V) (ds : List D) (Q : VK) (R : Wd → Hp → Sto → Exc → Prop), WOk T w H S → RTs T w H vs ds →
  Post T w H (fun w' H' _ xs => ∀ a, Made T H w' H' a xs → Q (.ref a) H') R (g ds S) → r vs H Q
def lArgs (f : List D → M (List D)) (t : AX) : LX := fun r => bnd (t r) f
theorem ca_args {r : List V → Hp → VK → Prop} {g : List D → M D} {f : AX} (hs : CaS T r g) (σ : L2.St) (H : Hp) (Q : VK) (h : tE T W (eArgs g f) σ H Q) : tCB r (tAB T W f) σ H Q := by
  obtain ⟨fr, w, rr, S, R, p⟩ := h
  exact ⟨fr, w, rr, S, R, (Post.bnd p).on (fun w1 H1 S1 ds t k p1 vs rv => hs w1 H1 S1 vs ds Q (eW T W σ) k rv p1) fun _ _ _ _ q => q⟩
theorem ca_argsL {r : List V → Hp → VK → Prop} {g : List D → M (List D)} {f : AX} (hs : CaL T r g) (σ : L2.St) (H : Hp) (Q : VK) (h : tL T W (lArgs g f) σ H Q) : tCB r (tAB T W f) σ H Q := by
  obtain ⟨fr, w, rr, S, R, p⟩ := h
  exact ⟨fr, w, rr, S, R, (Post.bnd p).on (fun w1 H1 S1 ds t k p1 vs rv => hs w1 H1 S1 vs ds Q (eW T W σ) k rv (p1.on (fun w2 H2 S2 xs t2 k2 q a m => q a ⟨m.vs, m.nf, m.nl, t.live _ m.new⟩) fun _ _ _ _ q => q)) fun _ _ _ _ q => q⟩
variable {x : Str} {p0 : Pos} {es : List Expr} {id Ty : String} {r : List V → Hp → VK → Prop} {f : AX}
theorem e_bi {g : List D → M D} (hs : CaS T r g) (hc : CallR X (.builtin id) r) (hm : X.mg x = none) (hv : bootBuiltins x = some (.builtin id)) (ha : PA X (e :: es) (tAB T W f)) (hg : Gl X x := by rfl) (hn : x ≠ "__name__" := by decide) (hdb : (x == ("__debug__" : Str)) = false := by decide)
    (he : starEach (e :: es) X.env = (false, eval e X.env) :: starEach es X.env := by rfl) (hpl : (backTo pos (starEach es X.env)).any (·.1) = false := by rfl) : PE X (.Call (.Name x p0) (e :: es) [] pos) (tE T W (eArgs g f)) := imE (pe_callB hc hg hm hv ha hn hdb he hpl) (ca_args hs)
theorem l_bi {g : List D → M (List D)} (hs : CaL T r g) (hc : CallR X (.builtin id) r) (hm : X.mg x = none) (hv : bootBuiltins x = some (.builtin id)) (ha : PA X (e :: es) (tAB T W f)) (hg : Gl X x := by rfl) (hn : x ≠ "__name__" := by decide) (hdb : (x == ("__debug__" : Str)) = false := by decide)
    (he : starEach (e :: es) X.env = (false, eval e X.env) :: starEach es X.env := by rfl) (hpl : (backTo pos (starEach es X.env)).any (·.1) = false := by rfl) : PE X (.Call (.Name x p0) (e :: es) [] pos) (tL T W (lArgs g f)) := imE (pe_callB hc hg hm hv ha hn hdb he hpl) (ca_argsL hs)
theorem e_ty {g : List D → M D} (hs : CaS T r g) (hc : CallR X (.type Ty) r) (hm : X.mg x = none) (hv : bootBuiltins x = some (.type Ty)) (ha : PA X (e :: es) (tAB T W f)) (hg : Gl X x := by rfl) (hn : x ≠ "__name__" := by decide) (hdb : (x == ("__debug__" : Str)) = false := by decide)
    (he : starEach (e :: es) X.env = (false, eval e X.env) :: starEach es X.env := by rfl) (hpl : (backTo pos (starEach es X.env)).any (·.1) = false := by rfl) : PE X (.Call (.Name x p0) (e :: es) [] pos) (tE T W (eArgs g f)) := imE (pe_callTy hc hg hm hv ha hn hdb he hpl) (ca_args hs)
theorem l_ty {g : List D → M (List D)} (hs : CaL T r g) (hc : CallR X (.type Ty) r) (hm : X.mg x = none) (hv : bootBuiltins x = some (.type Ty)) (ha : PA X (e :: es) (tAB T W f)) (hg : Gl X x := by rfl) (hn : x ≠ "__name__" := by decide) (hdb : (x == ("__debug__" : Str)) = false := by decide)
    (he : starEach (e :: es) X.env = (false, eval e X.env) :: starEach es X.env := by rfl) (hpl : (backTo pos (starEach es X.env)).any (·.1) = false := by rfl) : PE X (.Call (.Name x p0) (e :: es) [] pos) (tL T W (lArgs g f)) := imE (pe_callTy hc hg hm hv ha hn hdb he hpl) (ca_argsL hs)
/-- a built-in type's method: receiver and arguments -/
def MeS (T : Tb) (Ty : String) (r : V → List V → Hp → VK → Prop) (g : D → List D → M D) (ok : Sto → D → Prop) : Prop := ∀ (w : Wd) (H : Hp) (S : Sto) (v : V) (d : D), WOk T w H S → RT T w H v d → ok S d → tyV T.K Ty v H ∧
  ∀ (w : Wd) (H : Hp) (S : Sto) (vs : List V) (ds : List D) (Q : VK) (R : Wd → Hp → Sto → Exc → Prop), WOk T w H S → RT T w H v d → RTs T w H vs ds →
    Post T w H (fun w' H' _ d => ∀ v, Rep T w' v d → Q v H') R (g d ds S) → r v vs H Q
end
end Dm
set_option maxRecDepth 100000
/-! Statements, targets, loops. -/
namespace Dm
set_option autoImplicit false
open PySem L2

section
variable {T : Tb} {W : WX} {fr : Ent} {D0 : Ends} {w : Wd} {σ : L2.St} {H : Hp} {r : Ev} {S : Sto}
theorem PostS.later {w1 : Wd} {o : SO} (p : PostS T W fr w D0 o) (l : w.Le w1) : PostS T W fr w1 D0 o := by
  cases o with
  | nx r S => exact fun w' σ' H' l' R => p w' σ' H' (l.trans l') R
  | rt d S => exact p
  | bk r S => exact fun w' σ' H' l' R => p w' σ' H' (l.trans l') R
  | ct r S => exact fun w' σ' H' l' R => p w' σ' H' (l.trans l') R
  | er x r S => exact fun w' σ' H' cls dx l' R => p w' σ' H' cls dx (l.trans l') R
  | no => exact p
/-- from an expression's end to a statement's -/
theorem onS_post {α : Type} {o : Out α} {k : α → Sto → SO} {P : Wd → Hp → Sto → α → Prop} (R : Rel T fr w r S σ H) (p : PostS T W fr w D0 (onS o r k))
    (h : ∀ w' H' S' a, Stp w w' H H' → WOk T w' H' S' → PostS T W fr w' D0 (k a S') → P w' H' S' a) : Post T w H P (eW T W σ) o := by
  cases o with
  | ok a S' => exact fun w' H' t kk => h w' H' S' a t kk (PostS.later p t.le)
  | er x S' => exact fun w' H' t kk cls dx ex => p w' σ H' cls dx t.le (R.step t kk) ex
  | no => exact p.elim
theorem PostS.ends {D1 : Ends} {o : SO} (p : PostS T W fr w D0 o) (h1 : ∀ w' σ' H' r S, o = .nx r S → w.Le w' → Rel T fr w' r S σ' H' → D0.nx σ' H' → D1.nx σ' H')
    (h2 : ∀ v H', D0.rt v H' → D1.rt v H') (h3 : ∀ w' σ' H' r S, o = .bk r S → w.Le w' → Rel T fr w' r S σ' H' → D0.bk σ' H' → D1.bk σ' H') (h4 : ∀ w' σ' H' r S, o = .ct r S → w.Le w' → Rel T fr w' r S σ' H' → D0.ct σ' H' → D1.ct σ' H') : PostS T W fr w D1 o := by
  cases o with
  | nx r S => exact fun w' σ' H' l R => h1 w' σ' H' r S rfl l R (p w' σ' H' l R)
  | rt d S => exact fun w' H' v a b c => h2 v H' (p w' H' v a b c)
  | bk r S => exact fun w' σ' H' l R => h3 w' σ' H' r S rfl l R (p w' σ' H' l R)
  | ct r S => exact fun w' σ' H' l R => h4 w' σ' H' r S rfl l R (p w' σ' H' l R)
  | er x r S => exact p
  | no => exact p
end

section
variable {X : Cx} {T : Tb} {W : WX} {e a b : Expr} {pos : Pos}
theorem s_pass : PS X (.Pass pos) (tS T W sPass) := imS ps_pass fun D σ H ⟨fr, w, r, S, R, p⟩ => p w σ H (Wd.Le.refl w) R
theorem s_break : PS X (.Break pos) (tS T W sBrk) := imS ps_break fun D σ H ⟨fr, w, r, S, R, p⟩ => p w σ H (Wd.Le.refl w) R
theorem s_cont : PS X (.Continue pos) (tS T W sCnt) := imS ps_continue fun D σ H ⟨fr, w, r, S, R, p⟩ => p w σ H (Wd.Le.refl w) R
theorem s_ret {f : EX} (h : PE X e (tE T W f)) : PS X (.Return (some e) pos) (tS T W (sRet f)) := imS (ps_ret h) fun D σ H ⟨fr, w, r, S, R, p⟩ =>
  ⟨fr, w, r, S, R, onS_post R p fun w' H' S' d t k q v rv => q w' H' v (R.stp.trans t) k rv⟩
theorem s_retN : PS X (.Return none pos) (tS T W sRetN) := imS ps_retN fun D σ H ⟨fr, w, r, S, R, p⟩ => p w H .non R.stp R.ok .non
theorem ss_nil : PSs X [] (tS T W sPass) := imSs pss_nil fun D σ H ⟨fr, w, r, S, R, p⟩ => p w σ H (Wd.Le.refl w) R
theorem ss_one {st : Stmt} {g : SX} (h : PS X st (tS T W g)) : PSs X [st] (tS T W g) := pss_one h
theorem ss_cons {st : Stmt} {rest : List Stmt} {g g' : SX} (h : PS X st (tS T W g)) (h' : PSs X rest (tS T W g')) : PSs X (st :: rest) (tS T W (sSeq g g')) := imSs (pss_cons h h') fun D σ H ⟨fr, w, r, S, R, p⟩ => by
  refine ⟨fr, w, r, S, R, ?_⟩
  unfold sSeq at p
  cases q : g r S with
  | nx r1 S1 => rw [q] at p; exact fun w1 σ1 H1 l R1 => ⟨fr, w1, r1, S1, R1, p.later l⟩
  | rt d S1 => rw [q] at p; exact p
  | bk _ _ => rw [q] at p; exact p
  | ct _ _ => rw [q] at p; exact p
  | er _ _ _ => rw [q] at p; exact p
  | no => rw [q] at p; exact p
theorem s_if {c : Expr} {f : CX} {g g' : SX} {bt bf : List Stmt} (hc : PT X c (tQ T W f)) (h : PSs X bt (tS T W g)) (h' : PSs X bf (tS T W g')) : PS X (.If c bt bf pos) (tS T W (sIf f g g')) := imS (ps_if hc h h') fun D σ H ⟨fr, w, r, S, R, p⟩ =>
  ⟨fr, w, r, S, R, onS_post R p fun w' H' S' t st k q => by
    cases t with
    | true => exact ⟨fr, w', r, S', R.step st k, q⟩
    | false => exact ⟨fr, w', r, S', R.step st k, q⟩⟩
theorem s_exp {f : EX} (h : PE X e (tE T W f)) (hs : swapsWith e none pos.line X.env = pure false := by rfl) : PS X (.Expr e pos) (tS T W (sExp f)) := imS (ps_expr h hs) fun D σ H ⟨fr, w, r, S, R, p⟩ =>
  ⟨fr, w, r, S, R, onS_post R p fun w' H' S' d t k q v rv => q w' σ H' (Wd.Le.refl w') (R.step t k)⟩

/-! ### targets -/
section
variable {fr : Ent} {w : Wd} {σ : L2.St} {H : Hp} {r : Ev} {S : Sto}
theorem Rel.setSh {i : Nat} {v : V} {d : D} (R : Rel T fr w r S σ H) (rv : Rep T w v d) : Rel T fr w (r.set i (.sh d)) S (σ.set i (some v)) H := by
  refine ⟨R.stp, R.ok, by rw [List.length_set, List.length_set]; exact R.len, fun j d' h => ?_, fun j xs h => ?_, fun j x h => ?_, fun j k xs ys c hjk h1 h2 h3 h4 => ?_⟩
  · by_cases q : i = j
    · subst q
      by_cases z : i < r.length
      · rw [List.getElem?_set_self z] at h
        cases h
        exact ⟨v, List.getElem?_set_self (by rw [← R.len]; exact z), rv⟩
      · rw [List.getElem?_eq_none (by rw [List.length_set]; omega)] at h; cases h
    · rw [List.getElem?_set_ne q] at h
      rw [List.getElem?_set_ne q]
      exact R.sh j d' h
  · by_cases q : i = j
    · subst q
      by_cases z : i < r.length
      · rw [List.getElem?_set_self z] at h; cases h
      · rw [List.getElem?_eq_none (by rw [List.length_set]; omega)] at h; cases h
    · rw [List.getElem?_set_ne q] at h
      rw [List.getElem?_set_ne q]
      exact R.ow j xs h
  · by_cases q : i = j
    · subst q
      by_cases z : i < r.length
      · rw [List.getElem?_set_self z] at h; cases h
      · rw [List.getElem?_eq_none (by rw [List.length_set]; omega)] at h; cases h
    · rw [List.getElem?_set_ne q] at h
      rw [List.getElem?_set_ne q]
      exact R.ex j x h
  · have nj : ∀ {m : Nat} {zs : List D}, (r.set i (.sh d))[m]? = some (.ow zs) → i ≠ m ∧ r[m]? = some (.ow zs) := fun {m zs} h => by
      by_cases q : i = m
      · subst q
        by_cases z : i < r.length
        · rw [List.getElem?_set_self z] at h; cases h
        · rw [List.getElem?_eq_none (by rw [List.length_set]; omega)] at h; cases h
      · rw [List.getElem?_set_ne q] at h; exact ⟨q, h⟩
    obtain ⟨n1, e1⟩ := nj h1
    obtain ⟨n2, e2⟩ := nj h2
    rw [List.getElem?_set_ne n1] at h3
    rw [List.getElem?_set_ne n2] at h4
    exact R.dj j k xs ys c hjk e1 e2 h3 h4
end
/-- what a target leaves: is tells the slots that it sets -/
structure TgK (r r' : Ev) (σ σ' : L2.St) (is : List Nat) : Prop where
  len : σ'.length = σ.length
  at_ : ∀ j, j ∉ is → σ'[j]? = σ[j]?
  ow : ∀ (j : Nat) (xs : List D), r'[j]? = some (.ow xs) → r[j]? = some (.ow xs) ∧ σ'[j]? = σ[j]?
/-- a target's rule -/
def TgS (T : Tb) (g : TG) (t : TX) (is : List Nat) : Prop := ∀ (fr : Ent) (w : Wd) (r : Ev) (S : Sto) (σ : L2.St) (H : Hp) (v : V) (d : D) (r' : Ev) (Q : L2.St → Hp → Prop), Rel T fr w r S σ H → Rep T w v d → t d r = some r' →
  (∀ σ', Rel T fr w r' S σ' H → TgK r r' σ σ' is → Q σ' H) → g v σ H Q
def TgsS (T : Tb) (g : TGs) (t : List D → Ev → Option Ev) (is : List Nat) : Prop := ∀ (fr : Ent) (w : Wd) (r : Ev) (S : Sto) (σ : L2.St) (H : Hp) (vs : List V) (ds : List D) (r' : Ev) (Q : L2.St → Hp → Prop), Rel T fr w r S σ H → Reps T w vs ds → t ds r = some r' →
  (∀ σ', Rel T fr w r' S σ' H → TgK r r' σ σ' is → Q σ' H) → g vs σ H Q
structure Tgt (X : Cx) (T : Tb) (e : Expr) (t : TX) (is : List Nat) : Prop where
  ex : ∃ g, PG X e g ∧ TgS T g t is
structure Tgts (X : Cx) (T : Tb) (es : List Expr) (ts : List TX) (is : List Nat) : Prop where
  ex : ∃ g, PGs X es g ∧ TgsS T g (tTs ts) is
theorem t_nm {i : Nat} {x : Str} (hN : X.N.Nodup) (hi : X.N[i]? = some x := by rfl) (hx : Loc X.env.scope x := by first | exact Or.inl rfl | exact Or.inr rfl) (hf : X.fn x = true ∨ X.env.scope.names.lookup x = some .local := by first | exact .inl rfl | exact .inr rfl) : Tgt X T (.Name x pos) (tNm i) [i] :=
  ⟨_, pg_name hN hi hx hf, fun fr w r S σ H v d r' Q R rv e q => by cases e; exact q _ (R.setSh rv) ⟨List.length_set, fun j hj => List.getElem?_set_ne (fun z => hj (by simp [z])), fun j xs h => by
    by_cases q : i = j
    · subst q
      by_cases z : i < r.length
      · rw [List.getElem?_set_self z] at h; cases h
      · rw [List.getElem?_eq_none (by rw [List.length_set]; omega)] at h; cases h
    · rw [List.getElem?_set_ne q] at h
      exact ⟨h, List.getElem?_set_ne q⟩⟩⟩
theorem ts_nil : Tgts X T [] [] [] := ⟨_, pgs_nil, fun fr w r S σ H vs ds r' Q R rv e q => by
  cases rv with
  | nil => cases e; exact ⟨rfl, q σ R ⟨rfl, fun _ _ => rfl, fun _ _ h => ⟨h, rfl⟩⟩⟩
  | cons _ _ => cases e⟩
theorem ts_cons {es : List Expr} {t : TX} {ts : List TX} {is js : List Nat} (h : Tgt X T e t is) (h' : Tgts X T es ts js) (hs : (assignEach (e :: es) X.env).map (·.2) = assign e X.env :: (assignEach es X.env).map (·.2) := by rfl) : Tgts X T (e :: es) (t :: ts) (is ++ js) := by
  obtain ⟨g, h1, h2⟩ := h.ex
  obtain ⟨g', h3, h4⟩ := h'.ex
  refine ⟨_, pgs_cons h1 h3 hs, fun fr w r S σ H vs ds r' Q R rv e q => ?_⟩
  cases rv with
  | nil => cases e
  | cons ra rb =>
    rename_i v d vs ds
    dsimp only [tTs] at e
    cases q1 : t d r with
    | none => rw [q1] at e; cases e
    | some r1 =>
      rw [q1] at e
      exact ⟨v, vs, rfl, h2 fr w r S σ H v d r1 _ R ra q1 fun σ1 R1 n1 => h4 fr w r1 S σ1 H vs ds r' Q R1 rb e fun σ2 R2 n2 => q σ2 R2 ⟨n2.len.trans n1.len, fun j hj => (n2.at_ j fun z => hj (List.mem_append_right _ z)).trans (n1.at_ j fun z => hj (List.mem_append_left _ z)), fun j xs h => by
        obtain ⟨h1, h2⟩ := n2.ow j xs h
        obtain ⟨h3, h4⟩ := n1.ow j xs h1
        exact ⟨h3, h2.trans h4⟩⟩⟩
theorem tTs_len : ∀ (ts : List TX) (ds : List D) (r r' : Ev), tTs ts ds r = some r' → ds.length = ts.length := by
  intro ts
  induction ts with
  | nil => intro ds r r' e; cases ds with
    | nil => rfl
    | cons _ _ => cases e
  | cons t ts ih => intro ds r r' e; cases ds with
    | nil => cases e
    | cons d ds =>
      dsimp only [tTs] at e
      cases q1 : t d r with
      | none => rw [q1] at e; cases e
      | some r1 => rw [q1] at e; simp [ih ds r1 r' e]
theorem t_tp {es : List Expr} {k : Nat} {ts : List TX} {is : List Nat} (hc : X.calm = true) (h : Tgts X T es ts is) (hl : (assignEach es X.env).length = ts.length := by rfl) (hst : (assignEach es X.env).findIdx? (·.1) = none := by rfl) (hK : X.K = T.K := by rfl) : Tgt X T (.Tuple es k pos) (tTp ts) is := by
  obtain ⟨g, h1, h2⟩ := h.ex
  refine ⟨_, pg_tup (n := ts.length) hc h1 hl hst, fun fr w r S σ H v d r' Q R rv e q => ?_⟩
  cases d with
  | tup ds =>
    dsimp only [tTp] at e
    cases rv with
    | @tup c vs _ sq rs => exact ⟨c, vs, rfl, by rw [hK]; exact sqT_mono R.ok.fz sq, by rw [rs.length]; exact tTs_len ts ds r r' e, h2 fr w r S σ H vs ds r' Q R rs e q⟩
  | _ => cases e
theorem s_asg {tg : Expr} {f : EX} {t : TX} {is : List Nat} (h : PE X e (tE T W f)) (ht : Tgt X T tg t is) (hs : swapsWithSole [tg] e pos.line X.env = pure false := by rfl) (hw : swappedStores [tg] e X.env = pure none := by rfl)
    (h1 : (assignEach [tg] X.env).map (·.2) = [assign tg X.env] := by rfl) : PS X (.Assign [tg] e pos) (tS T W (sAsg f t)) := by
  obtain ⟨g, hg, ts⟩ := ht.ex
  refine imS (ps_asg h hg hs hw h1) fun D σ H ⟨fr, w, r, S, R, p⟩ => ⟨fr, w, r, S, R, onS_post R p fun w' H' S' d st k q v rv => ?_⟩
  cases z : t d r with
  | none => rw [z] at q; exact q.elim
  | some r' => rw [z] at q; exact ts fr w' r S' σ H' v d r' D.nx (R.step st k) rv z fun σ' R' _ => q w' σ' H' (Wd.Le.refl w') R'
/-- x = e, x one name -/
theorem s_set {i : Nat} {x : Str} {f : EX} {pos' : Pos} (hN : X.N.Nodup) (h : PE X e (tE T W f)) (hi : X.N[i]? = some x := by rfl) (hx : Loc X.env.scope x := by first | exact Or.inl rfl | exact Or.inr rfl) (hs : swapsWith e (some (.Name x pos')) pos.line X.env = pure false := by rfl)
    (hf : X.fn x = true ∨ X.env.scope.names.lookup x = some .local := by first | exact .inl rfl | exact .inr rfl) : PS X (.Assign [.Name x pos'] e pos) (tS T W (sAsg f (tNm i))) :=
  imS (ps_set hN hi hx h hs hf) fun D σ H ⟨fr, w, r, S, R, p⟩ => ⟨fr, w, r, S, R, onS_post R p fun w' H' S' d st k q v rv => q w' _ H' (Wd.Le.refl w') ((R.step st k).setSh rv)⟩

/-! ### a name's own list -/
section
variable {fr : Ent} {w : Wd} {σ : L2.St} {H : Hp} {r : Ev} {S : Sto}
/-- slot i gets a list that no other slot has -/
theorem Rel.setOw {i : Nat} {c : Addr} {xs : List D} (R : Rel T fr w r S σ H) (o : OwnAt T fr.H w H c xs) (hd : ∀ j ys, j ≠ i → r[j]? = some (.ow ys) → σ[j]? = some (some (.ref c)) → False) : Rel T fr w (r.set i (.ow xs)) S (σ.set i (some (.ref c))) H := by
  refine ⟨R.stp, R.ok, by rw [List.length_set, List.length_set]; exact R.len, fun j d' h => ?_, fun j ys h => ?_, fun j x h => ?_, fun j k ys zs e hjk h1 h2 h3 h4 => ?_⟩
  · by_cases q : i = j
    · subst q
      by_cases z : i < r.length
      · rw [List.getElem?_set_self z] at h; cases h
      · rw [List.getElem?_eq_none (by rw [List.length_set]; omega)] at h; cases h
    · rw [List.getElem?_set_ne q] at h
      rw [List.getElem?_set_ne q]
      exact R.sh j d' h
  · by_cases q : i = j
    · subst q
      by_cases z : i < r.length
      · rw [List.getElem?_set_self z] at h
        cases h
        exact ⟨c, List.getElem?_set_self (by rw [← R.len]; exact z), o⟩
      · rw [List.getElem?_eq_none (by rw [List.length_set]; omega)] at h; cases h
    · rw [List.getElem?_set_ne q] at h
      rw [List.getElem?_set_ne q]
      exact R.ow j ys h
  · by_cases q : i = j
    · subst q
      by_cases z : i < r.length
      · rw [List.getElem?_set_self z] at h; cases h
      · rw [List.getElem?_eq_none (by rw [List.length_set]; omega)] at h; cases h
    · rw [List.getElem?_set_ne q] at h
      rw [List.getElem?_set_ne q]
      exact R.ex j x h
  · have nj : ∀ {m : Nat} {us : List D}, (r.set i (.ow xs))[m]? = some (.ow us) → i ≠ m → r[m]? = some (.ow us) := fun {m us} h q => by rw [List.getElem?_set_ne q] at h; exact h
    have at_i : ∀ {us : List D}, (r.set i (.ow xs))[i]? = some (.ow us) → (σ.set i (some (V.ref c)))[i]? = some (some (.ref c)) := fun {us} h => by
      have z : i < r.length := by
        obtain ⟨z, _⟩ := List.getElem?_eq_some_iff.mp h
        rw [List.length_set] at z; exact z
      exact List.getElem?_set_self (by rw [← R.len]; exact z)
    by_cases q1 : i = j
    · subst q1
      rw [at_i h1] at h3
      cases h3
      rw [List.getElem?_set_ne hjk] at h4
      exact hd k zs (Ne.symm hjk) (nj h2 hjk) h4
    · by_cases q2 : i = k
      · subst q2
        rw [at_i h2] at h4
        cases h4
        rw [List.getElem?_set_ne q1] at h3
        exact hd j ys (Ne.symm q1) (nj h1 q1) h3
      · rw [List.getElem?_set_ne q1] at h3
        rw [List.getElem?_set_ne q2] at h4
        exact R.dj j k ys zs e hjk (nj h1 q1) (nj h2 q2) h3 h4
end
theorem own_imp {i : Nat} {l : LX} {te : TE} (him : ∀ σ H Q, tL T W l σ H Q → te σ H Q) (D : Ends) (σ : L2.St) (H : Hp) (h : tS T W (sOwn i l) D σ H) : tAsg te (gName i) D σ H := by
  obtain ⟨fr, w, r, S, R, p⟩ := h
  refine him _ _ _ ⟨fr, w, r, S, R, onS_post R p fun w' H' S' xs st k q c m => ?_⟩
  have R' := R.step st k
  refine q w' _ H' (Wd.Le.refl w') (R'.setOw ⟨m.vs, m.nf, m.nl, R.stp.live _ m.new⟩ fun j ys hj h1 h2 => ?_)
  obtain ⟨c', e1, o⟩ := R.ow j ys h1
  rw [h2] at e1; cases e1
  obtain ⟨vs, e2, _⟩ := o.vs
  rw [m.new] at e2; cases e2
theorem set_imp {i : Nat} {f : EX} {te : TE} (him : ∀ σ H Q, tE T W f σ H Q → te σ H Q) (D : Ends) (σ : L2.St) (H : Hp) (h : tS T W (sAsg f (tNm i)) D σ H) : tAsg te (gName i) D σ H := by
  obtain ⟨fr, w, r, S, R, p⟩ := h
  exact him _ _ _ ⟨fr, w, r, S, R, onS_post R p fun w' H' S' d st k q v rv => q w' _ H' (Wd.Le.refl w') ((R.step st k).setSh rv)⟩
theorem fz_imp {l : LX} {te : TE} (him : ∀ σ H Q, tL T W l σ H Q → te σ H Q) (σ : L2.St) (H : Hp) (Q : VK) (h : tE T W (eFz l) σ H Q) : te σ H Q := by
  obtain ⟨fr, w, r, S, R, p⟩ := h
  refine him _ _ _ ⟨fr, w, r, S, R, ?_⟩
  unfold eFz at p
  have p' := Post.map p
  cases q : l r S with
  | no => rw [q] at p'; exact p'
  | er x S' => rw [q] at p'; exact p'
  | ok xs S' =>
    rw [q] at p'
    intro w' H' t k c m
    obtain ⟨vs, h1, h2⟩ := m.vs
    exact p' (w'.put c (.lst vs)) H' (t.put m.new m.nf) (k.put h1 m.nf m.nl) _ (rep_lst m.nf h2)
theorem s_own {i : Nat} {x : Str} {l : LX} {pos' : Pos} (hN : X.N.Nodup) (h : PE X e (tL T W l)) (hi : X.N[i]? = some x := by rfl) (hx : Loc X.env.scope x := by first | exact Or.inl rfl | exact Or.inr rfl) (hs : swapsWith e (some (.Name x pos')) pos.line X.env = pure false := by rfl)
    (hf : X.fn x = true ∨ X.env.scope.names.lookup x = some .local := by first | exact .inl rfl | exact .inr rfl) : PS X (.Assign [.Name x pos'] e pos) (tS T W (sOwn i l)) :=
  imS (ps_set hN hi hx h hs hf) fun D σ H ⟨fr, w, r, S, R, p⟩ => ⟨fr, w, r, S, R, onS_post R p fun w' H' S' xs st k q c m => by
    have R' := R.step st k
    refine q w' _ H' (Wd.Le.refl w') (R'.setOw ⟨m.vs, m.nf, m.nl, R.stp.live _ m.new⟩ fun j ys hj h1 h2 => ?_)
    obtain ⟨c', e1, o⟩ := R.ow j ys h1
    rw [h2] at e1; cases e1
    obtain ⟨vs, e2, _⟩ := o.vs
    rw [m.new] at e2; cases e2⟩
section
variable {fr : Ent} {w : Wd} {σ : L2.St} {H : Hp} {r : Ev} {S : Sto}
/-- what stands at a name's own address is changed -/
theorem Rel.upOw {i : Nat} {c : Addr} {xs ys : List D} {us : List V} (R : Rel T fr w r S σ H) (hr : r[i]? = some (.ow xs)) (hs : σ[i]? = some (some (.ref c))) (hu : Reps T w us ys) : Rel T fr w (r.set i (.ow ys)) S σ (upd H c (.lst us)) := by
  obtain ⟨c', e1, o⟩ := R.ow i xs hr
  rw [hs] at e1; cases e1
  obtain ⟨⟨vs, h1, h2⟩, nf, nl, new⟩ := o
  have z : i < r.length := (List.getElem?_eq_some_iff.mp hr).1
  have other : ∀ b, b ≠ c → upd H c (.lst us) b = H b := fun b hb => upd_ne hb
  have other2 : ∀ {j : Nat} {zs : List D} {b : Addr}, j ≠ i → r[j]? = some (.ow zs) → σ[j]? = some (some (.ref b)) → b ≠ c := fun {j zs b} hj h3 h4 q => by
    subst q
    exact R.dj j i zs xs b hj h3 hr h4 hs
  have back : ∀ {j : Nat} {zs : List D}, i ≠ j → (r.set i (.ow ys))[j]? = some (.ow zs) → r[j]? = some (.ow zs) := fun {j zs} q h => by rw [List.getElem?_set_ne q] at h; exact h
  refine ⟨⟨R.stp.le, R.stp.new, fun b q e n => ?_, fun b e => ?_, R.stp.lnew⟩, ⟨fun b q e => ?_, R.ok.nd, R.ok.nf, R.ok.len, fun n cc b e2 e3 => (R.ok.cell n cc b e2 e3).le (Wd.Le.refl w) (other b fun q => nl (by rw [← q]; exact List.mem_of_getElem? e3))⟩,
    by rw [List.length_set]; exact R.len, fun j d' h => ?_, fun j zs h => ?_, fun j x h => ?_, fun j k zs ts e hjk h3 h4 h5 h6 => ?_⟩
  · rw [other b fun q => by rw [q, new] at e; cases e]; exact R.stp.keep b q e n
  · by_cases q : b = c
    · rw [q, upd_same] at e; cases e
    · rw [other b q] at e; exact R.stp.live b e
  · rw [other b fun q => by rw [q, nf] at e; cases e]; exact R.ok.fz b q e
  · by_cases q : i = j
    · subst q; rw [List.getElem?_set_self z] at h; cases h
    · rw [List.getElem?_set_ne q] at h; exact R.sh j d' h
  · by_cases q : i = j
    · subst q
      rw [List.getElem?_set_self z] at h
      cases h
      exact ⟨c, hs, ⟨us, upd_same, hu⟩, nf, nl, new⟩
    · have h' := back q h
      obtain ⟨b, e2, ⟨ws, h7, h8⟩, h9, h10, h11⟩ := R.ow j zs h'
      exact ⟨b, e2, ⟨ws, (other b (other2 (Ne.symm q) h' e2)).trans h7, h8⟩, h9, h10, h11⟩
  · by_cases q : i = j
    · subst q; rw [List.getElem?_set_self z] at h; cases h
    · rw [List.getElem?_set_ne q] at h
      obtain ⟨e, e2, e3, e4, d, ws, e5, e6, e7⟩ := R.ex j x h
      exact ⟨e, e2, e3, e4, d, ws, e5, (other d fun q => by rw [q, h1] at e6; cases e6).trans e6, e7⟩
  · by_cases q1 : i = j
    · subst q1
      rw [hs] at h5; cases h5
      exact R.dj k i ts xs c (Ne.symm hjk) (back hjk h4) hr h6 hs
    · by_cases q2 : i = k
      · subst q2
        rw [hs] at h6; cases h6
        exact R.dj j i zs xs c hjk (back q1 h3) hr h5 hs
      · exact R.dj j k zs ts e hjk (back q1 h3) (back q2 h4) h5 h6
/-- a name's own list is kept for good from here on -/
theorem Rel.frz {i : Nat} (R : Rel T fr w r S σ H) : ∃ w', w.Le w' ∧ Rel T fr w' (frz i r) S σ H := by
  unfold Dm.frz
  cases q : r[i]? with
  | none => exact ⟨w, Wd.Le.refl w, R⟩
  | some s =>
    cases s with
    | un => exact ⟨w, Wd.Le.refl w, R⟩
    | sh d => exact ⟨w, Wd.Le.refl w, R⟩
    | ex x => exact ⟨w, Wd.Le.refl w, R⟩
    | ow xs =>
      obtain ⟨c, hs, ⟨vs, h1, h2⟩, nf, nl, new⟩ := R.ow i xs q
      have z : i < r.length := (List.getElem?_eq_some_iff.mp q).1
      have le := put_le (w := w) (a := c) (o := .lst vs) nf
      have back : ∀ {j : Nat} {zs : List D}, (r.set i (.sh (.lst xs)))[j]? = some (.ow zs) → i ≠ j ∧ r[j]? = some (.ow zs) := fun {j zs} h => by
        by_cases q2 : i = j
        · subst q2; rw [List.getElem?_set_self z] at h; cases h
        · rw [List.getElem?_set_ne q2] at h; exact ⟨q2, h⟩
      refine ⟨w.put c (.lst vs), le, R.stp.put new nf, R.ok.put h1 nf nl, by rw [List.length_set]; exact R.len, fun j d' h => ?_, fun j zs h => ?_, fun j x h => ?_, fun j k zs ts e hjk h3 h4 h5 h6 => R.dj j k zs ts e hjk (back h3).2 (back h4).2 h5 h6⟩
      · by_cases q2 : i = j
        · subst q2
          rw [List.getElem?_set_self z] at h
          cases h
          exact ⟨_, hs, rep_lst nf h2⟩
        · rw [List.getElem?_set_ne q2] at h
          obtain ⟨v, e1, rv⟩ := R.sh j d' h
          exact ⟨v, e1, rv.up le⟩
      · obtain ⟨q2, h'⟩ := back h
        obtain ⟨b, e2, ⟨ws, h7, h8⟩, h9, h10, h11⟩ := R.ow j zs h'
        refine ⟨b, e2, ⟨ws, h7, h8.up le⟩, ?_, h10, h11⟩
        show upd w.F c (.lst vs) b = none
        rw [upd_ne fun q3 => by subst q3; exact R.dj j i zs xs b (Ne.symm q2) h' q e2 hs]
        exact h9
      · by_cases q2 : i = j
        · subst q2; rw [List.getElem?_set_self z] at h; cases h
        · rw [List.getElem?_set_ne q2] at h
          obtain ⟨e, e2, e3, e4, d, ws, e5, e6, e7⟩ := R.ex j x h
          exact ⟨e, e2, e3, e4, d, ws, e5, e6, e7.up le⟩
end
theorem s_frz {st : Stmt} {g : SX} (i : Nat) (h : PS X st (tS T W g)) : PS X st (tS T W (sFrz i g)) := imS h fun D σ H ⟨fr, w, r, S, R, p⟩ => by
  obtain ⟨w', l, R'⟩ := R.frz (i := i)
  exact ⟨fr, w', frz i r, S, R', PostS.later p l⟩
/-- x.append(e) of a name's own list -/
theorem s_app {i : Nat} {x : Str} {f : EX} {p1 p2 p3 : Pos} (h : PE X e (tE T W f)) (hst : starEach [e] X.env = (false, eval e X.env) :: starEach [] X.env := by rfl) (hN : X.N[i]? = some x := by rfl) (hv : Vis X.env.scope x := by first | exact Or.inl rfl | exact Or.inr (Or.inl rfl)) (hd : (x == ("__debug__" : Str)) = false := by decide) (hcd : (x == ("__classdict__" : Str)) = false := by decide)
    (hbase : attributeBase (.Name x p1) "append" X.env (eval (.Name x p1) X.env) = eval (.Name x p1) X.env := by rfl)
    (hfew : ((backTo p3 (starEach [e] X.env)).all (fun x => !x.1) && (backToKw p3 (keywordEach [] X.env)).all (fun x => x.1.isSome) && decide (([e]).length + ([] : List Keyword).length + (if ([] : List Keyword).isEmpty then 0 else 1) < 30)) = true := by rfl)
    (hline : (p2.endLine == p3.line) = true := by rfl) (hplain : (backTo p3 (starEach [] X.env)).any (·.1) = false := by rfl)
    (hs : swapsWith (.Call (.Attribute (.Name x p1) "append" p2) [e] [] p3) none pos.line X.env = pure false := by rfl) : PS X (.Expr (.Call (.Attribute (.Name x p1) "append" p2) [e] [] p3) pos) (tS T W (sApp i f)) := by
  refine imS (ps_expr (pe_bm PySem.F.plainAttrs_list PySem.F.slot_list_append PySem.F.type_list_append mt_append (pe_var hN hv hd hcd) (pa_cons h pa_nil hst) hbase hfew hline hst hplain) hs) fun D σ H ⟨fr, w, r, S, R, p⟩ => ?_
  unfold sApp at p
  cases q : r[i]? with
  | none => rw [q] at p; exact p.elim
  | some s =>
    rw [q] at p
    cases s with
    | un => exact p.elim
    | sh d => exact p.elim
    | ex x => exact p.elim
    | ow xs =>
      obtain ⟨c, hs, o⟩ := R.ow i xs q
      obtain ⟨vs, h1, h2⟩ := o.vs
      refine ⟨_, hs, .inl ⟨rfl, vs, SqL.of h1⟩, fr, w, r, S, R, onS_post R p fun w' H' S' d st k q' v rv => ?_⟩
      split at q'
      · rename_i hl
        have h1' := st.keep _ _ h1 o.nl
        have h2' := h2.up st.le
        exact ⟨c, vs, v, rfl, rfl, h1', by rw [h2.length, limE]; exact hl, q' w' σ _ (Wd.Le.refl w') ((R.step st k).upOw q hs (h2'.append (.one rv)))⟩
      · exact q'.elim

/-! ### for -/
/-- a walk's turns, as the heap stands -/
def TurnOk (T : Tb) (w : Wd) (H : Hp) (S : Sto) (J : It) (ds : List D) : Prop :=
  (∀ i, ds.length ≤ i → J.stop i H) ∧ ∀ i d, ds[i]? = some d → J.go i H ∧ ∀ x H', J.yld i H x H' → ∃ w', Stp w w' H H' ∧ WOk T w' H' S ∧ Rep T w' x d
/-- .. whatever is changed but what is kept for good -/
def ItF (T : Tb) (w : Wd) (J : It) (s : Src) : Prop := ∀ (w' : Wd) (H' : Hp) (S' : Sto), w.Le w' → WOk T w' H' S' → s.ok S' → TurnOk T w' H' S' J s.ds
def ItB (T : Tb) (w : Wd) (H : Hp) (J : It) (s : Src) : Prop := ∀ (w' : Wd) (H' : Hp) (S' : Sto), Stp w w' H H' → WOk T w' H' S' → s.ok S' → TurnOk T w' H' S' J s.ds
def tI (T : Tb) (W : WX) (f : IX) : TI := fun σ H Q => ∃ fr w r S, Rel T fr w r S σ H ∧ Post T w H (fun w' H' _ s => ∀ J, ItF T w' J s → Q J H') (eW T W σ) (f r S)
def tIB (T : Tb) (W : WX) (f : IX) : TI := fun σ H Q => ∃ fr w r S, Rel T fr w r S σ H ∧ Post T w H (fun w' H' _ s => ∀ J, ItB T w' H' J s → Q J H') (eW T W σ) (f r S)
structure imI_ (X : Cx) (tg e : Expr) (t : TI) : Prop where
  h : PI X tg e t
theorem imI {tg : Expr} {t t' : TI} (h : PI X tg e t) (i : ∀ σ H Q, t' σ H Q → t σ H Q) : PI X tg e t' := ⟨fun pins s σ H Q I q => h.run pins s σ H Q I (i σ H Q q)⟩
theorem i_b {tg : Expr} {f : IX} (h : PI X tg e (tI T W f)) : PI X tg e (tIB T W f) := imI h fun σ H Q ⟨fr, w, r, S, R, p⟩ => ⟨fr, w, r, S, R, p.on (fun w' H' S' ds t k q J h => q J fun w2 H2 S2 t2 k2 ho => h w2 H2 S2 t2.le k2 ho) fun _ _ _ _ q => q⟩

theorem s_for {tg it : Expr} {src : IX} {t : TX} {g : SX} {body : List Stmt} {is : List Nat} (hp : PassesOwn (model X.prog X.w) X.A X.env X.xe) (hc : X.calm = true) (hi : PI X tg it (tI T W src)) (ht : Tgt X T tg t is) (hb : PSs X body (tS T W g)) (hfs : ∀ v, foldedSetIterable it X.env v = pure v := by exact fun _ => rfl) :
    PS X (.For tg it body [] pos) (tS T W (sFor src t g)) := by
  obtain ⟨g0, hg, ts⟩ := ht.ex
  refine imS (ps_for hp hc hi hg hb hfs) fun D σ H ⟨fr, w, r, S, R, p⟩ => ⟨fr, w, r, S, R, onS_post R p fun w0 H0 S0 sr st k q J hJ => ?_⟩
  refine ⟨fun i m σ' H' => ∃ w' r' S', w0.Le w' ∧ Rel T fr w' r' S' σ' H' ∧ i ≤ sr.ds.length ∧ m = sr.ds.length - i ∧ PostS T W fr w' D (forL sr.ok t g (sr.ds.drop i) r' S'), ⟨_, w0, r, S0, Wd.Le.refl w0, R.step st k, Nat.zero_le _, rfl, q⟩, ?_⟩
  rintro i m σ1 H1 ⟨w1, r1, S1, l1, R1, hi1, rfl, p1⟩
  have hok : sr.ok S1 := by
    by_cases h : sr.ok S1
    · exact h
    · exfalso
      cases e : sr.ds.drop i with
      | nil => rw [e] at p1; unfold forL at p1; rw [if_neg h] at p1; exact p1
      | cons _ _ => rw [e] at p1; unfold forL at p1; rw [if_neg h] at p1; exact p1
  have tk := hJ w1 H1 S1 l1 R1.ok hok
  by_cases z : i = sr.ds.length
  · refine .inl ⟨tk.1 i (by omega), ?_⟩
    rw [z, List.drop_length] at p1
    unfold forL at p1
    rw [if_pos hok] at p1
    exact p1 w1 σ1 H1 (Wd.Le.refl w1) R1
  · have hlt : i < sr.ds.length := by omega
    have e1 : sr.ds[i]? = some sr.ds[i] := List.getElem?_eq_getElem hlt
    obtain ⟨go, yl⟩ := tk.2 i _ e1
    refine .inr ⟨go, fun σ' H' => ∃ w' r' S', w0.Le w' ∧ Rel T fr w' r' S' σ' H' ∧ PostS T W fr w' D (forL sr.ok t g (sr.ds.drop (i + 1)) r' S'), fun σ' H' ⟨w', r', S', l, R', p'⟩ => ⟨sr.ds.length - (i + 1), by omega, w', r', S', l, R', hlt, rfl, p'⟩, fun x H2 hy => ?_⟩
    obtain ⟨w2, st2, k2, rx⟩ := yl x H2 hy
    have R2 := R1.step st2 k2
    have p2 := p1.later st2.le
    rw [List.drop_eq_getElem_cons hlt] at p2
    unfold forL at p2
    rw [if_pos hok] at p2
    cases q1 : t sr.ds[i] r1 with
    | none => rw [q1] at p2; exact p2.elim
    | some r3 =>
      rw [q1] at p2
      dsimp only at p2
      refine ts fr w2 r1 S1 σ1 H2 x _ r3 _ R2 rx q1 fun σ3 R3 _ => ⟨fr, w2, r3, S1, R3, ?_⟩
      cases q2 : g r3 S1 with
      | nx r4 S4 => rw [q2] at p2; exact fun w4 σ4 H4 l4 R4 => ⟨w4, r4, S4, l1.trans (st2.le.trans l4), R4, PostS.later p2 l4⟩
      | ct r4 S4 => rw [q2] at p2; exact fun w4 σ4 H4 l4 R4 => ⟨w4, r4, S4, l1.trans (st2.le.trans l4), R4, PostS.later p2 l4⟩
      | bk r4 S4 => rw [q2] at p2; exact fun w4 σ4 H4 l4 R4 => p2 w4 σ4 H4 l4 R4
      | rt d4 S4 => rw [q2] at p2; exact p2
      | er x4 r4 S4 => rw [q2] at p2; exact p2
      | no => rw [q2] at p2; exact p2

/-! ### while -/
theorem s_while {c : Expr} {fc : CX} {g : SX} {body : List Stmt} (hp : PassesOwn (model X.prog X.w) X.A X.env X.xe) (hc : PT X c (tQ T W fc)) (hb : PSs X body (tS T W g)) : PS X (.While c body [] pos) (tS T W (sWh fc g)) := by
  refine imS (ps_while hp hc hb) fun D σ H ⟨fr, w, r, S, R, p⟩ => ?_
  refine ⟨fun m σ' H' => ∃ w' r' S', Rel T fr w' r' S' σ' H' ∧ PostS T W fr w' D (whF m fc g r' S'), ?_, ?_⟩
  · unfold sWh at p
    split at p
    · exact ⟨_, w, r, S, R, p⟩
    · exact p.elim
  · rintro m σ1 H1 ⟨w1, r1, S1, R1, p1⟩
    cases m with
    | zero => exact p1.elim
    | succ m =>
      dsimp only [whF] at p1
      refine ⟨fr, w1, r1, S1, R1, onS_post R1 p1 fun w2 H2 S2 b st k p2 => ?_⟩
      cases b with
      | false => exact p2 w2 σ1 H2 (Wd.Le.refl w2) (R1.step st k)
      | true =>
        refine ⟨fun σ' H' => ∃ w' r' S', Rel T fr w' r' S' σ' H' ∧ PostS T W fr w' D (whF m fc g r' S'), fun σ' H' q => ⟨m, Nat.lt_succ_self m, q⟩, fr, w2, r1, S2, R1.step st k, ?_⟩
        rw [if_pos rfl] at p2
        cases q2 : g r1 S2 with
        | nx r4 S4 => rw [q2] at p2; exact fun w4 σ4 H4 l4 R4 => ⟨w4, r4, S4, R4, PostS.later p2 l4⟩
        | ct r4 S4 => rw [q2] at p2; exact fun w4 σ4 H4 l4 R4 => ⟨w4, r4, S4, R4, PostS.later p2 l4⟩
        | bk r4 S4 => rw [q2] at p2; exact fun w4 σ4 H4 l4 R4 => p2 w4 σ4 H4 l4 R4
        | rt d4 S4 => rw [q2] at p2; exact p2
        | er x4 r4 S4 => rw [q2] at p2; exact p2
        | no => rw [q2] at p2; exact p2

/-! ### what is walked: lists, tuples, texts -/
theorem turn_lst {w : Wd} {H : Hp} {S : Sto} {a : Addr} {vs : List V} {ds : List D} (k : WOk T w H S) (hs : SqL T.K H a vs) (r : Reps T w vs ds) : TurnOk T w H S (Itl T.K a) ds := by
  refine ⟨fun i hi => ⟨vs, hs, by rw [r.length]; exact hi⟩, fun i d e => ?_⟩
  obtain ⟨v, e1, rv⟩ := r.get e
  exact ⟨⟨vs, v, hs, e1⟩, fun x H'' hy => by
    obtain ⟨rfl, hx⟩ := hy
    have := hx vs hs
    rw [e1] at this; cases this
    exact ⟨w, Stp.refl _ _, k, rv⟩⟩
theorem turn_tp {w : Wd} {H : Hp} {S : Sto} {a : Addr} {vs : List V} {ds : List D} (k : WOk T w H S) (hs : SqT T.K H a vs) (r : Reps T w vs ds) : TurnOk T w H S (Itt T.K a) ds := by
  refine ⟨fun i hi => ⟨vs, hs, by rw [r.length]; exact hi⟩, fun i d e => ?_⟩
  obtain ⟨v, e1, rv⟩ := r.get e
  exact ⟨⟨vs, v, hs, e1⟩, fun x H'' hy => by
    obtain ⟨rfl, hx⟩ := hy
    have := hx vs hs
    rw [e1] at this; cases this
    exact ⟨w, Stp.refl _ _, k, rv⟩⟩
end
end Dm
set_option maxRecDepth 100000
/-! Defs: a promise that knows that nothing is being printed; calls of defs, methods, classes. -/
namespace Dm
set_option autoImplicit false
open PySem L2

/-- a def's promise, called where no repr is under way -/
structure FnG (P : Program) (w : World) (K : PySem.W.Frag) (mg : Str → Option Value) (base : Heap) (k : Nat) (f : Addr) (fd : FuncData) (ps : List Str) (sp : Sp) : Prop where
  len : ∀ vs H Q E, sp vs H Q E → vs.length = ps.length
  run : ∀ (A : Around) (outer : List Env) (s : Shared) (H : Hp) (args : Args) (us : List Value) (vs : List V) (Q : VK) (E : XK), Room k A → A.guards = some [] → Env0 P w K mg base A outer s H →
    BindsTo s fd args (ps.zip us) → Vals vs us → sp vs H Q E → codeAny (model P w) A (.call (.ref f) args) (CR (L2.CX P w) outer P w H s Q E) s
theorem FnG.mono {P : Program} {w : World} {K : PySem.W.Frag} {mg : Str → Option Value} {base : Heap} {j k : Nat} {f : Addr} {fd : FuncData} {ps : List Str} {sp : Sp} (F : FnG P w K mg base j f fd ps sp) (h : j ≤ k) : FnG P w K mg base k f fd ps sp :=
  ⟨F.len, fun A outer s H args us vs Q E hr hg e0 hb r h1 => F.run A outer s H args us vs Q E (hr.mono h) hg e0 hb r h1⟩

/-- what a body's rules ask of where it runs -/
structure Cok (X : Cx) (T : Tb) (W : WX) (k : Nat) : Prop where
  K : X.K = T.K
  room : Room k X.A
  gd : X.A.guards = some []
  tk : Takes X W
  calm : X.calm = true
  po : PassesOwn (model X.prog X.w) X.A X.env X.xe
theorem Cok.mono {X : Cx} {T : Tb} {W : WX} {j k : Nat} (C : Cok X T W k) (h : j ≤ k) : Cok X T W j := ⟨C.K, C.room.mono h, C.gd, C.tk, C.calm, C.po⟩

/-- the body's end as a def's -/
def fnM (N : Nat) (g : SX) : List D → M D := fun ds S => match g (ds.map Sl.sh ++ List.replicate (N - ds.length) Sl.un) S with
  | .nx _ S' => .ok .non S'
  | .rt d S' => .ok d S'
  | .er x _ S' => .er x S'
  | _ => .no

section
variable {P : Program} {w : World} {mg : Str → Option Value} {base : Heap} {T : Tb}
abbrev bodyX (P : Program) (w : World) (T : Tb) (mg : Str → Option Value) (base : Heap) (N : List Str) (qual : Str) (st : Stmt) (f : Addr) (cdv : Value) (A : Around) (outer : List Env) (s : Shared) (H : Hp) (E : XK) : Cx :=
  cxOf (L2.CX P w) P w T.K mg base N qual (defScope st) f cdv A outer s H E
abbrev bodyW (E : XK) : WX := fun cls d _ H => E cls d H
theorem rel_start {N : List Str} {w0 : Wd} {S : Sto} {vs : List V} {ds : List D} {H : Hp} (k : WOk T w0 H S) (r : Reps T w0 vs ds) (hl : vs.length ≤ N.length) :
    Rel T ⟨w0, H⟩ w0 (ds.map Sl.sh ++ List.replicate (N.length - ds.length) Sl.un) S (L2.start N vs) H := by
  have el := r.length
  have at_ : ∀ (i : Nat) (s : Sl), (ds.map Sl.sh ++ List.replicate (N.length - ds.length) Sl.un)[i]? = some s → (∃ d, ds[i]? = some d ∧ s = .sh d) ∨ s = .un := fun i s h => by
    by_cases q : i < ds.length
    · rw [List.getElem?_append_left (by rw [List.length_map]; exact q), List.getElem?_map] at h
      cases e : ds[i]? with
      | none => rw [e] at h; cases h
      | some d => rw [e] at h; cases h; exact .inl ⟨d, rfl, rfl⟩
    · rw [List.getElem?_append_right (by rw [List.length_map]; omega), List.getElem?_replicate] at h
      split at h
      · cases h; exact .inr rfl
      · cases h
  refine ⟨Stp.refl _ _, k, ?_, fun i d h => ?_, fun i xs h => ?_, fun i x h => ?_, fun i j xs ys a hij h => ?_⟩
  · unfold L2.start
    rw [List.length_append, List.length_append, List.length_map, List.length_map, List.length_replicate, List.length_replicate, el]
  · rcases at_ i _ h with ⟨d', e, q⟩ | q
    · cases q
      obtain ⟨v, hv, rv⟩ := r.get e
      refine ⟨v, ?_, rv⟩
      have hi := (List.getElem?_eq_some_iff.mp hv).1
      unfold L2.start
      rw [List.getElem?_append_left (by rw [List.length_map]; exact hi), List.getElem?_map, hv]
      rfl
    · cases q
  · rcases at_ i _ h with ⟨d', e, q⟩ | q <;> cases q
  · rcases at_ i _ h with ⟨d', e, q⟩ | q <;> cases q
  · rcases at_ i _ h with ⟨d', e, q⟩ | q <;> cases q
/-- a def by its body -/
theorem fn_g {x qual : Str} {st : Stmt} {f : Addr} {fd : FuncData} {N ps : List Str} {k n : Nat} {g : SX} (F : Fun T.K x qual st f fd) (Sc : FnScope N ps (defScope st)) (hn : ps.length = n)
    (hbody : ∀ (cdv : Value) (A : Around) (outer : List Env) (s : Shared) (H : Hp) (E : XK), Cok (bodyX P w T mg base N qual st f cdv A outer s H E) T (bodyW E) k → PSs (bodyX P w T mg base N qual st f cdv A outer s H E) (defBody st) (tS T (bodyW E) g)) :
    FnG P w T.K mg base (k + 1) f fd ps (spD T n (fnM N.length g)) := by
  obtain ⟨oc, od, kV, doc, pm, an, cdv, ct, osl, rfl, lk, hcd⟩ := F.ex
  have pl : ps.length ≤ N.length := by
    have e := congrArg List.length Sc.pre
    rw [List.length_take] at e
    omega
  refine ⟨fun vs H Q E ⟨w0, S, ds, _, r, e, _⟩ => by rw [r.length, e, hn], ?_⟩
  intro A outer s H args us vs Q E hr hg e0 hb rv hsp
  obtain ⟨w0, S, ds, kw, rs, el, post⟩ := hsp
  have hl : vs.length = ps.length := by rw [rs.length, el, hn]
  have kin : T.K.In s.heap := e0.mod.kin.keeps fun b o q => (e0.bs b o q).1
  have nolim : s.heap.NoLimit := e0.mod.nolimit.keeps fun b o q => (e0.bs b o q).1
  refine codeAny_call_function hr.depth (kin _ _ lk) rfl Sc.co Sc.gen rfl (PySem.W.codeRec_of kin hcd) (hb _ _ _ _ ?_)
  refine wpAny_newFunctionEnv_cells Sc.kind (fun y hy => ?_) fun env he s1 xx => ?_
  · rcases Sc.par y.1 (List.of_mem_zip hy).1 with q | q
    · exact .inl q
    · exact .inr ⟨q, PySem.W.cellsFrom_some _ _ _ (.inl q)⟩
  subst he
  refine ⟨nolim.keeps xx.toInCall.keep, codeAny_func ?_⟩
  have ck : Cok (bodyX P w T mg base N qual st f cdv A outer s H E) T (bodyW E) k :=
    ⟨rfl, hr.deeper _, hg, takes_of rfl rfl rfl rfl, rfl, passes_of rfl⟩
  have I0 : Inv (bodyX P w T mg base N qual st f cdv A outer s H E) [] (L2.start N vs) H s1 := inv_start Sc hr.hd e0 hl rv xx
  have R0 := rel_start (N := N) kw rs (by omega)
  have ends : PostS T (bodyW E) ⟨w0, H⟩ w0 { nx := fun _ H' => Q .non H', rt := Q } (g (ds.map Sl.sh ++ List.replicate (N.length - ds.length) Sl.un) S) := by
    unfold fnM at post
    cases q : g (ds.map Sl.sh ++ List.replicate (N.length - ds.length) Sl.un) S with
    | nx r' S' => rw [q] at post; exact fun w' σ' H' l R => post w' H' R.stp R.ok _ .non
    | rt d S' => rw [q] at post; exact fun w' H' v t kk rr => post w' H' t kk v rr
    | er x r' S' => rw [q] at post; exact fun w' σ' H' cls dx l R ex => post w' H' R.stp R.ok cls dx ex
    | bk _ _ => rw [q] at post; exact post.elim
    | ct _ _ => rw [q] at post; exact post.elim
    | no => rw [q] at post; exact post.elim
  refine wpAny_mono ((hbody cdv A outer s H E ck).run [] s1 (L2.start N vs) H { nx := fun _ H' => Q .non H', rt := Q } I0 ⟨_, w0, _, S, R0, ends⟩) (fun fl s' z => ?_) fun e s' z => z
  cases fl with
  | ret u =>
    obtain ⟨v, σ', H', J, rr, q⟩ := z
    exact ⟨v, H', J.os, J.bare, J.base, J.hok, rr, q⟩
  | next =>
    obtain ⟨σ', H', J, q⟩ := z
    exact ⟨V.non, H', J.os, J.bare, J.base, J.hok, rfl, q⟩
  | brk => obtain ⟨_, _, _, q⟩ := z; exact q.elim
  | cont => obtain ⟨_, _, _, q⟩ := z; exact q.elim
end

/-! ### calls -/
section
variable {X : Cx} {T : Tb} {W : WX} {k n : Nat} {f C : Addr} {fd : FuncData} {ps : List Str} {x m : Str} {p pos apos : Pos} {e o : Expr} {es : List Expr}
theorem run_g {pins : List (Addr × Obj)} {σ : L2.St} {H : Hp} {s : Shared} {Q : VK} {us : List Value} {vs : List V} {sp : Sp} {E : XK} {A : Around} {Z : Value → Shared → Prop} (F : FnG X.prog X.w X.K X.mg X.base k f fd ps sp) (hr : Room k A) (hg : A.guards = some []) (hb : Binds X.K fd ps [])
    (hE : ∀ e s', L2.CX X.prog X.w X.stack H s E e s' → Z e s') (e0 : Env0 X.prog X.w X.K X.mg X.base A X.stack s H) (I : Inv X pins σ H s) (r : Vals vs us) (h : sp vs H Q E) :
    codeAny (model X.prog X.w) A (.call (.ref f) ⟨us, []⟩) (fun r s' => match r with | .ok (.ret u) => EP X pins σ Q u s' | .ok _ => False | .error e => Z e s') s := by
  have hl : us.length = ps.length := by rw [← r.length]; exact F.len _ _ _ _ h
  have b := hb s us I.kIn (by rw [List.append_nil]; exact hl)
  rw [List.append_nil] at b
  refine codeAny_mono (F.run A X.stack s H ⟨us, []⟩ us vs Q E hr hg e0 b r h) fun r s' hq => ?_
  cases r with
  | error e => exact hE e s' hq
  | ok fl =>
    cases fl with
    | ret u => exact I.after hq
    | next => exact hq.elim
    | brk => exact hq.elim
    | cont => exact hq.elim
/-- the wish that a call's errors are let to -/
theorem tk_call {pins : List (Addr × Obj)} {σ : L2.St} {H : Hp} {s : Shared} (tk : Takes X W) (I : Inv X pins σ H s) : ∀ e s', L2.CX X.prog X.w X.stack H s (fun cls d H' => W cls d σ H') e s' → X.xe e s' := fun e s' c => tk e s' (XE.of_call I (fun _ _ _ h => h) c)
theorem call_g {pins : List (Addr × Obj)} {σ : L2.St} {H : Hp} {s : Shared} {Q : VK} {us : List Value} {vs : List V} {sp : Sp} (F : FnG X.prog X.w X.K X.mg X.base k f fd ps sp) (c : Cok X T W k) (hb : Binds X.K fd ps []) (I : Inv X pins σ H s) (r : Vals vs us)
    (h : sp vs H Q (fun cls d H' => W cls d σ H')) : wpAny (model X.prog X.w) X.A (call (.ref f) us) (EP X pins σ Q) X.xe s := by
  refine wpAny_call (codeAny_mono (run_g F c.room c.gd hb (tk_call c.tk I) I.env0 I r h) fun r s' hq => ?_)
  cases r with
  | error e => exact hq
  | ok fl => cases fl <;> exact hq
/-- f(e, ..) -/
def eCall (n : Nat) (f : List D → M D) (t : AX) : EX := fun r => bnd (t r) fun ds => need (ds.length == n) (f ds)
theorem sp_of {w : Wd} {H : Hp} {S : Sto} {vs : List V} {ds : List D} {Q : VK} {E : XK} {f : List D → M D} {R : Wd → Hp → Sto → Exc → Prop} (k : WOk T w H S) (r : Reps T w vs ds) (hR : ∀ w' H' S x, R w' H' S x → ∀ cls dx, ExcAt T w' H' cls dx x → E cls dx H')
    (p : Post T w H (fun w' H' _ d => ∀ v, Rep T w' v d → Q v H') R (need (ds.length == n) (f ds) S)) : spD T n f vs H Q E := by
  obtain ⟨h, p'⟩ := Post.need p
  exact ⟨w, S, ds, k, r, by simpa using h, p'.imp (fun _ _ _ _ q => q) hR⟩
theorem e_call {g : List D → M D} {a : AX} (F : FnG X.prog X.w X.K X.mg X.base k f fd ps (spD T n g)) (c : Cok X T W k) (hm : X.mg x = some (.ref f)) (hk : PySem.W.keepIn X.K (.ref f) = true) (hb : Binds X.K fd ps []) (ha : PA X (e :: es) (tA T W a)) (hg : Gl X x := by rfl)
    (hdb : (x == ("__debug__" : Str)) = false := by decide) (he : starEach (e :: es) X.env = (false, eval e X.env) :: starEach es X.env := by rfl) (hpl : (backTo pos (starEach es X.env)).any (·.1) = false := by rfl) :
    PE X (.Call (.Name x p) (e :: es) [] pos) (tE T W (eCall n g a)) := by
  refine ⟨fun pins s σ H Q I ⟨fr, w, r, S, R, q⟩ => ?_⟩
  refine wpAny_Call_Name_kw (ld_glob I hg hm ?_ hdb)
  refine PySem.W.callWith_K (h₀ := X.base) I.ok.mod.kin hk (thn (ha.run pos pins s σ H _ I ⟨fr, w, r, S, R, Post.on (P' := fun w' H' S' ds => ∀ vs, Reps T w' vs ds → spD T n g vs H' Q (fun cls d H' => W cls d σ H')) (Post.bnd q) (fun w1 H1 S1 ds t kk p1 vs rv => sp_of kk rv (fun _ _ _ _ z => z) p1) fun _ _ _ _ z => z⟩)
    fun us s1 ⟨vs, H1, I1, rv, q1⟩ => ⟨I1.kIn, call_g F c hb I1 rv q1⟩) he hpl
theorem e_call0 {g : List D → M D} (F : FnG X.prog X.w X.K X.mg X.base k f fd ps (spD T n g)) (c : Cok X T W k) (hm : X.mg x = some (.ref f)) (hk : PySem.W.keepIn X.K (.ref f) = true) (hb : Binds X.K fd ps []) (hg : Gl X x := by rfl)
    (hdb : (x == ("__debug__" : Str)) = false := by decide) : PE X (.Call (.Name x p) [] [] pos) (tE T W (eCall n g aNil)) := by
  refine ⟨fun pins s σ H Q I ⟨fr, w, r, S, R, q⟩ => ?_⟩
  refine wpAny_Call_Name_kw (ld_glob I hg hm ?_ hdb)
  exact PySem.W.callWith_K0 I.kIn hk (call_g (us := []) (vs := []) F c hb I .nil (sp_of R.ok .nil (fun _ _ _ _ z => z) q))

/-! methods -/
/-- the receiver's class and that it has no field of the method's name -/
def isObj (c km : Nat) (d : D) : M Bool := fun S => match fldsOf S d with
  | some (c', fs) => .ok (decide (c' = c) && (lk km fs).isNone) S
  | none => .no
def eMeth (c km n : Nat) (f : List D → M D) (o : EX) (t : AX) : EX := fun r => bnd (o r) fun x => bnd (isObj c km x) fun b => need b (bnd (t r) fun ds => need ((x :: ds).length == n) (f (x :: ds)))
theorem lk_none {w : Wd} {km : Nat} {m : Str} (nd : T.names.Nodup) (hm : T.names[km]? = some m) : ∀ {fs : List (Nat × D)} {ws : List (Str × V)}, RepF T w ws fs → lk km fs = none → ws.lookup m = none
  | [], _, r, _ => by cases r; rfl
  | (j, d) :: fs, _, r, h => by
    cases r with
    | cons e a b =>
      dsimp only [lk] at h
      split at h
      · cases h
      · rename_i hj
        rename_i f v ws
        have ne : (m == f) = false := by
          refine beq_eq_false_iff_ne.mpr fun q => ?_
          subst q
          exact hj (nd_ix nd e hm)
        rw [List.lookup_cons, ne]
        exact lk_none nd hm b h
theorem lk_some {w : Wd} {km : Nat} {m : Str} {d : D} (nd : T.names.Nodup) (hm : T.names[km]? = some m) : ∀ {fs : List (Nat × D)} {ws : List (Str × V)}, RepF T w ws fs → lk km fs = some d → ∃ v, ws.lookup m = some v ∧ Rep T w v d
  | [], _, r, h => by cases h
  | (j, d') :: fs, _, r, h => by
    cases r with
    | cons e a b =>
      rename_i f v ws
      dsimp only [lk] at h
      split at h
      · rename_i hj
        subst hj
        cases h
        rw [e] at hm
        cases hm
        exact ⟨v, by rw [List.lookup_cons]; simp, a⟩
      · rename_i hj
        have ne : (m == f) = false := by
          refine beq_eq_false_iff_ne.mpr fun q => ?_
          subst q
          exact hj (nd_ix nd e hm)
        rw [List.lookup_cons, ne]
        exact lk_some nd hm b h
/-- an instance, kept for good or in a cell -/
theorem obj_view {w : Wd} {H : Hp} {S : Sto} {v : V} {d : D} {c : Nat} {fs : List (Nat × D)} (k : WOk T w H S) (r : Rep T w v d) (h : fldsOf S d = some (c, fs)) : ∃ a dx ws, v = .ref a ∧ H a = some (.ins (T.C c) dx ws) ∧ RepF T w ws fs := by
  cases r with
  | @obj a c' dx ws fs' e q => cases h; exact ⟨a, dx, ws, rfl, k.fz _ _ e, q⟩
  | @ref a n e =>
    dsimp only [fldsOf] at h
    cases q : S[n]? with
    | none => rw [q] at h; cases h
    | some cc =>
      rw [q] at h
      have z := k.cell n cc a q e
      cases cc with
      | lst _ => cases h
      | obj c' fs' => cases h; obtain ⟨dx, ws, h1, h2⟩ := z; exact ⟨a, dx, ws, rfl, h1, h2⟩
  | _ => cases h
theorem isObj_post {w : Wd} {H : Hp} {S : Sto} {v : V} {d : D} {c km : Nat} {β : Type} {P : Wd → Hp → Sto → β → Prop} {R : Wd → Hp → Sto → Exc → Prop} {g : M β} (nd : T.names.Nodup) (hm : T.names[km]? = some m) (k : WOk T w H S) (r : Rep T w v d)
    (p : Post T w H P R (bnd (isObj c km d) (fun b => need b g) S)) : (∃ a dx ws, v = .ref a ∧ H a = some (.ins (T.C c) dx ws) ∧ ws.lookup m = none) ∧ Post T w H P R (g S) := by
  unfold Dm.bnd isObj at p
  cases q : fldsOf S d with
  | none => rw [q] at p; exact p.elim
  | some cf =>
    obtain ⟨c', fs⟩ := cf
    rw [q] at p
    dsimp only at p
    obtain ⟨h1, p'⟩ := Post.need p
    rw [Bool.and_eq_true] at h1
    obtain ⟨h2, h3⟩ := h1
    have e := of_decide_eq_true h2
    subst e
    obtain ⟨a, dx, ws, rfl, h4, h5⟩ := obj_view k r q
    exact ⟨⟨a, dx, ws, rfl, h4, lk_none nd hm h5 (by simpa using h3)⟩, p'⟩
theorem e_meth {c km : Nat} {g : List D → M D} {fo : EX} {a : AX} {pl : Sem Bool} (nd : T.names.Nodup) (hkm : T.names[km]? = some m) (F : FnG X.prog X.w X.K X.mg X.base k f fd ps (spD T n g)) (ck : Cok X T W k) (cl : Cls X.K (T.C c)) (hm : Meth X.K (T.C c) m f) (hb : Binds X.K fd ps [])
    (ho : PE X o (tE T W fo)) (ha : PA X (e :: es) (tA T W a)) (hst : starEach (e :: es) X.env = (false, eval e X.env) :: starEach es X.env := by rfl) (hpl : (backTo pos (starEach es X.env)).any (·.1) = false := by rfl)
    (ht : eval (.Call (.Attribute o m apos) (e :: es) [] pos) X.env = (do
      let ov ← eval o X.env
      standAt apos.atName
      let (f, first) ← holding [ov] (getMethod ov m pl)
      callWith pos f first (backTo pos (starEach (e :: es) X.env)) (backToKw pos (keywordEach [] X.env))) := by rfl) :
    PE X (.Call (.Attribute o m apos) (e :: es) [] pos) (tE T W (eMeth c km n g fo a)) := by
  refine ⟨fun pins s σ H Q I ⟨fr, w, r, S, R, q⟩ => ?_⟩
  refine PySem.W.methodCall_KW (pl := pl) (thn (ho.run pins s σ H _ I ⟨fr, w, r, S, R, Post.on (P' := fun w' H' S' d => ∀ v, Rep T w' v d → ∃ a' dx ws, v = .ref a' ∧ H' a' = some (.ins (T.C c) dx ws) ∧ ws.lookup m = none ∧ tA T W a σ H' (fun vs H2 => spD T n g (v :: vs) H2 Q (fun cls d H' => W cls d σ H'))) (Post.bnd q)
    (fun w1 H1 S1 d t kk p1 v rv => ?_) fun _ _ _ _ z => z⟩) fun u s1 ⟨v, H1, I1, rv, a', dx, ws, ev, ea, el, q1⟩ => ?_) ht
  · obtain ⟨⟨a', dx, ws, e1, e2, e3⟩, p2⟩ := isObj_post nd hkm kk rv p1
    exact ⟨a', dx, ws, e1, e2, e3, fr, w1, r, S1, R.step t kk, (Post.bnd p2).on (fun w2 H2 S2 ds t2 k2 p3 vs rvs => sp_of k2 (.cons (rv.up t2.le) rvs) (fun _ _ _ _ z => z) p3) fun _ _ _ _ z => z⟩
  · subst ev
    obtain rfl : u = Value.ref a' := rv
    refine getmeth_ok I1 ea cl hm el ?_
    exact PySem.W.callWith_K (first := [.ref a']) (h₀ := X.base) I.ok.mod.kin hm.kp (thn (ha.run pos pins s1 σ H1 _ I1 q1) fun us s2 ⟨vs, H2, I2, r2, q2⟩ => ⟨I2.kIn, call_g (us := .ref a' :: us) (vs := .ref a' :: vs) F ck hb I2 (.cons rfl r2) q2⟩) hst hpl
theorem e_meth0 {c km : Nat} {g : List D → M D} {fo : EX} {pl : Sem Bool} (nd : T.names.Nodup) (hkm : T.names[km]? = some m) (F : FnG X.prog X.w X.K X.mg X.base k f fd ps (spD T n g)) (ck : Cok X T W k) (cl : Cls X.K (T.C c)) (hm : Meth X.K (T.C c) m f) (hb : Binds X.K fd ps [])
    (ho : PE X o (tE T W fo)) (ht : eval (.Call (.Attribute o m apos) [] [] pos) X.env = (do
      let ov ← eval o X.env
      standAt apos.atName
      let (f, first) ← holding [ov] (getMethod ov m pl)
      callWith pos f first (backTo pos (starEach [] X.env)) (backToKw pos (keywordEach [] X.env))) := by rfl) :
    PE X (.Call (.Attribute o m apos) [] [] pos) (tE T W (eMeth c km n g fo aNil)) := by
  refine ⟨fun pins s σ H Q I ⟨fr, w, r, S, R, q⟩ => ?_⟩
  refine PySem.W.methodCall_KW (pl := pl) (thn (ho.run pins s σ H _ I ⟨fr, w, r, S, R, Post.on (P' := fun w' H' S' d => ∀ v, Rep T w' v d → ∃ a' dx ws, v = .ref a' ∧ H' a' = some (.ins (T.C c) dx ws) ∧ ws.lookup m = none ∧ spD T n g [v] H' Q (fun cls d H' => W cls d σ H')) (Post.bnd q)
    (fun w1 H1 S1 d t kk p1 v rv => ?_) fun _ _ _ _ z => z⟩) fun u s1 ⟨v, H1, I1, rv, a', dx, ws, ev, ea, el, q1⟩ => ?_) ht
  · obtain ⟨⟨a', dx, ws, e1, e2, e3⟩, p2⟩ := isObj_post nd hkm kk rv p1
    exact ⟨a', dx, ws, e1, e2, e3, sp_of kk (.one rv) (fun _ _ _ _ z => z) p2⟩
  · subst ev
    obtain rfl : u = Value.ref a' := rv
    refine getmeth_ok I1 ea cl hm el ?_
    exact PySem.W.callWith_K0 (first := [.ref a']) I1.kIn hm.kp (call_g (us := [.ref a']) (vs := [.ref a']) F ck hb I1 (.cons rfl .nil) q1)

/-! fields -/
/-- a field k of an instance of one of the classes cs -/
def dFld (cs : List Nat) (k : Nat) (d : D) : M D := fun S => match fldsOf S d with
  | some (c, fs) => if cs.contains c = true then match lk k fs with
    | some e => .ok e S
    | none => .no
    else .no
  | none => .no
theorem fld_sem {cs : List Nat} {km : Nat} {w : Wd} {H : Hp} {S : Sto} {v : V} {d : D} {P : Wd → Hp → Sto → D → Prop} {R : Wd → Hp → Sto → Exc → Prop} (nd : T.names.Nodup) (hkm : T.names[km]? = some m) (k : WOk T w H S) (rv : Rep T w v d)
    (p : Post T w H P R (dFld cs km d S)) : ∃ c a dx ws u e, c ∈ cs ∧ v = .ref a ∧ H a = some (.ins (T.C c) dx ws) ∧ ws.lookup m = some u ∧ Rep T w u e ∧ P w H S e := by
  unfold dFld at p
  cases q : fldsOf S d with
  | none => rw [q] at p; exact p.elim
  | some cf =>
    obtain ⟨c', fs⟩ := cf
    rw [q] at p
    dsimp only at p
    split at p
    · rename_i hc
      cases q2 : lk km fs with
      | none => rw [q2] at p; exact p.elim
      | some e =>
        rw [q2] at p
        obtain ⟨a, dx, ws, rfl, h1, h2⟩ := obj_view k rv q
        obtain ⟨u, h3, h4⟩ := lk_some nd hkm h2 q2
        exact ⟨c', a, dx, ws, u, e, by simpa using hc, rfl, h1, h3, h4, Post.ok p k⟩
    · exact p.elim
theorem e_fld {cs : List Nat} {km : Nat} {fo : EX} (nd : T.names.Nodup) (hkm : T.names[km]? = some m) (hC : ∀ c ∈ cs, Cls X.K (T.C c) ∧ NoAttr X.K (T.C c) m) (ho : PE X o (tE T W fo)) (hab : attributeBase o m X.env (eval o X.env) = eval o X.env := by rfl) :
    PE X (.Attribute o m pos) (tE T W (eUn (dFld cs km) fo)) := imE (pe_fld ho hab) fun σ H Q ⟨fr, w, r, S, R, p⟩ => ⟨fr, w, r, S, R, (Post.bnd p).on (fun w1 H1 S1 d t k p1 v rv => by
  obtain ⟨c, a, dx, ws, u, e, hc, rfl, h1, h2, h3, q⟩ := fld_sem nd hkm k rv p1
  exact ⟨a, _, dx, ws, u, rfl, h1, (hC c hc).1, (hC c hc).2, h2, q u h3⟩) fun _ _ _ _ z => z⟩

/-! properties -/
def eProp (c n : Nat) (f : List D → M D) (o : EX) : EX := fun r => bnd (o r) fun x S => match fldsOf S x with
  | some (c', _) => if c' = c ∧ n = 1 then noE (f [x]) S else .no
  | none => .no
theorem e_prop {c : Nat} {pp : Addr} {g : List D → M D} {fo : EX} (F : FnG X.prog X.w X.K X.mg X.base k f fd ps (spD T n g)) (ck : Cok X T W (k + 1)) (cl : Cls X.K (T.C c)) (hp : PropOf X.K (T.C c) m pp f) (hb : Binds X.K fd ps []) (ho : PE X o (tE T W fo)) (hab : attributeBase o m X.env (eval o X.env) = eval o X.env := by rfl) :
    PE X (.Attribute o m pos) (tE T W (eProp c n g fo)) := by
  refine ⟨fun pins s σ H Q I ⟨fr, w, r, S, R, q⟩ => ?_⟩
  refine attr_of hab (thn (ho.run pins s σ H _ I ⟨fr, w, r, S, R, Post.on (P' := fun w' H' S' d => ∀ v, Rep T w' v d → ∃ a' dx ws, v = .ref a' ∧ H' a' = some (.ins (T.C c) dx ws) ∧ spD T n g [v] H' Q E0) (Post.bnd q)
    (fun w1 H1 S1 d t kk p1 v rv => ?_) fun _ _ _ _ z => z⟩) fun u s1 ⟨v, H1, I1, rv, a', dx, ws, ev, ea, q1⟩ => ?_)
  · cases q2 : fldsOf S1 d with
    | none => rw [q2] at p1; exact p1.elim
    | some cf =>
      obtain ⟨c', fs⟩ := cf
      rw [q2] at p1
      dsimp only at p1
      split at p1
      · rename_i h
        obtain ⟨rfl, rfl⟩ := h
        obtain ⟨a', dx, ws, rfl, h1, h2⟩ := obj_view kk rv q2
        exact ⟨a', dx, ws, rfl, h1, w1, S1, [d], kk, .one rv, rfl, (Post.noE p1).on (fun _ _ _ _ _ _ z => z) fun _ _ _ _ z => z.elim⟩
      · exact p1.elim
  · subst ev
    obtain rfl : u = Value.ref a' := rv
    obtain ⟨mA, O, _, _, _, _⟩ := ins_get I1.hok ea
    obtain ⟨od, J, _⟩ := O.look
    obtain ⟨rest, hrec⟩ := hp.rec_
    have I2 := I1.tok (s1.toks + 1)
    refine PySem.W.get_bind I1.kIn J (PySem.W.plainGet_of (cl.get m)).1 (PySem.W.findObj_data ?_ hp.at_ hp.get hp.tak) (PySem.W.plainGet_of (cl.get m)).2 (wpAny_call (PySem.W.prop_get (s := { s1 with toks := s1.toks + 1 }) I1.kIn hrec ?_))
    · obtain ⟨cd, hc, _⟩ := PySem.W.any_some cl.hd
      rw [hc]
      rfl
    · refine codeAny_mono (run_g (A := X.A.in1) (E := E0) (Z := fun _ _ => False) F (Room.in1 ck.room) ck.gd hb (fun e s' z => ?_) (Env0.in1 I2.env0) I2 (us := [.ref a']) (vs := [.ref a']) (.cons rfl .nil) q1) fun r s' z => ?_
      · exact (passL (X := X.nox) pins σ H1 _ e s' (I2.wish _) z).elim
      · cases r with
        | error er => exact z.elim
        | ok fl =>
          cases fl with
          | ret u =>
            obtain ⟨v, H', I3, rv', q3⟩ := z
            show wpAny _ _ (handedOut u) _ _ _
            rw [PySem.W.handedOut_of (handed_of rv')]
            exact wpAny_pure ⟨v, H', I3, rv', q3⟩
          | next => exact z.elim
          | brk => exact z.elim
          | cont => exact z.elim

/-! static methods, by the class -/
structure SMet (K : PySem.W.Frag) (C : Addr) (mc : Value) (m : Str) (p f : Addr) : Prop where
  rd : PySem.W.readsIn K C mc = true
  ga : PySem.W.specialIn K (.ref C) "__getattribute__" = some (some (.builtin "type.__getattribute__"))
  at_ : PySem.W.findCls K (.ref C) mc m = some (.get (.builtin "staticmethod.__get__") (.ref p) .none (.ref C))
  rc : ∃ rest, PySem.W.recIn K p "staticmethod" = some (.ref f :: rest)
  kp : PySem.W.keepIn K (.ref f) = true
theorem e_stat {cn : Str} {C : Addr} {mc : Value} {pp : Addr} {g : List D → M D} {a : AX} {pl : Sem Bool} {p1 : Pos} (F : FnG X.prog X.w X.K X.mg X.base k f fd ps (spD T n g)) (ck : Cok X T W k) (sm : SMet X.K C mc m pp f) (hc : X.mg cn = some (.ref C)) (hb : Binds X.K fd ps [])
    (ha : PA X (e :: es) (tA T W a)) (hg : Gl X cn := by rfl) (hdb : (cn == ("__debug__" : Str)) = false := by decide) (hst : starEach (e :: es) X.env = (false, eval e X.env) :: starEach es X.env := by rfl) (hpl : (backTo pos (starEach es X.env)).any (·.1) = false := by rfl)
    (ht : eval (.Call (.Attribute (.Name cn p1) m apos) (e :: es) [] pos) X.env = (do
      let ov ← eval (.Name cn p1) X.env
      standAt apos.atName
      let (f, first) ← holding [ov] (getMethod ov m pl)
      callWith pos f first (backTo pos (starEach (e :: es) X.env)) (backToKw pos (keywordEach [] X.env))) := by rfl) :
    PE X (.Call (.Attribute (.Name cn p1) m apos) (e :: es) [] pos) (tE T W (eCall n g a)) := by
  refine ⟨fun pins s σ H Q I ⟨fr, w, r, S, R, q⟩ => ?_⟩
  obtain ⟨rest, hrc⟩ := sm.rc
  refine PySem.W.methodCall_KW (pl := pl) (ld_glob I hg hc ?_ hdb) ht
  refine PySem.W.method_cls I.kIn sm.ga (PySem.W.cls_bind I.kIn sm.rd sm.at_ (wpAny_call (PySem.W.sm_get (s := { s with toks := s.toks + 1 }) I.kIn hrc (PySem.W.handed_on rfl ?_))))
  have I2 := I.tok (s.toks + 1)
  exact PySem.W.callWith_K (h₀ := X.base) I.ok.mod.kin sm.kp (thn (ha.run pos pins _ σ H _ I2 ⟨fr, w, r, S, R, Post.on (P' := fun w' H' S' ds => ∀ vs, Reps T w' vs ds → spD T n g vs H' Q (fun cls d H' => W cls d σ H')) (Post.bnd q) (fun w1 H1 S1 ds t kk p1 vs rv => sp_of kk rv (fun _ _ _ _ z => z) p1) fun _ _ _ _ z => z⟩)
    fun us s1 ⟨vs, H1, I1, rv, q1⟩ => ⟨I1.kIn, call_g F ck hb I1 rv q1⟩) hst hpl
end
end Dm
set_option maxRecDepth 100000
set_option maxHeartbeats 2000000
/-! Own errors at the heap's level: made by a class whose __init__ says super().__init__(text) and stores what it was given. -/
namespace Dm
set_option autoImplicit false
open PySem PySem.Calls
abbrev xTail : List Value := [.type "Exception", .type "BaseException", .type "object"]
abbrev kTail : List Value := [.type "KeyError", .type "LookupError", .type "Exception", .type "BaseException", .type "object"]
/-- what is asked of a built-in error's __init__ -/
structure IniF (b i : String) : Prop where
  kd : builtinKind i = some .slot
  row : Manifest.signature? i = some ⟨.positional, "*", b, .self, [⟨"args", .varPos, false⟩]⟩
  star : (b != "*") = true
  sl : Slot b "__init__" i
  ent : entryFor table i = some Builtin.«BaseException.__init__»
theorem iniX : IniF "Exception" "Exception.__init__" := ⟨F.excBase_Exception.initKind, F.excBase_Exception.initRow, F.excBase_Exception.noStar, F.excBase_Exception.init, F.excBase_Exception.initEntry⟩
theorem iniK : IniF "KeyError" "KeyError.__init__" where
  kd := by kernel_rfl
  row := by kernel_rfl
  star := by decide +kernel
  sl := Slot.of (owner := "KeyError") (n := "__init__") (by rw [typeLookup_type, builtinLookup_eq_fast]; kernel_rfl) (by decide +kernel) (by decide +kernel) (by decide +kernel) (by first | exact Or.inl (by decide +kernel) | exact Or.inr (by decide +kernel)) (by rw [isSubtype_type]; kernel_rfl)
  ent := entryFor_alias (id' := "BaseException.__init__") (by rw [fastTable_eq_tree]; kernel_rfl) (by first | rfl | decide +kernel) (by decide +kernel) (by rw [fastTable_eq_tree]; kernel_rfl)
theorem kxsK : W.KxsFacts "KeyError" "KeyError.__init__" := ⟨by show builtinType _ = _; rw [builtinType_eq_fast]; kernel_rfl, by first | kernel_rfl | rfl⟩
theorem storeK : StoreFacts "KeyError" kTail "object.__setattr__" "object" where
  mro := by kernel_rfl
  slot := Slot.of (owner := "object") (n := "__setattr__") (by rw [typeLookup_type, builtinLookup_eq_fast]; kernel_rfl) (by decide +kernel) (by decide +kernel) (by decide +kernel) (by first | exact Or.inl (by decide +kernel) | exact Or.inr (by decide +kernel)) (by rw [isSubtype_type]; kernel_rfl)
  entry := PySem.F.entry_object_sa
  kind := by decide +kernel
  split := by decide +kernel
  hasOwner := by decide +kernel
  args := fun a b c => by unfold argsOk; kernel_rfl
  passes := fun self => by kernel_rfl
/-- where a class's making is led to a built-in error's that is not the nearest -/
structure NewF (mb : List Value) (b n i : String) (l : List Value) : Prop where
  F : ExcBaseFacts b n i l
  hb : mb.contains (.type b) = true
  ha : mb.contains (.type "AttributeError") = false
  hn : mb.contains (.type "NameError") = false
theorem newX : NewF xTail "Exception" "Exception.__new__" "Exception.__init__" xTail := ⟨F.excBase_Exception, by decide +kernel, by decide +kernel, by decide +kernel⟩
theorem newK : ∃ i l, NewF kTail "LookupError" "LookupError.__new__" i l := ⟨_, _, F.excBase_LookupError, by decide +kernel, by decide +kernel, by decide +kernel⟩

section
variable {M : Model} {A : Around} {E : Value → Shared → Prop} {hp : Heap} {gs : Array GenState} {dr : Drawn} {tk : Nat} {os : OsState}
variable {cn cq : Str} {c ns : Addr} {cb ml mb l : List Value} {hd : Bool} {sn : List Str} {su : List Value} {ab : Bool} {co : Option Bool} {dc : Option Addr} {z0 z1 z2 z3 z5 : Option Value} {b n i : String}
abbrev ClsO (cn cq : Str) (c ns : Addr) (cb ml : List Value) (hd : Bool) (sn : List Str) (su : List Value) (ab : Bool) (co : Option Bool) (dc : Option Addr) (z0 z1 z2 z3 z5 : Option Value) (n : String) : Obj := excClassObj cn cq c ns cb ml hd sn su ab co dc z0 z1 z2 z3 z5 n
theorem chk_new (N : NewF mb b n i l) (hm : ∀ Y : String, ml.contains (.type Y) = mb.contains (.type Y)) {us : List Value} {Q : Unit → Shared → Prop}
    (hc : hp.get? c = some (ClsO cn cq c ns cb ml hd sn su ab co dc z0 z1 z2 z3 z5 n)) (q : Q () ⟨hp, gs, dr, tk, os⟩) : wpAny M A (checkBuiltinCall n ⟨.ref c :: us, []⟩) Q E ⟨hp, gs, dr, tk, os⟩ := by
  have hcont : (Value.ref c :: ml).contains (.type b) = true := by rw [List.contains_cons, hm, N.hb, Bool.or_true]
  have hstar := N.F.noStar
  simp only [checkBuiltinCall, N.F.newKind, N.F.newSplit, N.F.newRow]
  repeat (first | refine wpAny_loadPart_at hc ?_ | (refine wpAny_isSubtype_exc hc ?_; rw [hcont]) | refine wpAny_staticBase_exc hc ?_ | refine wpAny_madeBy_exc hc ?_ | simp only [bne_self_eq_false, Bool.false_eq_true, if_false] | wp_step)
  exact q
end
section
variable {P : Program} {w : World} {A : Around} {E : Value → Shared → Prop} {Z : Result → Shared → Prop} {hp : Heap} {gs : Array GenState} {dr : Drawn} {tk : Nat} {os : OsState}
variable {cn cq : Str} {c ns : Addr} {cb ml mb l : List Value} {hd : Bool} {sn : List Str} {su : List Value} {ab : Bool} {co : Option Bool} {dc : Option Addr} {z0 z1 z2 z3 z5 : Option Value} {b n i : String}
abbrev xTup (us : List Value) : Obj := { cls := .type "tuple", data := .seq us.toArray }
abbrev xObj (c t : Addr) (d : Option Addr) : Obj := { cls := .ref c, dict := d, data := .fields #[.ref t, .none, .none, .none, .bool false, .none] }
theorem new_x (N : NewF mb b n i l) (hm : ∀ Y : String, ml.contains (.type Y) = mb.contains (.type Y)) {us : List Value} (hc : hp.get? c = some (ClsO cn cq c ns cb ml hd sn su ab co dc z0 z1 z2 z3 z5 n))
    (q : Z (.ok (.ret (.ref (hp.objs.size + 1)))) ⟨(hp.push (xTup us)).push (xObj c hp.objs.size none), gs, dr, tk, os⟩) (hl : us.length ≤ sizeLine) :
    codeAny (model P w) A (.builtin n ⟨.ref c :: us, []⟩) Z ⟨hp, gs, dr, tk, os⟩ := by
  have hends := N.F.ends
  have h1 : (Value.ref c :: ml).contains (.type b) = true := by rw [List.contains_cons, hm, N.hb, Bool.or_true]
  have h2 : (Value.ref c :: ml).contains (.type "AttributeError") = false := by rw [List.contains_cons, hm, N.ha]; rfl
  have h3 : (Value.ref c :: ml).contains (.type "NameError") = false := by rw [List.contains_cons, hm, N.hn]; rfl
  refine codeAny_builtinAt N.F.entry ?_
  unfold Builtin.«BaseException.__new__»
  refine wpAt_bind ?_
  show wpAt _ _ _ (stack >>= _) _ _ _
  refine wpAt_bind (wpAt_stack fun p below => wpAt_of_wpAny ?_)
  wp_walk
  refine wpAt_of_wpAny ?_
  rw [N.F.owner]
  repeat (first | with_reducible refine wpAny_madeHere_exc N.F.canon hc ?_ | with_reducible refine wpAny_loadPart_at hc ?_ | (with_reducible refine wpAny_isSubtype_exc hc ?_; first | rw [h1] | rw [h2] | rw [h3]) | wp_step)
  show Z _ _
  rw [Heap.size_push]
  exact q
theorem tcall_x (N : NewF mb b n i l) (hm : ∀ Y : String, ml.contains (.type Y) = mb.contains (.type Y)) {us : List Value} {fi : Addr} {Q : Fin → Shared → Prop} (hc : hp.get? c = some (ClsO cn cq c ns cb ml hd sn su ab co dc z0 z1 z2 z3 z5 n))
    (hi : W.Looks (model P w) hp (typeLookup (.ref c) "__init__") (some (.ref fi))) (hb : ∀ self, W.Looks (model P w) hp (bindSpecial (.ref fi) self) (.ref fi, [self])) (hl : us.length ≤ sizeLine)
    (q : codeAny (model P w) A (.call (.ref fi) ⟨.ref (hp.objs.size + 1) :: us, []⟩) (fun r s' => match r with | .ok (.ret v) => v = .none ∧ Q (.done (.ret (.ref (hp.objs.size + 1)))) s' | .ok _ => False | .error e => E e s') ⟨(hp.push (xTup us)).push (xObj c hp.objs.size none), gs, dr, tk, os⟩) :
    wpAny (model P w) A (Builtin.«type.__call__» ⟨.ref c :: us, []⟩) Q E ⟨hp, gs, dr, tk, os⟩ := by
  repeat (first | with_reducible refine wpAny_loadPart_at hc ?_ | with_reducible refine wpAny_madeBy_exc hc ?_ | wp_step)
  refine codeAny_call_builtin_code (Code.quiet_builtin _ N.F.quiet) (chk_new N hm hc (new_x N hm hc ?_ hl))
  show wpAny _ _ _ _ _ _
  have up : ∀ y o, hp.get? y = some o → ((hp.push (xTup us)).push (xObj c hp.objs.size none)).get? y = some o := fun y o e => Heap.get?_push_of_some _ (Heap.get?_push_of_some _ e)
  have hc1 := up _ _ hc
  have hx : ((hp.push (xTup us)).push (xObj c hp.objs.size none)).get? (hp.objs.size + 1) = some (xObj c hp.objs.size none) := by heap_get
  have hself : (Value.ref c :: ml).contains (.ref c) = true := by simp
  have i1 := hi.keeps up
  have b1 := (hb (.ref (hp.objs.size + 1))).keeps up
  unfold isInstance
  repeat (first | with_reducible refine wpAny_loadPart_at hx ?_ | (with_reducible refine wpAny_isSubtype_exc hc1 ?_; rw [hself]) | wp_step)
  show wpAny _ _ (typeLookup (.ref c) _) _ _ _
  refine i1.at (wpAny_holding (wpAny_bind (b1.at (wpAny_bind (wpAny_call (codeAny_mono q fun r s' z => ?_))))))
  rcases r with e | (v | _ | _ | _) <;> first | exact z | exact z.elim | skip
  obtain ⟨rfl, z⟩ := z
  first
    | exact wpAny_pure (wpAny_pure z)
    | (wp_walk; exact z)
theorem call_x (N : NewF mb b n i l) (hm : ∀ Y : String, ml.contains (.type Y) = mb.contains (.type Y)) {us : List Value} {fi : Addr} (hc : hp.get? c = some (ClsO cn cq c ns cb ml hd sn su ab co dc z0 z1 z2 z3 z5 n))
    (hi : W.Looks (model P w) hp (typeLookup (.ref c) "__init__") (some (.ref fi))) (hb : ∀ self, W.Looks (model P w) hp (bindSpecial (.ref fi) self) (.ref fi, [self])) (hl : us.length ≤ sizeLine)
    (q : codeAny (model P w) (A.under (.builtin "type.__call__" ⟨.ref c :: us, []⟩)) (.call (.ref fi) ⟨.ref (hp.objs.size + 1) :: us, []⟩) (W.InitBack (hp.objs.size + 1) Z) ⟨(hp.push (xTup us)).push (xObj c hp.objs.size none), gs, dr, tk, os⟩) :
    codeAny (model P w) A (.call (.ref c) ⟨us, []⟩) Z ⟨hp, gs, dr, tk, os⟩ := by
  have f1 := PySem.tc_lookup
  have f2 := PySem.tc_bind (.ref c)
  have ty : (⟨hp, gs, dr, tk, os⟩ : Shared).TypeIs (.ref c) "type" := ⟨_, hc, rfl⟩
  refine codeAny_of_tree ?_
  show wpAny _ _ (callAny (.ref c) _) _ _ _
  repeat (any_goals (first | assumption | with_reducible refine wpAny_loadPart_at hc ?_ | wp_step))
  refine ⟨rfl, codeAny_call_builtin_at (Code.quiet_builtin _ (by decide +kernel)) PySem.entry_typeCall (PySem.wpAny_check_type_call_sub hc (tcall_x N hm hc hi hb hl (codeAny_mono q fun r s' z => ?_)))⟩
  rcases r with e | (v | _ | _ | _) <;> exact z
/-- super().__init__(..) when the wrapper is at hand -/
theorem wrap_x {u e t0 : Addr} {us : List Value} {Q : Value → Shared → Prop} (J : IniF b i) (hc : hp.get? c = some (ClsO cn cq c ns cb ml hd sn su ab co dc z0 z1 z2 z3 z5 n)) (he : hp.get? e = some (xObj c t0 none)) (hu : hp.get? u = some (W.kxs_mw i e)) (hl : us.length ≤ sizeLine)
    (q : ∀ h' t1, (∀ y o, y ≠ e → hp.get? y = some o → h'.get? y = some o) → h'.get? e = some (xObj c t1 none) → Q .none ⟨h', gs, dr, tk, os⟩) : wpAny (model P w) A (call (.ref u) us) Q E ⟨hp, gs, dr, tk, os⟩ := by
  refine wpAny_call (codeAny_of_tree ?_)
  show wpAny _ A.in1 (callAny (.ref u) ⟨us, []⟩) _ _ _
  simp only [callAny]
  refine wpAny_bind (wpAny_load hu ?_)
  simp only [W.kxs_mw, show (Value.type "method-wrapper" == Value.type "method" || Value.type "method-wrapper" == Value.type "builtin_function_or_method" || Value.type "method-wrapper" == Value.type "method-wrapper") = true by decide, if_true]
  refine W.KFB.if_so (by decide) (wpAny_bind ?_)
  have hstar := J.star
  simp only [checkBoundCall, J.kd, J.row]
  repeat (first | (with_reducible refine wpAny_loadPart_at he ?_; rw [show (xObj c t0 none).cls = .ref c from rfl]) | with_reducible refine wpAny_loadPart_at hc ?_ | wp_step)
  refine wpAny_onRaise ?_
  rw [show ∀ (x y : String) (k : Nat), Bind.check ⟨.positional, "*", b, .self, [⟨"args", .varPos, false⟩]⟩ x y k (List.map (fun x => x.fst) ({ pos := Value.ref e :: us } : Args).kw) = pure () from fun x y k => check_star_args _ _ _ _ _ _]
  refine wpAny_pure (wpAny_bind (wpAny_pure (wpAny_pure ?_)))
  refine ⟨PySem.plainId_quiet J.sl.plain _, codeAny_builtin J.ent (W.exc_init_tree (cls := .ref c) (t0 := t0) (dv := none) (c2 := .none) (c3 := .none) (b4 := .bool false) he hl fun h' k' e' _ => ?_)⟩
  exact q h' _ k' e'
end
end Dm
set_option maxRecDepth 100000
set_option maxHeartbeats 2000000
/-! The __init__ of an own error, run. -/
namespace Dm
set_option autoImplicit false
open PySem PySem.Calls
/-- self.f = f, one by one -/
inductive StoreL : List Str → List Stmt → Prop
  | nil : StoreL [] []
  | cons {f : Str} {fs : List Str} {r : List Stmt} {p1 p2 p3 p4 : Pos} : StoreL fs r → StoreL (f :: fs) (.Assign [.Attribute (.Name "self" p1) f p2] (.Name f p3) p4 :: r)
/-- what the written part says of an own error's class -/
structure ErrT (P : Program) (K : PySem.W.Frag) (mg : Str → Option Value) (cn : Str) (fs : List Str) (mb : List Value) (b i : String) (c fi : Addr) : Prop where
  gC : mg cn = some (.ref c)
  kC : PySem.W.keepIn K (.ref c) = true
  ini : ∃ nb nn ni nl, NewF mb nb nn ni nl ∧ PySem.W.excInitIn K c mb nn = true
  iF : IniF b i
  kF : PySem.W.KxsFacts b i
  sF : StoreFacts b mb "object.__setattr__" "object"
  ov : PySem.W.excOver K c mb = true
  sa : PySem.W.findIn K (.ref c) "__setattr__" = some (some (.builtin "object.__setattr__"))
  ic : PySem.W.findIn K (.ref c) "__init__" = some (some (.ref fi))
  ti : PySem.W.isFn K (.ref fi) = true
  tk : ∀ f ∈ fs, PySem.W.takerIn K c f = some none
  hd : PySem.W.hasDictIn K c = true
  bs : PySem.W.subIn K (.ref c) (.type b) = some true
  xs : PySem.W.subIn K (.ref c) (.type "BaseException") = some true
  ty : PySem.W.typeIn K (.ref c) = some (.type "type")
  mr : PySem.W.mroIn K c (.ref c) = some true
  cl : ∃ cd, PySem.W.clsIn K c = some cd
  sup : PySem.W.ks_superIn K c c "__init__" = some (some (.builtin i))
  opq : PySem.W.nsIn K cStatics "thirdparty.any" = some none
  sg : mg "super" = none
  sm : (P.main.scope.names.lookup ("super" : Str)).isSome = false
  nd : fs.Nodup
  ns : ("self" : Str) ∉ fs
  few : fs.length ≤ 100
  fn : ∃ (x qual : Str) (scope : Scope) (dV kV doc pm ct oc : Value) (an od : Option Addr) (osl : Array (Option Value)) (cc cda : Addr) (params : Arguments) (body : List Stmt) (text : Str) (j : Nat) (p0 p1 p2 p3 p4 p5 : Pos) (r : List Stmt) (ar : Arg) (vs : Array Value) (file : Str) (tf : Tok) (ccl cv : Value) (cdd cld : Option Addr) (ccs csl : Array (Option Value)),
    K.lookup fi = some ⟨oc, od, .func (PySem.W.ksFn x qual params body scope dV kV doc pm an (.ref cda) ct cc), osl⟩ ∧ PySem.W.codeIn K (.ref cda) qual = true ∧
    body = .Expr (.Call (.Attribute (.Call (.Name "super" p0) [] [] p1) "__init__" p2) [.Constant (.str text) j p3] [] p4) p5 :: r ∧ StoreL fs r ∧
    (params.posonlyargs ++ params.args).head? = some ar ∧ ar.arg = "self" ∧
    K.lookup cda = some ⟨ccl, cdd, .fields vs, ccs⟩ ∧ vs[2]? = some (.str file tf) ∧ ((P.main.file : Str) == file) = true ∧ (p2.endLine == p4.line) = true ∧
    K.lookup cc = some ⟨cv, cld, .cell (some (.ref c)), csl⟩ ∧
    scope.names.lookup ("super" : Str) = some .globalImplicit ∧ scope.names.lookup ("__class__" : Str) = some .free ∧ (∀ y ∈ ("self" : Str) :: fs, scope.names.lookup y = some .local) ∧ (∀ y ∈ ("self" : Str) :: fs, (y == ("__debug__" : Str)) = false) ∧
    scope.kind = .function ∧ scope.isCoroutine = false ∧ scope.isGenerator = false ∧ (∀ y ∈ scope.names, y.2 ≠ .cell) ∧
    (∀ (s : Shared) (us : List Value), us.length = fs.length + 1 → BindsTo s (PySem.W.ksFn x qual params body scope dV kV doc pm an (.ref cda) ct cc) ⟨us, []⟩ ((("self" : Str) :: fs).zip us))

section
variable {P : Program} {w : World} {A : Around} {E : Value → Shared → Prop} {K : PySem.W.Frag} {c x L : Addr} {env : Env} {mb : List Value} {b : String}
theorem ld_l {s : Shared} {m : Str → Option Value} {y : Str} {pos : Pos} {v : Value} {Q : Value → Shared → Prop} (hk : env.scope.kind = .function) (hl : env.scope.names.lookup y = some .local) (hd : (y == ("__debug__" : Str)) = false) (hL : env.locals = L) (hn : s.heap.Ns L m) (hv : m y = some v) (q : Q v s) :
    wpAny (model P w) A (eval (.Name y pos) env) Q E s := by
  subst hL
  exact wpAny_Name (wpAny_loadName_local hk hl hn hv q) hd
/-- a field stored, the errors' dict being there -/
theorem store_x {s : Shared} {t dx : Addr} {f : Str} {u : Value} {mA : Str → Option Value} {nl : List Str} {Q : Unit → Shared → Prop} (SF : StoreFacts b mb "object.__setattr__" "object") (X : K.In s.heap) (ov : PySem.W.excOver K c mb = true) (sa : PySem.W.findIn K (.ref c) "__setattr__" = some (some (.builtin "object.__setattr__")))
    (tk : PySem.W.takerIn K c f = some none) (hd : PySem.W.hasDictIn K c = true) (hx : s.heap.get? x = some (xObj c t (some dx))) (hn : s.heap.Ns1 dx mA) (hw : Within mA nl) (hz : nl.length ≤ 1000)
    (q : ∀ h' tk', (∀ y o, y ≠ dx → s.heap.get? y = some o → h'.get? y = some o) → h'.Ns1 dx (fun y => if y = f then some u else mA y) → Q () { s with heap := h', toks := tk' }) :
    wpAny (model P w) A (setAttr (.ref x) f u) Q E s := by
  obtain ⟨hp, gs, dr, tk0, os⟩ := s
  obtain ⟨oD, eD, pD, hoD, hdD, _⟩ := hn.count hw
  obtain ⟨cd, hc, hd'⟩ := PySem.W.any_some hd
  refine PySem.W.set_plain (ox := xObj c t (some dx)) (od := some oD) X ⟨hx, rfl, rfl, hoD⟩ sa ?_
  refine PySem.W.osa_openX (s := ⟨hp, gs, dr, tk0 + 1, os⟩) (od := some oD) SF X ⟨hx, rfl, rfl, hoD⟩ ov tk fun bb => ?_
  refine wpAny_bind (wpAny_pure (wpAny_bind (wpAny_bind (wpAny_loadPart hx (wpAny_bind ((PySem.W.looks_clsIn X hc).at ?_))))))
  rw [hd']
  refine wpAny_pure (a := some dx) ?_
  exact ESX.store_in_old hn hw hz fun h' tk' n' sb => q h' tk' (fun y o hy e => (sb.2 y hy).trans e) n'
/-- the first one -/
theorem store_x0 {s : Shared} {t : Addr} {f : Str} {u : Value} {Q : Unit → Shared → Prop} (SF : StoreFacts b mb "object.__setattr__" "object") (X : K.In s.heap) (ov : PySem.W.excOver K c mb = true) (sa : PySem.W.findIn K (.ref c) "__setattr__" = some (some (.builtin "object.__setattr__")))
    (tk : PySem.W.takerIn K c f = some none) (hd : PySem.W.hasDictIn K c = true) (hx : s.heap.get? x = some (xObj c t none))
    (q : ∀ h' tk' dx, (∀ y o, y ≠ x → s.heap.get? y = some o → h'.get? y = some o) → s.heap.objs.size ≤ dx → dx ≠ x → h'.get? x = some (xObj c t (some dx)) → h'.Ns1 dx (fun y => if y = f then some u else none) → Q () { s with heap := h', toks := tk' }) :
    wpAny (model P w) A (setAttr (.ref x) f u) Q E s := by
  obtain ⟨hp, gs, dr, tk0, os⟩ := s
  obtain ⟨cd, hc, hd'⟩ := PySem.W.any_some hd
  have hx' : hp.get? x = some (xObj c t none) := hx
  have hxs : x ≠ hp.objs.size := Nat.ne_of_lt (Heap.lt_size hx')
  refine PySem.W.set_plain (ox := xObj c t none) (od := none) X ⟨hx, rfl, rfl, trivial⟩ sa ?_
  refine PySem.W.osa_openX (s := ⟨hp, gs, dr, tk0 + 1, os⟩) (od := none) SF X ⟨hx, rfl, rfl, trivial⟩ ov tk fun bb => ?_
  refine wpAny_bind (wpAny_pure (wpAny_bind (PySem.W.instanceDict_exc hx (PySem.W.looks_clsIn X hc) hd' ?_)))
  show wpAny _ _ (Builtin.ObjectAttr.storeInDict hp.objs.size (.str f tk0) f u) _ _ _
  refine HandSPX.store_in_new ⟨_, #[], _, (Heap.get?_update_ne _ _ _ _ hxs.symm).trans (Heap.get?_push_at rfl rfl), rfl, fun e he => absurd he (by simp), fun _ => rfl⟩ fun h' tk' hn' hs => ?_
  have hx1 : (hp.push (PySem.W.dictOf [] 0)).get? x = some (xObj c t none) := Heap.get?_push_of_some _ hx
  refine q h' tk' hp.objs.size (fun y o hy ho => ?_) (Nat.le_refl _) hxs.symm ?_ hn'
  · exact (hs.2 y (Nat.ne_of_lt (Heap.lt_size ho))).trans ((Heap.get?_update_ne _ _ _ _ hy).trans (Heap.get?_push_of_some _ ho))
  · exact (hs.2 x hxs).trans (Heap.get?_update_self _ hx1 rfl)
theorem stores_x {t dx : Addr} {m : Str → Option Value} {Q : Flow → Shared → Prop} (SF : StoreFacts b mb "object.__setattr__" "object") (ov : PySem.W.excOver K c mb = true) (sa : PySem.W.findIn K (.ref c) "__setattr__" = some (some (.builtin "object.__setattr__")))
    (hd : PySem.W.hasDictIn K c = true) (hk : env.scope.kind = .function) (hL : env.locals = L) (hself : env.scope.names.lookup ("self" : Str) = some .local) (nx : K.lookup dx = none) (hLd : L ≠ dx) (hxd : x ≠ dx) (mx : m "self" = some (.ref x)) :
    ∀ {fs : List Str} {r : List Stmt} (S : StoreL fs r) (us : List Value) (s : Shared) (mA : Str → Option Value) (nl : List Str), fs.length = us.length → fs.Nodup → (∀ y ∈ fs, env.scope.names.lookup y = some .local ∧ (y == ("__debug__" : Str)) = false ∧ PySem.W.takerIn K c y = some none) →
      (∀ (i : Nat) (y : Str) (u : Value), fs[i]? = some y → us[i]? = some u → m y = some u) → K.In s.heap → s.heap.Ns L m → s.heap.get? x = some (xObj c t (some dx)) → s.heap.Ns1 dx mA → Within mA nl → nl.length + fs.length ≤ 1000 →
      (∀ h' tk' mB, (∀ y o, y ≠ dx → s.heap.get? y = some o → h'.get? y = some o) → h'.Ns1 dx mB → (∀ y, mB y = match (fs.zip us).lookup y with
        | some v => some v
        | none => mA y) → Q .next { s with heap := h', toks := tk' }) → wpAny (model P w) A (execs r env) Q E s := by
  intro fs r S
  induction S with
  | nil => exact fun us s mA nl _ _ _ _ X hn hx hD hw hz q => wpAny_execs_nil (q s.heap s.toks mA (fun _ _ _ e => e) hD fun y => by simp)
  | @cons f fs r p1 p2 p3 p4 S ih =>
    intro us s mA nl hl nd hf hv X hn hx hD hw hz q
    cases us with
    | nil => cases hl
    | cons u us =>
      obtain ⟨f1, f2, f3⟩ := hf f List.mem_cons_self
      refine wpAny_execs_cons (plainObj_wpAny_Assign_Attribute (ld_l hk f1 f2 hL hn (hv 0 f u rfl rfl) (ld_l hk hself rfl hL hn mx ?_)))
      refine store_x SF X ov sa f3 hd hx hD hw (by omega) fun h1 tk1 k1 n1 => ?_
      have X1 : K.In h1 := fun a o e => k1 a o (fun z => by rw [z, nx] at e; cases e) (X a o e)
      refine ih us _ _ (f :: nl) (by simpa using hl) nd.tail (fun y hy => hf y (List.mem_cons_of_mem _ hy)) (fun i y v a b => hv (i + 1) y v a b) X1 ?_ (k1 _ _ hxd hx) n1 (hw.cons f u) (by simp only [List.length_cons] at hz ⊢; omega) fun h2 tk2 mB k2 n2 e2 => ?_
      · obtain ⟨oL, es, ep, eL, rr⟩ := hn
        exact ⟨oL, es, ep, k1 _ _ hLd eL, rr⟩
      · refine q h2 tk2 mB (fun y o hy e => k2 y o hy (k1 y o hy e)) n2 fun y => ?_
        rw [e2 y, List.zip_cons_cons, List.lookup_cons]
        by_cases z : y = f
        · subst z
          have : (fs.zip us).lookup y = none := by
            rw [List.lookup_eq_none_iff]
            intro p hp
            have hz := (List.of_mem_zip hp).1
            have ne : y ≠ p.1 := fun q => (List.nodup_cons.mp nd).1 (q ▸ hz)
            simpa using ne
          simp [this]
        · have zb : (y == f) = false := beq_eq_false_iff_ne.mpr z
          rw [zb]
          simp [z]
end
section
variable {P : Program} {w : World} {A : Around} {Z : Result → Shared → Prop} {K : PySem.W.Frag} {mg : Str → Option Value} {c fi x : Addr} {cn : Str} {fs : List Str} {mb : List Value} {b i : String}
theorem sup_call {env : Env} {p0 p1 p2 p3 p4 : Pos} {text : Str} {j : Nat} (hline : (p2.endLine == p4.line) = true) : ∃ pl, eval (.Call (.Attribute (.Call (.Name "super" p0) [] [] p1) "__init__" p2) [.Constant (.str text) j p3] [] p4) env = (do
    let ov ← attributeBase (.Call (.Name "super" p0) [] [] p1) "__init__" env (eval (.Call (.Name "super" p0) [] [] p1) env)
    standAt p2.atName
    let (f, first) ← holding [ov] (getMethod ov "__init__" pl)
    callWith p4 f first (backTo p4 (starEach [.Constant (.str text) j p3] env)) []) := by
  refine ⟨(do return (← importBound (.Call (.Name "super" p0) [] [] p1) env).getD true), ?_⟩
  have key : ∀ ov, methodCall (.Call (.Name "super" p0) [] [] p1) "__init__" p2 p4 env ov 1 (backTo p4 (starEach [.Constant (.str text) j p3] env)) [] = (do
      let (f, first) ← holding [ov] (getMethod ov "__init__" (do return (← importBound (.Call (.Name "super" p0) [] [] p1) env).getD true))
      callWith p4 f first (backTo p4 (starEach [.Constant (.str text) j p3] env)) []) := fun ov => by
    have hf : methodCallForm 1 (backTo p4 (starEach [.Constant (.str text) j p3] env)) [] = true := rfl
    unfold methodCall calleeOf methodCallPos
    rw [hf]
    simp only [if_true, Bool.not_true, Bool.false_or, hline, pure_bind]
  show (attributeBase _ _ env _ >>= fun ov => standAt p2.atName >>= fun _ => methodCall (.Call (.Name "super" p0) [] [] p1) "__init__" p2 p4 env ov 1 (backTo p4 (starEach [.Constant (.str text) j p3] env)) []) = _
  congr 1
  funext ov
  congr 1
  funext _
  exact key ov
theorem lookup_of_mem : ∀ {l : List (Str × Value)} {y : Str} {u : Value}, (l.map (·.1)).Nodup → (y, u) ∈ l → l.lookup y = some u
  | [], _, _, _, h => by cases h
  | (z, v) :: l, y, u, nd, h => by
    rw [List.map_cons, List.nodup_cons] at nd
    rcases List.mem_cons.mp h with e | h
    · cases e; simp [List.lookup_cons]
    · have ne : y ≠ z := fun q => nd.1 (by rw [← q]; exact List.mem_map_of_mem (f := (·.1)) h)
      rw [List.lookup_cons, beq_eq_false_iff_ne.mpr ne]
      exact lookup_of_mem nd.2 h
theorem init_x (T : ErrT P K mg cn fs mb b i c fi) {s : Shared} {t0 : Addr} {us : List Value} {mq : Str → Option Value} (X : K.In s.heap) (hg : s.heap.Ns mainGlobals mg) (hb : s.heap.Ns builtinsNs mq) (hs : mq "super" = some (.type "super")) (lim : s.heap.NoLimit)
    (hx : s.heap.get? x = some (xObj c t0 none)) (nx : K.lookup x = none) (nk : ∀ y, s.heap.objs.size ≤ y → K.lookup y = none) (room : A.depth < recursionLimit) (hl : us.length = fs.length) (h0 : fs ≠ [])
    (q : ∀ h' tk dx t1 mB, (∀ y o, y ≠ x → s.heap.get? y = some o → h'.get? y = some o) → s.heap.objs.size ≤ dx → dx ≠ x → h'.get? x = some (xObj c t1 (some dx)) → h'.Ns1 dx mB → (∀ y, mB y = (fs.zip us).lookup y) → Z (.ok (.ret .none)) { s with heap := h', toks := tk }) :
    codeAny (model P w) A (.call (.ref fi) ⟨.ref x :: us, []⟩) Z s := by
  obtain ⟨xx, qual, scope, dV, kV, doc, pm, ct, oc, an, od, osl, cc, cda, params, body, text, j, p0, p1, p2, p3, p4, p5, r, ar, vs, file, tf, ccl, cv, cdd, cld, ccs, csl, ho, hcd, hbody, S, hh, har, hcda, hvs, hfile, hline, hcell, hks, hkc, hloc, hdb, hk, hco, hgen, hnc, hbind⟩ := T.fn
  obtain ⟨cd, hcl⟩ := T.cl
  obtain ⟨nb, nn, ni, nl, NF, hini⟩ := T.ini
  subst hbody
  have zlen : ((("self" : Str) :: fs).zip (.ref x :: us)).length = fs.length + 1 := by rw [List.length_zip]; simp [hl]
  refine ks_codeAny_call_defAt (binds := (("self" : Str) :: fs).zip (.ref x :: us)) room (X _ _ ho) rfl lim (PySem.W.codeRec_of X hcd) rfl (hbind s (.ref x :: us) (by simp [hl])) hnc (fun y hy => hloc y.1 (List.of_mem_zip hy).1) (fun h1 n1 k1 => ?_) hco hgen hk
  obtain ⟨hp, gs, dr, tk0, os⟩ := s
  have X1 : K.In h1 := X.keeps k1
  have x1 : h1.get? x = some (xObj c t0 none) := k1 _ _ hx
  have hxL : x ≠ hp.objs.size := Nat.ne_of_lt (Heap.lt_size hx)
  obtain ⟨oD, hD1, hD2⟩ : ∃ oD, h1.get? c = some oD ∧ oD.data = .cls cd := by
    unfold PySem.W.clsIn at hcl
    split at hcl
    · rename_i c0 d0 cd0 sl0 ho0
      cases hcl
      exact ⟨_, X1 _ _ ho0, rfl⟩
    · cases hcl
  have hcx : x ≠ c := fun z => by
    rw [← z, x1] at hD1
    cases hD1; cases hD2
  have nds : (("self" : Str) :: fs).Nodup := List.nodup_cons.mpr ⟨T.ns, T.nd⟩
  have look : ∀ (k : Nat) (y : Str) (u : Value), (("self" : Str) :: fs)[k]? = some y → (Value.ref x :: us)[k]? = some u → ((("self" : Str) :: fs).zip (.ref x :: us)).reverse.lookup y = some u := fun k y u e1 e2 => by
    have hm : (y, u) ∈ ((("self" : Str) :: fs).zip (.ref x :: us)).reverse := by
      rw [List.mem_reverse]
      refine List.mem_of_getElem? (i := k) ?_
      rw [List.getElem?_zip_eq_some]
      exact ⟨e1, e2⟩
    have hn : (((("self" : Str) :: fs).zip (.ref x :: us)).reverse.map (·.1)).Nodup := by
      rw [List.map_reverse]
      refine (List.reverse_perm _).nodup_iff.mpr ?_
      have e : ((("self" : Str) :: fs).zip (.ref x :: us)).map (·.1) = ("self" : Str) :: fs := List.map_fst_zip (by simp [hl])
      rw [e]; exact nds
    exact lookup_of_mem hn hm
  have mself := look 0 "self" (.ref x) rfl rfl
  obtain ⟨pl, hpl⟩ := sup_call (env := PySem.W.ksEnv qual scope hp.objs.size fi (.ref cda) cc) (p0 := p0) (p1 := p1) (p3 := p3) (text := text) (j := j) hline
  have hint : interactive (PySem.W.ksEnv qual scope hp.objs.size fi (.ref cda) cc) = false := by
    unfold interactive
    simp [hk]
  refine ks_wpAt_execs_cons (ks_wpAt_Expr_any (ks_wpAt_MethodCall (pl := pl) ?_ hpl) hint)
  refine ks_wpAt_super_base (ar := ar) hks hkc (by decide) rfl (X1 _ _ ho) rfl hh rfl (X1 _ _ hcda) rfl hvs hfile T.sm ?_
  refine PySem.W.ks_loadName_global hk hks (loadGlobal_builtin (env := PySem.W.ksEnv qual scope hp.objs.size fi (.ref cda) cc) (hg.keeps k1) T.sg (hb.keeps k1) hs ⟨rfl, ?_⟩)
  refine wpAny_loadName_free hk hkc rfl ⟨_, X1 _ _ hcell, rfl⟩ ?_
  rw [har]
  refine wpAny_loadName_local hk (hloc "self" List.mem_cons_self) n1 mself ?_
  refine ks_wpAny_isType_cls hD1 hD2 ⟨rfl, ?_⟩
  refine ks_wpAny_call_super hD1 hD2 x1 rfl (fun _ e => by cases e) (PySem.W.looks_mroIn X1 T.mr) (fun h2 e2 k2 => ?_)
  have X2 : K.In h2 := X1.keeps k2
  have x2 := k2 _ _ x1
  have I2 : PySem.W.InstAt h2 x (xObj c t0 none) c none := ⟨x2, rfl, rfl, trivial⟩
  have sup := T.sup
  unfold PySem.W.ks_superIn at sup
  rw [hcl] at sup
  refine PySem.W.kxs_getMethod T.kF e2 (PySem.W.looks_opaque X2 T.opq) (l₀ := cd.mro) (fun A Q E s k q => wpAny_bind ((PySem.W.looks_clsIn X2 hcl) A _ E s k (wpAny_pure q))) rfl X2 sup (I2.type.andThen (PySem.W.looks_subIn X2 T.bs)) hcx (by decide) ?_
  show wpAny _ _ (callWith p4 (.ref h2.objs.size) [] (backTo p4 ((false, eval (.Constant (.str text) j p3) _) :: starEach [] _)) []) _ _ _
  refine PySem.W.kxs_callWith (i := i) (x := x) rfl (evalArgs_plain (spliced_cons (Constant_str (x := text) (k := j) (pos := p3) (spliced_nil ⟨?_, ?_⟩))))
  · exact Heap.get?_push_at rfl rfl
  · obtain ⟨nm, ns, qn, bs, bm, hdct, sn, sub, ab, col, dd, k0, k1', k2', k3, k5, hC, hT⟩ := PySem.W.excInit_of X2 hini
    refine wrap_x T.iF (Heap.get?_push_of_some _ hC) (Heap.get?_push_of_some _ x2) (Heap.get?_push_at rfl rfl) (by rw [PySem.sizeLine_eq]; exact (by decide : 1 ≤ 16777216)) fun h3 t1 k3' x3 => ?_
    refine wpAt_of_wpAny ?_
    cases S with
    | nil => exact absurd rfl h0
    | @cons f fs' r' q1 q2 q3 q4 S =>
      cases us with
      | nil => cases hl
      | cons u us =>
        have X3 : K.In h3 := fun a o e => k3' a o (fun z => by rw [z, nx] at e; cases e) (Heap.get?_push_of_some _ (X2 a o e))
        have old : ∀ y o, y ≠ x → hp.get? y = some o → h3.get? y = some o := fun y o hy e => k3' y o hy (Heap.get?_push_of_some _ (k2 y o (k1 y o e)))
        have n3 : h3.Ns hp.objs.size (fun y => (((("self" : Str) :: f :: fs').zip (.ref x :: u :: us)).reverse.lookup y)) := by
          obtain ⟨oL, es, ep, eL, rr⟩ := n1
          exact ⟨oL, es, ep, k3' _ _ hxL.symm (Heap.get?_push_of_some _ (k2 _ _ eL)), rr⟩
        refine wpAny_execs_cons (plainObj_wpAny_Assign_Attribute (ld_l hk (hloc f (by simp)) (hdb f (by simp)) rfl n3 (look 1 f u rfl rfl) (ld_l hk (hloc "self" (by simp)) rfl rfl n3 mself ?_)))
        refine store_x0 T.sF X3 T.ov T.sa (T.tk f (by simp)) T.hd x3 fun h4 tk4 dx k4 dn dne x4 n4 => ?_
        have z0 : hp.objs.size < dx := by
          have a1 : hp.objs.size < h3.objs.size := n3.lt
          have a2 : h3.objs.size ≤ dx := dn
          omega
        have X4 : K.In h4 := fun a o e => k4 a o (fun z => by rw [z, nx] at e; cases e) (X3 a o e)
        have n4' : h4.Ns hp.objs.size (fun y => (((("self" : Str) :: f :: fs').zip (.ref x :: u :: us)).reverse.lookup y)) := by
          obtain ⟨oL, es, ep, eL, rr⟩ := n3
          exact ⟨oL, es, ep, k4 _ _ hxL.symm eL, rr⟩
        refine stores_x (t := t1) (dx := dx) (L := hp.objs.size) T.sF T.ov T.sa T.hd hk rfl (hloc "self" (by simp)) (nk dx (Nat.le_of_lt z0)) (Nat.ne_of_lt z0) dne.symm mself S us ⟨h4, gs, dr, tk4, os⟩ _ [f] (by simpa using hl.symm) T.nd.tail (fun y hy => ⟨hloc y (by simp [hy]), hdb y (by simp [hy]), T.tk y (by simp [hy])⟩)
          (fun k y v e1 e2 => look (k + 2) y v e1 e2) X4 n4' x4 n4 (Within.nil.cons f u) (by have := T.few; simp only [List.length_cons, List.length_nil] at this ⊢; omega) fun h5 tk5 mB k5 n5 e5 => ?_
        refine q h5 tk5 dx t1 mB (fun y o hy e => k5 y o (fun z => ?_) (k4 y o hy (old y o hy e))) (Nat.le_of_lt z0) dne (k5 _ _ dne.symm x4) n5 fun y => ?_
        · rw [z] at e
          have z1 : dx < hp.objs.size := Heap.lt_size e
          omega
        · rw [e5 y, List.zip_cons_cons, List.lookup_cons]
          by_cases z : y = f
          · subst z
            have : (fs'.zip us).lookup y = none := by
              rw [List.lookup_eq_none_iff]
              intro p hp
              have hz := (List.of_mem_zip hp).1
              have ne : y ≠ p.1 := fun q => (List.nodup_cons.mp T.nd).1 (q ▸ hz)
              simpa using ne
            simp [this]
          · have zb : (y == f) = false := beq_eq_false_iff_ne.mpr z
            rw [zb]
            cases (fs'.zip us).lookup y <;> simp [z]
/-- a made error -/
structure XMade (h h' : Heap) (e c d : Addr) (fs : List Str) (us : List Value) : Prop where
  keep : ∀ y o, h.get? y = some o → h'.get? y = some o
  new : h.objs.size ≤ e
  obj : ∃ t, h'.get? e = some (xObj c t (some d))
  dbig : h.objs.size ≤ d
  dne : d ≠ e
  ns : ∃ mB, h'.Ns1 d mB ∧ ∀ y, mB y = (fs.zip us).lookup y
theorem made_x (T : ErrT P K mg cn fs mb b i c fi) {s : Shared} {us : List Value} {mq : Str → Option Value} (X : K.In s.heap) (hg : s.heap.Ns mainGlobals mg) (hb : s.heap.Ns builtinsNs mq) (hs : mq "super" = some (.type "super")) (lim : s.heap.NoLimit)
    (room : A.depth + 1 < recursionLimit) (hl : us.length = fs.length) (h0 : fs ≠ []) (q : ∀ h' tk e d, XMade s.heap h' e c d fs us → Z (.ok (.ret (.ref e))) { s with heap := h', toks := tk }) : codeAny (model P w) A (.call (.ref c) ⟨us, []⟩) Z s := by
  obtain ⟨nb, nn, ni, nl, NF, hini⟩ := T.ini
  obtain ⟨nm, ns, qn, bs, bm, hdct, sn, sub, ab, col, dd, k0, k1, k2, k3, k5, hC, hT⟩ := PySem.W.excInit_of X hini
  obtain ⟨hp, gs, dr, tk0, os⟩ := s
  have up : ∀ y o, hp.get? y = some o → ((hp.push (xTup us)).push (xObj c hp.objs.size none)).get? y = some o := fun y o e => Heap.get?_push_of_some _ (Heap.get?_push_of_some _ e)
  have hx : ((hp.push (xTup us)).push (xObj c hp.objs.size none)).get? (hp.objs.size + 1) = some (xObj c hp.objs.size none) := by heap_get
  have big : ∀ y, hp.objs.size ≤ y → K.lookup y = none := fun y hy => by
    cases e : K.lookup y with
    | none => rfl
    | some o =>
      have z : y < hp.objs.size := Heap.lt_size (X _ _ e)
      omega
  have sz : ((hp.push (xTup us)).push (xObj c hp.objs.size none)).objs.size = hp.objs.size + 2 := by rw [Heap.size_push, Heap.size_push]
  have hf := T.ti
  obtain ⟨oI, hoI, hcI⟩ : ∃ oI, hp.get? fi = some oI ∧ oI.cls = .type "function" := by
    obtain ⟨o, ho, hc⟩ := Option.map_eq_some_iff.mp (show (K.lookup fi).map (·.cls) = some (.type "function") from beq_iff_eq.mp hf)
    exact ⟨o, X _ _ ho, hc⟩
  have few := T.few
  refine call_x NF hT hC (PySem.W.looks_findIn X T.ic) (fun self => PySem.W.exc_bind hoI hcI self) (by rw [PySem.sizeLine_eq]; omega) ?_
  refine init_x (s := ⟨(hp.push (xTup us)).push (xObj c hp.objs.size none), gs, dr, tk0, os⟩) T (X.keeps up) (hg.keeps up) (hb.keeps up) hs (lim.keeps up) hx (big _ (Nat.le_succ _)) (fun y hy => big y (by rw [sz] at hy; omega)) room hl h0 fun h' tk dx t1 mB k' dn dne hx' n' e' => ?_
  rw [sz] at dn
  exact ⟨rfl, q h' tk (hp.objs.size + 1) dx ⟨fun y o e => k' y o (Nat.ne_of_lt (Nat.lt_succ_of_lt (Heap.lt_size e))) (up y o e), Nat.le_succ _, ⟨t1, hx'⟩, by show hp.objs.size ≤ dx; omega, dne, mB, n', e'⟩⟩
end
end Dm
set_option maxRecDepth 100000
/-! raise. -/
namespace Dm
set_option autoImplicit false
open PySem L2
theorem relO_zip : ∀ {fs : List Str} {vs : List V} {us : List Value} (r : Vals vs us) (f : Str), RelO ((fs.zip vs).lookup f) ((fs.zip us).lookup f)
  | [], _, _, _, _ => by simp; trivial
  | _ :: _, [], _, r, _ => by cases r; simp; trivial
  | g :: fs, v :: vs, _, r, f => by
    cases r with
    | cons a b =>
      rw [List.zip_cons_cons, List.zip_cons_cons, List.lookup_cons, List.lookup_cons]
      cases f == g
      · exact relO_zip b f
      · exact a
section
variable {X : Cx} {T : Tb} {W : WX} {k : Nat} {cn : Str} {fs : List Str} {mb : List Value} {b i : String} {C fi : Addr} {e : Expr} {es : List Expr} {p pos pos2 : Pos}
def tMk (C : Addr) (fs : List Str) (ta : TA) : L2.St → Hp → XK → Prop := fun σ H Q => ta σ H fun vs H1 => vs.length = fs.length ∧ ∀ d, H1 d = none → Q (.ref C) (some d) (upd H1 d (.xd (fs.zip vs)))
theorem pmk_err {ta : TA} (E : ErrT X.prog X.K X.mg cn fs mb b i C fi) (h0 : fs ≠ []) (hr : Room k X.A) (ha : PA X (e :: es) ta) (hg : Gl X cn) (hdb : (cn == ("__debug__" : Str)) = false) (he : starEach (e :: es) X.env = (false, eval e X.env) :: starEach es X.env)
    (hpl : (backTo pos (starEach es X.env)).any (·.1) = false) : PMk X (.Call (.Name cn p) (e :: es) [] pos) (tMk C fs ta) := by
  intro pins s σ H Q I h
  refine wpAny_Call_Name_kw (ld_glob I hg E.gC ?_ hdb)
  refine PySem.W.callWith_K (h₀ := X.base) I.ok.mod.kin E.kC (thn (ha.run pos pins s σ H _ I h) fun us s1 hh => ?_) he hpl
  obtain ⟨vs, H1, I1, r1, hl, q1⟩ := hh
  refine ⟨I1.kIn, ?_⟩
  have hul : us.length = fs.length := by rw [← r1.length, hl]
  have lim := I1.nolimit
  obtain ⟨mq, hb1, hb2⟩ := I1.mod.blt
  have hb3 := hb1.keeps I1.bk
  have hg3 := I1.mod.glob.keeps I1.bk
  obtain ⟨hp, gs, dr, tk, os⟩ := s1
  refine wpAny_call (made_x E I1.kIn hg3 hb3 ((hb2 _ (by decide)).trans (by first | boot_by_name | rfl | kernel_rfl)) lim (by have := hr.dp; omega) hul h0 fun h' tk' a d M => ?_)
  show MkP X pins σ Q (.ref a) ⟨h', gs, dr, tk', os⟩
  obtain ⟨t, hoe⟩ := M.obj
  obtain ⟨mB, hns, hmB⟩ := M.ns
  obtain ⟨G, g1, g2⟩ := restrict h' fun y => decide (y ≠ a)
  have gk : ∀ y, y ≠ a → G.get? y = h'.get? y := fun y hy => g1 y (decide_eq_true hy)
  have ga : G.get? a = none := g2 a (by simp)
  have old : ∀ y o, hp.get? y = some o → G.get? y = some o := fun y o q => (gk y (Nat.ne_of_lt (Nat.lt_of_lt_of_le (Heap.lt_size q) M.new))).trans (M.keep y o q)
  have ob : ObjOk X.prog X.w (upd H1 d (.xd (fs.zip vs))) G d (.xd (fs.zip vs)) := ⟨mB, hns.at (fun o q => (gk d M.dne).trans q), fun f => by rw [hmB f]; exact relO_zip r1 f⟩
  have J : Inv X pins σ (upd H1 d (.xd (fs.zip vs))) ⟨G, gs, dr, tk', os⟩ := I1.laid (t' := tk') old M.dbig ob
  refine ⟨a, xObj C t (some d), _, ⟨G, gs, dr, tk', os⟩, _, .ref C, some d, rfl, J, fun y o q => ?_, ga, hoe, ⟨rfl, rfl⟩, rfl, rfl, ?_, rfl, I1.bare, raises_own E.xs E.ty, q1 d (I1.hok.fresh M.dbig)⟩
  · by_cases hy : y = a
    · have q' : G.get? y = some o := q
      rw [hy, ga] at q'; cases q'
    · exact (gk y hy).symm.trans q
  · rw [upd_ne (Ne.symm M.dne)]
    exact I1.hok.fresh M.new
/-- raise X(e, ..) -/
def sRaise (c : Nat) (ks : List Nat) (t : AX) : SX := fun r S => onS (t r S) r fun ds S' => if ds.length = ks.length then .er ⟨c, ks.zip ds⟩ r S' else .no
theorem repF_zip {w : Wd} : ∀ {ks : List Nat} {fs : List Str} {vs : List V} {ds : List D}, ks.length = fs.length → (∀ (i : Nat) (j : Nat) (f : Str), ks[i]? = some j → fs[i]? = some f → T.names[j]? = some f) → Reps T w vs ds → RepF T w (fs.zip vs) (ks.zip ds)
  | [], [], _, _, _, _, _ => by simp; exact .nil
  | [], _ :: _, _, _, h, _, _ => by cases h
  | _ :: _, [], _, _, h, _, _ => by cases h
  | _ :: _, _ :: _, [], [], _, _, _ => by simp; exact .nil
  | _ :: _, _ :: _, [], _ :: _, _, _, r => by cases r
  | _ :: _, _ :: _, _ :: _, [], _, _, r => by cases r
  | j :: ks, f :: fs, v :: vs, d :: ds, h, hn, r => by
    cases r with
    | cons a b =>
      rw [List.zip_cons_cons, List.zip_cons_cons]
      exact .cons (hn 0 j f rfl rfl) a (repF_zip (by simpa using h) (fun i j f x y => hn (i + 1) j f x y) b)
theorem s_raise {c : Nat} {ks : List Nat} {t : AX} (ck : Cok X T W k) (E : ErrT X.prog X.K X.mg cn fs mb b i (T.C c) fi) (h0 : fs ≠ []) (hks : ks.length = fs.length) (hn : ∀ (i : Nat) (j : Nat) (f : Str), ks[i]? = some j → fs[i]? = some f → T.names[j]? = some f) (ha : PA X (e :: es) (tA T W t)) (hg : Gl X cn := by rfl) (hdb : (cn == ("__debug__" : Str)) = false := by decide)
    (he : starEach (e :: es) X.env = (false, eval e X.env) :: starEach es X.env := by rfl) (hpl : (backTo pos (starEach es X.env)).any (·.1) = false := by rfl) :
    PS X (.Raise (some (.Call (.Name cn p) (e :: es) [] pos)) none pos2) (tS T W (sRaise c ks t)) :=
  imS (ps_raise ck.calm ck.tk (pmk_err E h0 ck.room ha hg hdb he hpl)) fun D σ H ⟨fr, w, r, S, R, q⟩ => ⟨fr, w, r, S, R, onS_post R q fun w' H' S' ds st kk q' vs rv => by
    by_cases hl : ds.length = ks.length
    · rw [if_pos hl] at q'
      refine ⟨by rw [rv.length, hl, hks], fun d hd => ?_⟩
      exact q' w' σ _ (.ref (T.C c)) (some d) (Wd.Le.refl w') ((R.step st kk).step (Stp.laid w' hd) (kk.laid hd)) ⟨rfl, d, _, rfl, upd_same, repF_zip hks hn rv⟩
    · rw [if_neg hl] at q'; exact q'.elim⟩
end
end Dm
set_option maxRecDepth 100000
set_option maxHeartbeats 2000000
/-! try .. except; what a suite does with the error that it holds. -/
namespace Dm
open PySem PySem.W
section
variable {P : Program} {w : World} {A : Around} {E : Value → Shared → Prop} {s : Shared} {K : Frag} {x C : Addr} {ox oD : Obj}
/-- e.__class__, e an own error that has its dict -/
theorem cls_of_err {Q : Option Value → Shared → Prop} (h1 : findIn K (.ref C) "__getattribute__" = some (some (.builtin "BaseException.__getattribute__"))) (h2 : findIn K (.ref C) "__getattr__" = some none) (h3 : subIn K (.ref C) (.type "BaseException") = some true) (h4 : hasDictIn K C = true)
    (h5 : findIn K (.ref C) "__class__" = some (some (.builtin "object.__class__"))) (h6 : specialIn K (.builtin "object.__class__") "__get__" = some (some (.builtin "getset_descriptor.__get__"))) (h7 : takesIn K (.builtin "object.__class__") = some true) (h8 : mroIn K C (.type "object") = some true)
    (X : K.In s.heap) (I : PySem.W.InstAt s.heap x ox C (some oD)) (q : Q (some (.ref C)) { s with toks := s.toks + 1 }) : wpAny (model P w) A (getAttr? (.ref x) "__class__") Q E s := by
  have hf : findObj K C (some oD) "__class__" = some (.bind (.builtin "getset_descriptor.__get__") (.builtin "object.__class__")) := findObj_data (by obtain ⟨cd, hc, _⟩ := any_some h4; rw [hc]; rfl) h5 h6 h7
  obtain ⟨hp, gs, dr, tk, os⟩ := s
  have a0 := I.type (M := model P w)
  have a1 := looks_findIn (M := model P w) X h1
  have a2 := looks_findIn (M := model P w) X h2
  have a3 := looks_find (M := model P w) X I hf
  have sub : Looks (model P w) hp (isInstance (.ref x) (.type "BaseException")) true := a0.andThen (looks_subIn X h3)
  have z2 : (Value.builtin "BaseException.__getattribute__" == Value.builtin "object.__getattribute__") = false := by decide +kernel
  have z1 : (onTheHeap (Value.ref C) && Value.builtin "BaseException.__getattribute__" == Value.builtin "object.__getattribute__") = false := by rw [z2]; rfl
  unfold getAttr? getAttrBy? getAttrBy
  refine wpAny_bind (wpAny_mkText (wpAny_bind (wpAny_attempt (wpAny_holding (wpAny_bind (a0.at (wpAny_bind (a1.at ?_))))))))
  show wpAny _ _ (if (onTheHeap (Value.ref C) && Value.builtin "BaseException.__getattribute__" == Value.builtin "object.__getattribute__") = true then _ else _) _ _ _
  rw [z1, if_neg Bool.false_ne_true]
  unfold getAttrByItsOwn hookBefore
  refine wpAny_bind ?_
  rw [if_pos (show onTheHeap (Value.ref C) = true from rfl)]
  refine a2.at (wpAny_bind (wpAny_attempt (wpAny_holding ?_)))
  unfold callGetattribute
  rw [show (false && onTheHeap (Value.builtin "BaseException.__getattribute__")) = false from rfl, if_neg Bool.false_ne_true]
  unfold boundAndCalled
  rw [PySem.F.excAttr_ValueError.ga.bind (.ref x)]
  refine wpAny_bind (wpAny_pure ?_)
  show wpAny _ _ (call (.builtin "BaseException.__getattribute__") [.ref x, .str "__class__" tk]) _ _ _
  refine wpAny_call (codeAny_call_builtin PySem.F.excAttr_ValueError.ga.plain PySem.F.entry_bexc_ga (@check_slot (model P w) _ _ ⟨hp, gs, dr, tk + 1, os⟩ "BaseException.__getattribute__" "BaseException" "__getattribute__" (.ref x) [.str "__class__" tk] [] _ (by decide +kernel) (by decide +kernel) sub (PySem.F.args_bexc_ga (.ref x) (.str "__class__" tk)) ?_))
  unfold Builtin.«object.__getattribute__»
  refine wpAny_bind (wpAny_of_eq (a := ((Value.ref x : Value), [Value.str "__class__" tk])) (by first | rfl | (simp only [slotArgs]; rfl)) (wpAny_bind (wpAny_pure (wpAny_bind (a0.at (wpAny_bind (a3.at ?_)))))))
  show wpAny _ _ (holding [Value.builtin "object.__class__"] (call (.builtin "getset_descriptor.__get__") [.builtin "object.__class__", .ref x, .ref C]) >>= ret) _ _ _
  refine wpAny_bind (wpAny_holding (wpAny_call (class_get (s := ⟨hp, gs, dr, tk + 1, os⟩) (ox := ox) (od := some oD) X I h8 (wpAny_pure ?_))))
  show wpAny _ _ (handedOut (.ref C)) _ _ _
  rw [handedOut_of (v := .ref C) rfl]
  first
    | exact wpAny_pure (wpAny_pure q)
    | exact wpAny_pure q
    | exact wpAny_pure (wpAny_bind (wpAny_pure (wpAny_pure q)))
theorem kit_err (h1 : findIn K (.ref C) "__getattribute__" = some (some (.builtin "BaseException.__getattribute__"))) (h2 : findIn K (.ref C) "__getattr__" = some none) (h3 : subIn K (.ref C) (.type "BaseException") = some true) (h4 : hasDictIn K C = true)
    (h5 : findIn K (.ref C) "__class__" = some (some (.builtin "object.__class__"))) (h6 : specialIn K (.builtin "object.__class__") "__get__" = some (some (.builtin "getset_descriptor.__get__"))) (h7 : takesIn K (.builtin "object.__class__") = some true) (h8 : mroIn K C (.type "object") = some true) :
    KitX K (.ref x) (.ref C) (fun h => PySem.W.InstAt h x ox C (some oD)) where
  ty := fun _ _ _ I => I.type
  it := fun _ _ X _ => by
    obtain ⟨c0, e0, _⟩ := any_some h4
    unfold clsIn at e0
    split at e0
    · rename_i c1 d1 cd1 sl1 ho
      intro A' Q' E' s' k q
      unfold isType loadHead
      exact wpAny_bind (wpAny_loadPart (k _ _ (X _ _ ho)) (wpAny_pure q))
    · cases e0
  ne := fun h tp dd its n sl X htp => by
    obtain ⟨c0, e0, _⟩ := any_some h4
    refine Bool.eq_false_iff.mpr fun q => ?_
    obtain rfl : C = tp := Value.ref.inj (beq_iff_eq.mp q)
    unfold clsIn at e0
    split at e0
    · rename_i c1 d1 cd1 sl1 ho
      cases (X _ _ ho).symm.trans htp
    · cases e0
  ca := fun X I k => cls_of_err h1 h2 h3 h4 h5 h6 h7 h8 X I k
end
end Dm
namespace Dm
set_option autoImplicit false
open PySem L2

abbrev Tb.at (T : Tb) (e : CE) : Tb := { T with ex := some e }
section
variable {K : PySem.W.Frag} {C : Nat → Addr} {ns : List Str} {x y : Option CE} {w : Wd}
mutual
theorem rep_ex : ∀ (d : D) (v : V), Rep ⟨K, C, ns, x⟩ w v d → Rep ⟨K, C, ns, y⟩ w v d
  | .non, _, r => by cases r; exact .non
  | .bl b, _, r => by cases r; exact .bl b
  | .int i, _, r => by cases r; exact .int i
  | .str s, _, r => by cases r; exact .str s
  | .lst ds, _, r => by
    cases r with
    | lst a b => exact .lst a (reps_ex ds _ b)
  | .ro ds, _, r => by
    cases r with
    | ro a b => exact .ro a (reps_ex ds _ b)
  | .tup ds, _, r => by
    cases r with
    | tup a b => exact .tup a (reps_ex ds _ b)
  | .obj c fs, _, r => by
    cases r with
    | obj a b => exact .obj a (repf_ex fs _ b)
  | .ref n, _, r => by
    cases r with
    | ref a => exact .ref a
theorem reps_ex : ∀ (ds : List D) (vs : List V), Reps ⟨K, C, ns, x⟩ w vs ds → Reps ⟨K, C, ns, y⟩ w vs ds
  | [], _, r => by cases r; exact .nil
  | d :: ds, _, r => by
    cases r with
    | cons a b => exact .cons (rep_ex d _ a) (reps_ex ds _ b)
theorem repf_ex : ∀ (fs : List (Nat × D)) (ws : List (Str × V)), RepF ⟨K, C, ns, x⟩ w ws fs → RepF ⟨K, C, ns, y⟩ w ws fs
  | [], _, r => by cases r; exact .nil
  | (k, d) :: fs, _, r => by
    cases r with
    | cons e a b => exact .cons e (rep_ex d _ a) (repf_ex fs _ b)
end
theorem wok_ex {H : Hp} {S : Sto} (k : WOk ⟨K, C, ns, x⟩ w H S) : WOk ⟨K, C, ns, y⟩ w H S := ⟨k.fz, k.nd, k.nf, k.len, fun n c a h1 h2 => by
  have q := k.cell n c a h1 h2
  cases c with
  | lst xs => obtain ⟨vs, h, r⟩ := q; exact ⟨vs, h, reps_ex _ _ r⟩
  | obj i fs => obtain ⟨dx, ws, h, r⟩ := q; exact ⟨dx, ws, h, repf_ex _ _ r⟩⟩
end
/-- the suite's error is forgotten -/
def clr (i : Nat) (r : Ev) : Ev := (r.map fun s => match s with
  | .ex _ => .un
  | s => s).set i .un
section
variable {T : Tb} {fr : Ent} {w : Wd} {r : Ev} {S : Sto} {σ : L2.St} {H : Hp}
theorem Rel.toAt {e : CE} {i : Nat} {x : Exc} (hT : T.ex = none) (R : Rel T fr w r S σ H) (ea : ExcAt T w H e.cls e.d x) : Rel (T.at e) fr w (r.set i (.ex x)) S (σ.set i (some (.ref e.a))) H := by
  obtain ⟨K, C, ns, ex⟩ := T
  have ne : ∀ {j : Nat} {s : Sl}, (∀ z, s ≠ .ex z) → (r.set i (.ex x))[j]? = some s → i ≠ j ∧ r[j]? = some s := fun {j s} hs h => by
    by_cases q : i = j
    · subst q
      by_cases z : i < r.length
      · rw [List.getElem?_set_self z] at h; cases h; exact absurd rfl (hs x)
      · rw [List.getElem?_eq_none (by rw [List.length_set]; omega)] at h; cases h
    · rw [List.getElem?_set_ne q] at h; exact ⟨q, h⟩
  refine ⟨R.stp, wok_ex R.ok, by rw [List.length_set, List.length_set]; exact R.len, fun j d h => ?_, fun j xs h => ?_, fun j z h => ?_, fun j k xs ys a hjk h1 h2 h3 h4 => ?_⟩
  · obtain ⟨q, h'⟩ := ne (fun z => by simp) h
    obtain ⟨v, e1, rv⟩ := R.sh j d h'
    exact ⟨v, by rw [List.getElem?_set_ne q]; exact e1, rep_ex _ _ rv⟩
  · obtain ⟨q, h'⟩ := ne (fun z => by simp) h
    obtain ⟨a, e1, ⟨vs, h1, h2⟩, h3, h4, h5⟩ := R.ow j xs h'
    exact ⟨a, by rw [List.getElem?_set_ne q]; exact e1, ⟨vs, h1, reps_ex _ _ h2⟩, h3, h4, h5⟩
  · by_cases q : i = j
    · subst q
      by_cases l : i < r.length
      · rw [List.getElem?_set_self l] at h
        cases h
        obtain ⟨h1, d, ws, h2, h3, h4⟩ := ea
        exact ⟨e, rfl, List.getElem?_set_self (by rw [← R.len]; exact l), h1, d, ws, h2, h3, repf_ex _ _ h4⟩
      · rw [List.getElem?_eq_none (by rw [List.length_set]; omega)] at h; cases h
    · rw [List.getElem?_set_ne q] at h
      obtain ⟨e', h1, _⟩ := R.ex j z h
      rw [hT] at h1; cases h1
  · obtain ⟨q1, h1'⟩ := ne (fun z => by simp) h1
    obtain ⟨q2, h2'⟩ := ne (fun z => by simp) h2
    rw [List.getElem?_set_ne q1] at h3
    rw [List.getElem?_set_ne q2] at h4
    exact R.dj j k xs ys a hjk h1' h2' h3 h4
theorem clr_at {i j : Nat} {s : Sl} (h : (clr i r)[j]? = some s) (hs : s ≠ .un) : i ≠ j ∧ r[j]? = some s ∧ ∀ z, s ≠ .ex z := by
  unfold clr at h
  by_cases q : i = j
  · subst q
    by_cases l : i < (r.map fun s => match s with
      | .ex _ => Sl.un
      | s => s).length
    · rw [List.getElem?_set_self l] at h; cases h; exact absurd rfl hs
    · rw [List.getElem?_eq_none (by rw [List.length_set]; omega)] at h; cases h
  · rw [List.getElem?_set_ne q, List.getElem?_map] at h
    refine ⟨q, ?_⟩
    cases e : r[j]? with
    | none => rw [e] at h; cases h
    | some t =>
      rw [e] at h
      cases t with
      | un => cases h; exact absurd rfl hs
      | sh d => cases h; exact ⟨rfl, fun z => by simp⟩
      | ow d => cases h; exact ⟨rfl, fun z => by simp⟩
      | ex d => cases h; exact absurd rfl hs
theorem Rel.ofAt {e : CE} {i : Nat} (R : Rel (T.at e) fr w r S σ H) : Rel T fr w (clr i r) S (σ.set i none) H := by
  obtain ⟨K, C, ns, ex⟩ := T
  refine ⟨R.stp, wok_ex R.ok, ?_, fun j d h => ?_, fun j xs h => ?_, fun j z h => ?_, fun j k xs ys a hjk h1 h2 h3 h4 => ?_⟩
  · unfold clr; rw [List.length_set, List.length_set, List.length_map]; exact R.len
  · obtain ⟨q, h', _⟩ := clr_at h (by simp)
    obtain ⟨v, e1, rv⟩ := R.sh j d h'
    exact ⟨v, by rw [List.getElem?_set_ne q]; exact e1, rep_ex _ _ rv⟩
  · obtain ⟨q, h', _⟩ := clr_at h (by simp)
    obtain ⟨a, e1, ⟨vs, h1, h2⟩, h3, h4, h5⟩ := R.ow j xs h'
    exact ⟨a, by rw [List.getElem?_set_ne q]; exact e1, ⟨vs, h1, reps_ex _ _ h2⟩, h3, h4, h5⟩
  · obtain ⟨_, _, n⟩ := clr_at h (by simp)
    exact absurd rfl (n z)
  · obtain ⟨q1, h1', _⟩ := clr_at h1 (by simp)
    obtain ⟨q2, h2', _⟩ := clr_at h2 (by simp)
    rw [List.getElem?_set_ne q1] at h3
    rw [List.getElem?_set_ne q2] at h4
    exact R.dj j k xs ys a hjk h1' h2' h3 h4
end

/-! ### the statements -/
def sTryAs (cs : List (Nat × Bool)) (i : Nat) (body suite : SX) : SX := fun r S => match body r S with
  | .er x r1 S1 => match cs.lookup x.c with
    | some true => match suite (r1.set i (.ex x)) S1 with
      | .nx r2 S2 => .nx (clr i r2) S2
      | .bk r2 S2 => .bk (clr i r2) S2
      | .ct r2 S2 => .ct (clr i r2) S2
      | .rt d S2 => .rt d S2
      | _ => .no
    | some false => .er x r1 S1
    | none => .no
  | o => o
def sTry (cs : List (Nat × Bool)) (body suite : SX) : SX := fun r S => match body r S with
  | .er x r1 S1 => match cs.lookup x.c with
    | some true => match suite r1 S1 with
      | .er _ _ _ => .no
      | o => o
    | some false => .er x r1 S1
    | none => .no
  | o => o
abbrev W0 : WX := fun _ _ _ _ => False
section
variable {X : Cx} {T : Tb} {W : WX} {k : Nat} {x n : Str} {c : Value} {i : Nat} {body suite : List Stmt} {b0 : Stmt} {np pos pos' : Pos} {g gs : SX} {cs : List (Nat × Bool)}
/-- a try's body: the rules in any frame of errors -/
theorem Cok.tr {X : Cx} {T : Tb} {W W' : WX} {k : Nat} (C : Cok X T W k) (pn : List (Addr × Obj)) (xe : Value → Shared → Prop) (tk : Takes (X.tr pn xe) W') (po : PassesOwn (model X.prog X.w) X.A X.env xe) : Cok (X.tr pn xe) T W' k :=
  ⟨C.K, C.room, C.gd, tk, C.calm, po⟩
theorem s_tryAs (ck : Cok X T W k) (hN : X.N.Nodup) (hT : T.ex = none := by rfl) (hs : X.stack = X.env :: X.outer := by rfl) (hf : X.env.frame = some X.env.locals := by rfl) (hi : X.N[i]? = some n := by rfl) (hln : X.env.kindOf n = some .local := by rfl) (hc : Names X x c)
    (hcs : ∀ m b, cs.lookup m = some b → PySem.W.exmOne X.K (.ref (T.C m)) c = some b)
    (hb : ∀ (W' : WX) (pn : List (Addr × Obj)) (xe : Value → Shared → Prop), Cok (X.tr pn xe) T W' k → PSs (X.tr pn xe) body (tS T W' g))
    (hsu : ∀ (a : Addr) (oe : Obj) (cls : Value) (d : Option Addr) (pn : List (Addr × Obj)), Zc cls d oe → (∃ vs, oe.data = .fields vs) → PSs (X.suite a ((a, oe) :: pn)) (b0 :: suite) (tS (T.at ⟨a, cls, d⟩) W0 gs)) :
    PS X (.Try body [.ExceptHandler (some (.Name x np)) (some n) (b0 :: suite) pos'] [] [] pos) (tS T W (sTryAs cs i g gs)) := by
  refine imS (ps_try_as (tb := fun W' => tS T W' g) (ts := fun a cls d => tS (T.at ⟨a, cls, d⟩) W0 gs) hs hf hN hi hln hc ck.tk (fun W' pn xe tk po => hb W' pn xe (ck.tr pn xe tk po)) hsu) fun D σ H ⟨fr, w, r, S, R, p⟩ => ⟨fr, w, r, S, R, ?_⟩
  unfold sTryAs at p
  cases q : g r S with
  | nx r1 S1 => rw [q] at p; exact p
  | rt d S1 => rw [q] at p; exact p
  | bk r1 S1 => rw [q] at p; exact p
  | ct r1 S1 => rw [q] at p; exact p
  | no => rw [q] at p; exact p
  | er z r1 S1 =>
    rw [q] at p
    dsimp only at p
    intro w1 σ1 H1 cls dx l1 R1 ea
    cases q2 : cs.lookup z.c with
    | none => rw [q2] at p; exact p.elim
    | some b =>
      rw [q2] at p
      refine ⟨b, by rw [ea.1]; exact hcs _ _ q2, fun hb a ha => ?_, fun hb => ?_⟩
      · subst hb
        dsimp only at p
        refine ⟨fr, w1, r1.set i (.ex z), S1, R1.toAt (e := ⟨a, cls, dx⟩) hT ea, ?_⟩
        cases q3 : gs (r1.set i (.ex z)) S1 with
        | nx r2 S2 => rw [q3] at p; exact fun w2 σ2 H2 l2 R2 => p w2 _ H2 (l1.trans l2) R2.ofAt
        | bk r2 S2 => rw [q3] at p; exact fun w2 σ2 H2 l2 R2 => p w2 _ H2 (l1.trans l2) R2.ofAt
        | ct r2 S2 => rw [q3] at p; exact fun w2 σ2 H2 l2 R2 => p w2 _ H2 (l1.trans l2) R2.ofAt
        | rt d S2 =>
          rw [q3] at p
          obtain ⟨K, C, ns, ex⟩ := T
          exact fun w2 H2 v st kk rv => p w2 H2 v st (wok_ex kk) (rep_ex _ _ rv)
        | er _ _ _ => rw [q3] at p; exact p.elim
        | no => rw [q3] at p; exact p.elim
      · subst hb
        exact p w1 σ1 H1 cls dx l1 R1 ea
theorem s_try (ck : Cok X T W k) (hs : X.stack = X.env :: X.outer := by rfl) (hf : X.env.frame = some X.env.locals := by rfl) (hc : Names X x c)
    (hcs : ∀ m b, cs.lookup m = some b → PySem.W.exmOne X.K (.ref (T.C m)) c = some b)
    (hb : ∀ (W' : WX) (pn : List (Addr × Obj)) (xe : Value → Shared → Prop), Cok (X.tr pn xe) T W' k → PSs (X.tr pn xe) body (tS T W' g))
    (hsu : ∀ (a : Addr) (oe : Obj) (cls : Value) (d : Option Addr) (pn : List (Addr × Obj)), Zc cls d oe → (∃ vs, oe.data = .fields vs) → PSs (X.suite a ((a, oe) :: pn)) (b0 :: suite) (tS T W0 gs)) :
    PS X (.Try body [.ExceptHandler (some (.Name x np)) none (b0 :: suite) pos'] [] [] pos) (tS T W (sTry cs g gs)) := by
  refine imS (ps_try_only (tb := fun W' => tS T W' g) (ts := fun a cls d => tS T W0 gs) hs hf hc ck.tk (fun W' pn xe tk po => hb W' pn xe (ck.tr pn xe tk po)) hsu) fun D σ H ⟨fr, w, r, S, R, p⟩ => ⟨fr, w, r, S, R, ?_⟩
  unfold sTry at p
  cases q : g r S with
  | nx r1 S1 => rw [q] at p; exact p
  | rt d S1 => rw [q] at p; exact p
  | bk r1 S1 => rw [q] at p; exact p
  | ct r1 S1 => rw [q] at p; exact p
  | no => rw [q] at p; exact p
  | er z r1 S1 =>
    rw [q] at p
    dsimp only at p
    intro w1 σ1 H1 cls dx l1 R1 ea
    cases q2 : cs.lookup z.c with
    | none => rw [q2] at p; exact p.elim
    | some b =>
      rw [q2] at p
      refine ⟨b, by rw [ea.1]; exact hcs _ _ q2, fun hb a ha => ?_, fun hb => ?_⟩
      · subst hb
        dsimp only at p
        refine ⟨fr, w1, r1, S1, R1, ?_⟩
        cases q3 : gs r1 S1 with
        | nx r2 S2 => rw [q3] at p; exact fun w2 σ2 H2 l2 R2 => p w2 _ H2 (l1.trans l2) R2
        | bk r2 S2 => rw [q3] at p; exact fun w2 σ2 H2 l2 R2 => p w2 _ H2 (l1.trans l2) R2
        | ct r2 S2 => rw [q3] at p; exact fun w2 σ2 H2 l2 R2 => p w2 _ H2 (l1.trans l2) R2
        | rt d S2 => rw [q3] at p; exact p
        | er _ _ _ => rw [q3] at p; exact p.elim
        | no => rw [q3] at p; exact p.elim
      · subst hb
        exact p w1 σ1 H1 cls dx l1 R1 ea

/-! ### e.f, isinstance(e, C) in a suite -/
/-- the field m of slot i's error of class c -/
def eExF (i c m : Nat) : EX := fun r => match r[i]? with
  | some (.ex x) => if x.c = c then match lk m x.fs with
    | some d => pur d
    | none => stk
    else stk
  | _ => stk
def eExIs (i : Nat) (cs : List (Nat × Bool)) : EX := fun r => match r[i]? with
  | some (.ex x) => match cs.lookup x.c with
    | some b => pur (.bl b)
    | none => stk
  | _ => stk
variable {a : Addr} {oe : Obj} {cls : Value} {d : Option Addr} {pn : List (Addr × Obj)}
theorem e_exF {cc km : Nat} {f : Str} {p1 : Pos} (nd : T.names.Nodup) (hkm : T.names[km]? = some f) (F : XfC X.K (T.C cc)) (hno : PySem.W.findIn X.K (.ref (T.C cc)) f = some none) (hz : Zc cls d oe) (hf : ∃ vs, oe.data = .fields vs)
    (hN : X.N[i]? = some n := by rfl) (hv : Vis X.env.scope n := by first | exact Or.inl rfl | exact Or.inr (Or.inl rfl)) (hb : attributeBase (.Name n p1) f X.env (eval (.Name n p1) X.env) = eval (.Name n p1) X.env := by rfl)
    (hd : (n == ("__debug__" : Str)) = false := by decide) (hcd : (n == ("__classdict__" : Str)) = false := by decide) :
    PE (X.suite a ((a, oe) :: pn)) (.Attribute (.Name n p1) f pos) (tE (T.at ⟨a, cls, d⟩) W (eExF i cc km)) :=
  imE (pe_xf F hno hz hf (pe_var (X := X.suite a ((a, oe) :: pn)) hN hv hd hcd) hb) fun σ H Q ⟨fr, w, r, S, R, p⟩ => by
    unfold eExF at p
    cases q : r[i]? with
    | none => rw [q] at p; exact p.elim
    | some s =>
      rw [q] at p
      cases s with
      | un => exact p.elim
      | sh _ => exact p.elim
      | ow _ => exact p.elim
      | ex x =>
        dsimp only at p
        split at p
        · rename_i hx
          cases q2 : lk km x.fs with
          | none => rw [q2] at p; exact p.elim
          | some e =>
            rw [q2] at p
            obtain ⟨ce, e1, e2, e3, dd, ws, e4, e5, e6⟩ := R.ex i x q
            cases e1
            obtain ⟨v, h1, h2⟩ := lk_some (T := T.at ⟨a, cls, d⟩) nd hkm e6 q2
            exact ⟨_, e2, rfl, by rw [← hx]; exact e3, dd, ws, v, e4, e5, h1, Post.ok p R.ok v h2⟩
        · exact p.elim
/-- isinstance(e, c), the suite's error having a dict -/
def rErr (K : PySem.W.Frag) (cls : Value) (a : Addr) (d : Option Addr) : List V → Hp → VK → Prop := fun xs H Q => ∃ (D : Addr) (c : V) (cv : Value) (b : Bool), cls = .ref D ∧ ExcC K D ∧ xs = [.ref a, c] ∧ (∀ u, RelV c u → u = cv) ∧ PySem.W.kitOne K (.ref D) cv = some b ∧ (∃ dd ws, d = some dd ∧ H dd = some (.xd ws)) ∧ Q (.bl b) H
theorem call_err (hz : Zc cls d oe) (hf : ∃ vs, oe.data = .fields vs) : CallR (X.suite a ((a, oe) :: pn)) (.builtin "isinstance") (rErr X.K cls a d) := by
  intro pins s σ H xs us Q I r h
  obtain ⟨D, c, cv, b, rfl, C, rfl, hcv, e, ⟨dd, ws, ed, ew⟩, q⟩ := h
  cases r with
  | cons rx rr =>
    cases rr with
    | cons rt rr =>
      cases rr
      cases rx
      obtain rfl := hcv _ rt
      obtain ⟨hget, _⟩ := I.pin (a, oe) (List.mem_append.mpr (.inl List.mem_cons_self))
      obtain ⟨vs, hv⟩ := hf
      obtain ⟨mA, ⟨od, es, ep, ho, rr2⟩, _⟩ := I.hok dd _ ew
      have J : PySem.W.InstAt s.heap a oe D (some od) := by
        obtain ⟨oc, odx, oda, osl⟩ := oe
        obtain ⟨h1, h2⟩ := hz
        dsimp only at h1 h2 hv
        subst h1 h2 hv
        exact ⟨hget, rfl, rfl, by rw [ed]; exact ho⟩
      exact PySem.W.kia_one (kit_err C.hg C.hk C.hs C.hd C.ha C.hn C.ht C.hm) I.kIn J e (fun z => nomatch z) fun tk => ⟨.bl b, H, I.kept (t' := tk) fun _ _ z => z, rfl, q⟩
theorem e_exIs {cn : Str} {cv : Value} {v : V} {p0 p1 p2 : Pos} {cs : List (Nat × Bool)} (hz : Zc cls d oe) (hf : ∃ vs, oe.data = .fields vs) (hcs : ∀ m b, cs.lookup m = some b → ExcC X.K (T.C m) ∧ PySem.W.kitOne X.K (.ref (T.C m)) cv = some b) (hm : X.mg "isinstance" = none) (hcv : ∀ u, RelV v u → u = cv)
    (hc : PE (X.suite a ((a, oe) :: pn)) (.Name cn p2) (tC v))
    (hN : X.N[i]? = some n := by rfl) (hv : Vis X.env.scope n := by first | exact Or.inl rfl | exact Or.inr (Or.inl rfl)) (hd : (n == ("__debug__" : Str)) = false := by decide) (hcd : (n == ("__classdict__" : Str)) = false := by decide) (hg : Gl X "isinstance" := by rfl)
    (he : starEach [.Name n p1, .Name cn p2] X.env = (false, eval (.Name n p1) X.env) :: starEach [.Name cn p2] X.env := by rfl) (he2 : starEach [.Name cn p2] X.env = (false, eval (.Name cn p2) X.env) :: starEach [] X.env := by rfl) (hpl : (backTo pos (starEach [.Name cn p2] X.env)).any (·.1) = false := by rfl) :
    PE (X.suite a ((a, oe) :: pn)) (.Call (.Name "isinstance" p0) [.Name n p1, .Name cn p2] [] pos) (tE (T.at ⟨a, cls, d⟩) W (eExIs i cs)) := by
  refine imE (pe_callB (X := X.suite a ((a, oe) :: pn)) (call_err hz hf) hg hm (by first | boot_by_name | rfl | kernel_rfl) (pa_cons (pe_var (X := X.suite a ((a, oe) :: pn)) hN hv hd hcd) (pa_cons hc pa_nil he2) he) (by decide) (by decide) he hpl) fun σ H Q ⟨fr, w, r, S, R, p⟩ => ?_
  unfold eExIs at p
  cases q : r[i]? with
  | none => rw [q] at p; exact p.elim
  | some s =>
    rw [q] at p
    cases s with
    | un => exact p.elim
    | sh _ => exact p.elim
    | ow _ => exact p.elim
    | ex x =>
      dsimp only at p
      cases q2 : cs.lookup x.c with
      | none => rw [q2] at p; exact p.elim
      | some b =>
        rw [q2] at p
        obtain ⟨ce, e1, e2, e3, dd, ws, e4, e5, e6⟩ := R.ex i x q
        cases e1
        obtain ⟨c1, c2⟩ := hcs _ _ q2
        exact ⟨_, e2, T.C x.c, v, cv, b, e3, c1, rfl, hcv, c2, ⟨dd, ws, e4, e5⟩, Post.ok p R.ok _ (.bl b)⟩
end
end Dm
set_option maxRecDepth 100000
set_option maxHeartbeats 2000000
/-! Cells written; instances made. -/
namespace Dm
set_option autoImplicit false
open PySem L2

/-! ### a cell written -/
section
variable {T : Tb} {w : Wd} {H : Hp} {S : Sto} {fr : Ent} {σ : L2.St} {r : Ev}
theorem WOk.wr (k : WOk T w H S) {n : Nat} {a : Addr} {c : Cell} {o : HO} (ha : w.L[n]? = some a) (hc : CellAt T w (upd H a o) a c) : WOk T w (upd H a o) (S.set n c) := by
  have ma : a ∈ w.L := List.mem_of_getElem? ha
  refine ⟨fun b q e => ?_, k.nd, k.nf, by rw [List.length_set]; exact k.len, fun j d b h1 h2 => ?_⟩
  · rw [upd_ne fun z => by rw [z, k.nf a ma] at e; cases e]; exact k.fz b q e
  · by_cases z : n = j
    · subst z
      rw [ha] at h2; cases h2
      by_cases l : n < S.length
      · rw [List.getElem?_set_self l] at h1; cases h1; exact hc
      · rw [List.getElem?_eq_none (by rw [List.length_set]; omega)] at h1; cases h1
    · rw [List.getElem?_set_ne z] at h1
      have ne : b ≠ a := fun q => by
        subst q
        obtain ⟨hn, e1⟩ := List.getElem?_eq_some_iff.mp ha
        obtain ⟨hj, e2⟩ := List.getElem?_eq_some_iff.mp h2
        exact z ((List.getElem_inj k.nd).mp (e1.trans e2.symm))
      exact (k.cell j d b h1 h2).le (Wd.Le.refl w) (upd_ne ne)
theorem Stp.wr {a : Addr} {o : HO} (ma : a ∈ w.L) : Stp w w H (upd H a o) := by
  refine ⟨Wd.Le.refl w, fun b e1 e2 => absurd e1 e2, fun b q e n => ?_, fun b e => ?_, fun b m n => absurd m n⟩
  · rw [upd_ne fun z => n (by rw [z]; exact ma)]; exact e
  · by_cases z : b = a
    · rw [z, upd_same] at e; cases e
    · rw [upd_ne z] at e; exact e
theorem RepF.put {f : Str} {m : Nat} {v : V} {d : D} (nd : T.names.Nodup) (hm : T.names[m]? = some f) (rv : Rep T w v d) : ∀ {ws : List (Str × V)} {fs : List (Nat × D)}, RepF T w ws fs → RepF T w (putF f v ws) (putD m d fs)
  | _, [], r => by cases r; exact .cons hm rv .nil
  | _, (j, e) :: fs, r => by
    cases r with
    | cons a b c =>
      rename_i g u ws
      dsimp only [putF, putD]
      by_cases q : j = m
      · subst q
        rw [hm] at a; cases a
        rw [if_pos rfl, if_pos rfl]
        exact .cons hm rv c
      · have ne : g ≠ f := fun z => q (by subst z; exact nd_ix nd a hm)
        rw [if_neg q, if_neg ne]
        exact .cons a b (RepF.put nd hm rv c)
theorem RepF.length : ∀ {ws : List (Str × V)} {fs : List (Nat × D)}, RepF T w ws fs → ws.length = fs.length
  | _, [], r => by cases r; rfl
  | _, (j, e) :: fs, r => by
    cases r with
    | cons a b c => simp [RepF.length c]
end
/-- o.f = v, o in a cell -/
def sFld (cs : List Nat) (m : Nat) (o v : EX) : SX := fun r S => onS (bnd (v r) (fun y => bnd (o r) fun x => pur (x, y)) S) r fun p S' => match p.1 with
  | .ref n => match S'[n]? with
    | some (.obj c fs) => if cs.contains c = true ∧ fs.length < 1000 then .nx r (S'.set n (.obj c (putD m p.2 fs))) else .no
    | _ => .no
  | _ => .no
/-- xs[i] = v, xs a list in a cell -/
def ixN? (n : Nat) (i : Int) : Option Nat := if 0 ≤ i then (if i < n then some i.toNat else none) else if 0 ≤ i + n then some (i + n).toNat else none
def sIxR (o i v : EX) : SX := fun r S => onS (bnd (v r) (fun y => bnd (o r) fun x => bnd (i r) fun j => pur (x, j, y)) S) r fun p S' => match p.1, p.2.1 with
  | .ref n, .int j => match S'[n]? with
    | some (.lst xs) => match ixN xs.length j with
      | some m => .nx r (S'.set n (.lst (xs.set m p.2.2)))
      | none => .no
    | _ => .no
  | _, _ => .no
/-- xs[i] = v, xs a name's own list -/
def sIxO (s : Nat) (i v : EX) : SX := fun r S => match r[s]? with
  | some (.ow xs) => onS (bnd (v r) (fun y => bnd (i r) fun j => pur (j, y)) S) r fun p S' => match p.1 with
    | .int j => match ixN xs.length j with
      | some m => .nx (r.set s (.ow (xs.set m p.2))) S'
      | none => .no
    | _ => .no
  | _ => .no
section
variable {X : Cx} {T : Tb} {W : WX} {k : Nat} {f : Str} {o v i : Expr} {pos pos' : Pos}
theorem onS_bnd {α β : Type} {m : M α} {q : α → M β} {S : Sto} {r : Ev} {g : β → Sto → SO} : onS (bnd m q S) r g = onS (m S) r fun a S' => onS (q a S') r g := by
  unfold bnd
  cases m S <;> rfl
theorem s_fld {cs : List Nat} {m : Nat} {fo fv : EX} (nd : T.names.Nodup) (hm : T.names[m]? = some f) (hC : ∀ c ∈ cs, Cls X.K (T.C c) ∧ NoAttr X.K (T.C c) f) (ho : PE X o (tE T W fo)) (hv : PE X v (tE T W fv)) (hs : swapsWith v (some (.Attribute o f pos')) pos.line X.env = pure false := by rfl) :
    PS X (.Assign [.Attribute o f pos'] v pos) (tS T W (sFld cs m fo fv)) := imS (ps_fld ho hv hs) fun D σ H ⟨fr, w, r, S, R, p⟩ => by
  unfold sFld at p
  rw [onS_bnd] at p
  refine ⟨fr, w, r, S, R, onS_post R p fun w1 H1 S1 y t1 k1 p1 vy ry => ⟨fr, w1, r, S1, R.step t1 k1, ?_⟩⟩
  rw [onS_bnd] at p1
  refine onS_post (R.step t1 k1) p1 fun w2 H2 S2 x t2 k2 p2 vx rx => ?_
  dsimp only [onS, Dm.pur] at p2
  cases rx with
  | @ref a n e =>
    dsimp only at p2
    cases q : S2[n]? with
    | none => rw [q] at p2; exact p2.elim
    | some c =>
      rw [q] at p2
      cases c with
      | lst _ => exact p2.elim
      | obj c fs =>
        dsimp only at p2
        split at p2
        · rename_i hc
          obtain ⟨dx, ws, h1, h2⟩ := k2.cell n _ a q e
          obtain ⟨c1, c2⟩ := hC c (by simpa using hc.1)
          refine ⟨a, T.C c, dx, ws, rfl, h1, c1, c2, by rw [h2.length]; exact hc.2, ?_⟩
          have rp := h2.put nd hm (ry.up t2.le)
          have ma : a ∈ w2.L := List.mem_of_getElem? e
          exact p2 w2 σ _ (Wd.Le.refl w2) (((R.step t1 k1).step t2 k2).step (Stp.wr ma) (k2.wr e ⟨dx, _, upd_same, rp⟩))
        · exact p2.elim
  | _ => exact p2.elim
theorem pg_ixR {fi : EX} {fo fv : EX} (ho : PE X o (tE T W fo)) (hi : PE X i (tE T W fi)) (hv : PE X v (tE T W fv)) (hs : swapsWithSole [.Subscript o i pos'] v pos.line X.env = pure false := by rfl) (hw : swappedStores [.Subscript o i pos'] v X.env = pure none := by rfl)
    (h1 : (assignEach [.Subscript o i pos'] X.env).map (·.2) = [assign (.Subscript o i pos') X.env] := by rfl)
    (ha : ∀ v, assign (.Subscript o i pos') X.env v = (do
      let ov ← holding [v] (eval o X.env)
      let iv ← holding [v, ov] (eval i X.env)
      standAt pos'
      holding [v, ov, iv] (setItem ov iv v)
      release [v, ov, iv] []) := by intro _; rfl) : PS X (.Assign [.Subscript o i pos'] v pos) (tS T W (sIxR fo fi fv)) := imS (ps_asg hv (pg_sub ho hi set_list ha) hs hw h1) fun D σ H ⟨fr, w, r, S, R, p⟩ => by
  unfold sIxR at p
  rw [onS_bnd] at p
  refine ⟨fr, w, r, S, R, onS_post R p fun w1 H1 S1 y t1 k1 p1 vy ry => ⟨fr, w1, r, S1, R.step t1 k1, ?_⟩⟩
  rw [onS_bnd] at p1
  refine onS_post (R.step t1 k1) p1 fun w2 H2 S2 x t2 k2 p2 vx rx => ⟨fr, w2, r, S2, (R.step t1 k1).step t2 k2, ?_⟩
  rw [onS_bnd] at p2
  refine onS_post ((R.step t1 k1).step t2 k2) p2 fun w3 H3 S3 j t3 k3 p3 vj rj => ?_
  dsimp only [onS, Dm.pur] at p3
  cases rx with
  | @ref a n e =>
    cases rj with
    | int j =>
      dsimp only at p3
      cases q : S3[n]? with
      | none => rw [q] at p3; exact p3.elim
      | some c =>
        rw [q] at p3
        cases c with
        | obj _ _ => exact p3.elim
        | lst xs =>
          dsimp only at p3
          have e3 := t3.le.at_ e
          obtain ⟨vs, h1, h2⟩ := k3.cell n _ a q e3
          cases q2 : ixN xs.length j with
          | none => rw [q2] at p3; exact p3.elim
          | some m =>
            rw [q2] at p3
            refine ⟨a, vs, j, m, rfl, rfl, h1, by rw [h2.length]; exact q2, ?_⟩
            have rp := h2.setAt m (ry.up (t2.le.trans t3.le))
            have ma : a ∈ w3.L := List.mem_of_getElem? e3
            exact p3 w3 σ _ (Wd.Le.refl w3) ((((R.step t1 k1).step t2 k2).step t3 k3).step (Stp.wr ma) (k3.wr e3 ⟨_, upd_same, rp⟩))
    | _ => exact p3.elim
  | _ => exact p3.elim
theorem pg_ixO {s : Nat} {x : Str} {p1 : Pos} {fi fv : EX} (hi : PE X i (tE T W fi)) (hv : PE X v (tE T W fv)) (hN : X.N[s]? = some x := by rfl) (hvv : Vis X.env.scope x := by first | exact Or.inl rfl | exact Or.inr (Or.inl rfl)) (hd : (x == ("__debug__" : Str)) = false := by decide) (hcd : (x == ("__classdict__" : Str)) = false := by decide)
    (hs : swapsWithSole [.Subscript (.Name x p1) i pos'] v pos.line X.env = pure false := by rfl) (hw : swappedStores [.Subscript (.Name x p1) i pos'] v X.env = pure none := by rfl)
    (h1 : (assignEach [.Subscript (.Name x p1) i pos'] X.env).map (·.2) = [assign (.Subscript (.Name x p1) i pos') X.env] := by rfl)
    (ha : ∀ v, assign (.Subscript (.Name x p1) i pos') X.env v = (do
      let ov ← holding [v] (eval (.Name x p1) X.env)
      let iv ← holding [v, ov] (eval i X.env)
      standAt pos'
      holding [v, ov, iv] (setItem ov iv v)
      release [v, ov, iv] []) := by intro _; rfl) : PS X (.Assign [.Subscript (.Name x p1) i pos'] v pos) (tS T W (sIxO s fi fv)) := imS (ps_asg hv (pg_sub (pe_var hN hvv hd hcd) hi set_list ha) hs hw h1) fun D σ H ⟨fr, w, r, S, R, p⟩ => by
  unfold sIxO at p
  cases q0 : r[s]? with
  | none => rw [q0] at p; exact p.elim
  | some sl =>
    rw [q0] at p
    cases sl with
    | un => exact p.elim
    | sh _ => exact p.elim
    | ex _ => exact p.elim
    | ow xs =>
      dsimp only at p
      obtain ⟨c, hs, o⟩ := R.ow s xs q0
      rw [onS_bnd] at p
      refine ⟨fr, w, r, S, R, onS_post R p fun w1 H1 S1 y t1 k1 p1 vy ry => ⟨_, hs, fr, w1, r, S1, R.step t1 k1, ?_⟩⟩
      rw [onS_bnd] at p1
      refine onS_post (R.step t1 k1) p1 fun w2 H2 S2 j t2 k2 p2 vj rj => ?_
      dsimp only [onS, Dm.pur] at p2
      cases rj with
      | int j =>
        dsimp only at p2
        cases q2 : ixN xs.length j with
        | none => rw [q2] at p2; exact p2.elim
        | some m =>
          rw [q2] at p2
          obtain ⟨vs, e1, e2⟩ := (o.step (t1.trans t2)).vs
          exact ⟨c, vs, j, m, rfl, rfl, e1, by rw [e2.length]; exact q2, p2 w2 σ _ (Wd.Le.refl w2) (((R.step t1 k1).step t2 k2).upOw q0 hs (e2.setAt m (ry.up t2.le)))⟩
      | _ => exact p2.elim

/-! ### a list just made, as a cell -/
theorem e_cell {e : Expr} {l : LX} (h : PE X e (tL T W l)) : PE X e (tE T W (eCell l)) := imE h fun σ H Q ⟨fr, w, r, S, R, p⟩ => ⟨fr, w, r, S, R, by
  unfold eCell Dm.bnd at p
  cases q : l r S with
  | no => rw [q] at p; exact p
  | er x S' => rw [q] at p; exact p
  | ok xs S' =>
    rw [q] at p
    intro w' H' t k c m
    obtain ⟨vs, h1, h2⟩ := m.vs
    have le : w'.Le ⟨w'.F, w'.L ++ [c]⟩ := ⟨fun _ _ e => e, [c], rfl⟩
    refine p ⟨w'.F, w'.L ++ [c]⟩ H' ⟨t.le.trans le, t.new, t.keep, t.live, fun a ha hn => ?_⟩ ⟨k.fz, ?_, fun a ha => ?_, by simp [k.len], fun n cc a h3 h4 => ?_⟩ _ (.ref ?_)
    · rcases List.mem_append.mp ha with z | z
      · exact t.lnew a z hn
      · rw [List.mem_singleton] at z; rw [z]; exact m.new
    · exact List.nodup_append.mpr ⟨k.nd, by simp, fun a ha b hb => by rw [List.mem_singleton] at hb; rw [hb]; exact fun z => m.nl (by rw [← z]; exact ha)⟩
    · rcases List.mem_append.mp ha with z | z
      · exact k.nf a z
      · rw [List.mem_singleton] at z; rw [z]; exact m.nf
    · by_cases z : n < w'.L.length
      · rw [List.getElem?_append_left z] at h4
        rw [List.getElem?_append_left (by rw [k.len]; exact z)] at h3
        exact (k.cell n cc a h3 h4).le le rfl
      · rw [List.getElem?_append_right (by omega)] at h4
        rw [List.getElem?_append_right (by rw [k.len]; omega)] at h3
        obtain ⟨z1, z2⟩ := List.getElem?_eq_some_iff.mp h4
        have z3 : n - w'.L.length = 0 := by simp at z1; omega
        rw [z3] at h4
        rw [k.len, z3] at h3
        cases h3; cases h4
        exact ⟨vs, h1, h2.up le⟩
    · rw [List.getElem?_append_right (by rw [k.len]; exact Nat.le_refl _), k.len, Nat.sub_self]; rfl⟩
end
end Dm
set_option maxRecDepth 100000
set_option maxHeartbeats 2000000
/-! Instances made: __init__ runs on a cell, the made instance is kept for good. -/
namespace Dm
set_option autoImplicit false
open PySem L2

mutual
/-- it holds no cell from n on -/
def D.bd (n : Nat) : D → Bool
  | .lst xs => bds n xs
  | .tup xs => bds n xs
  | .ro xs => bds n xs
  | .obj _ fs => bdf n fs
  | .ref m => decide (m < n)
  | .non => true
  | .bl _ => true
  | .int _ => true
  | .str _ => true
def bds (n : Nat) : List D → Bool
  | [] => true
  | d :: ds => d.bd n && bds n ds
def bdf (n : Nat) : List (Nat × D) → Bool
  | [] => true
  | (_, d) :: fs => d.bd n && bdf n fs
end
def Cell.bd (n : Nat) : Cell → Bool
  | .lst xs => bds n xs
  | .obj _ fs => bdf n fs
def bdS (n : Nat) (S : Sto) : Bool := S.all (Cell.bd n)
/-- C(..): __init__ on a new cell, which is then dropped -/
def mkD (c : Nat) (f : List D → M D) (ds : List D) : M D := fun S => match f (.ref S.length :: ds) (S ++ [.obj c []]) with
  | .ok .non S' => match S'[S.length]? with
    | some (.obj c' fs) => if S'.length = S.length + 1 ∧ c' = c ∧ bdf S.length fs = true ∧ bdS S.length (S'.take S.length) = true then .ok (.obj c fs) (S'.take S.length) else .no
    | _ => .no
  | .er x S' => if S'.length = S.length + 1 ∧ bdf S.length x.fs = true ∧ bdS S.length (S'.take S.length) = true then .er x (S'.take S.length) else .no
  | _ => .no
/-- .. which stays a cell -/
def mkC (c : Nat) (f : List D → M D) (ds : List D) : M D := fun S => match f (.ref S.length :: ds) (S ++ [.obj c []]) with
  | .ok .non S' => .ok (.ref S.length) S'
  | .er x S' => .er x S'
  | _ => .no

section
variable {T : Tb} {w w2 : Wd} {a : Addr}
mutual
theorem rep_dn (hF : ∀ b o, w.F b = some o → w2.F b = some o) (hL : w.L = w2.L ++ [a]) : ∀ (d : D) (v : V), d.bd w2.L.length = true → Rep T w v d → Rep T w2 v d
  | .non, _, _, r => by cases r; exact .non
  | .bl b, _, _, r => by cases r; exact .bl b
  | .int i, _, _, r => by cases r; exact .int i
  | .str s, _, _, r => by cases r; exact .str s
  | .lst ds, _, h, r => by
    cases r with
    | lst p q => exact .lst (hF _ _ p) (reps_dn hF hL ds _ (by simpa [D.bd] using h) q)
  | .ro ds, _, h, r => by
    cases r with
    | ro p q => exact .ro (sqL_mono hF p) (reps_dn hF hL ds _ (by simpa [D.bd] using h) q)
  | .tup ds, _, h, r => by
    cases r with
    | tup p q => exact .tup (sqT_mono hF p) (reps_dn hF hL ds _ (by simpa [D.bd] using h) q)
  | .obj c fs, _, h, r => by
    cases r with
    | obj p q => exact .obj (hF _ _ p) (repf_dn hF hL fs _ (by simpa [D.bd] using h) q)
  | .ref n, _, h, r => by
    cases r with
    | ref p =>
      have z : n < w2.L.length := by simpa [D.bd] using h
      rw [hL, List.getElem?_append_left z] at p
      exact .ref p
theorem reps_dn (hF : ∀ b o, w.F b = some o → w2.F b = some o) (hL : w.L = w2.L ++ [a]) : ∀ (ds : List D) (vs : List V), bds w2.L.length ds = true → Reps T w vs ds → Reps T w2 vs ds
  | [], _, _, r => by cases r; exact .nil
  | d :: ds, _, h, r => by
    rw [bds, Bool.and_eq_true] at h
    cases r with
    | cons p q => exact .cons (rep_dn hF hL d _ h.1 p) (reps_dn hF hL ds _ h.2 q)
theorem repf_dn (hF : ∀ b o, w.F b = some o → w2.F b = some o) (hL : w.L = w2.L ++ [a]) : ∀ (fs : List (Nat × D)) (ws : List (Str × V)), bdf w2.L.length fs = true → RepF T w ws fs → RepF T w2 ws fs
  | [], _, _, r => by cases r; exact .nil
  | (k, d) :: fs, _, h, r => by
    rw [bdf, Bool.and_eq_true] at h
    cases r with
    | cons e p q => exact .cons e (rep_dn hF hL d _ h.1 p) (repf_dn hF hL fs _ h.2 q)
end
end
section
variable {T : Tb} {w w2 : Wd} {H : Hp} {S : Sto} {a : Addr}
theorem WOk.push (k : WOk T w H S) {a dx : Addr} {c : Nat} (ha : H a = none) (hd : H dx = none) (ne : dx ≠ a) :
    Stp w ⟨w.F, w.L ++ [a]⟩ H (upd (upd H dx (.own a)) a (.ins (T.C c) dx [])) ∧ WOk T ⟨w.F, w.L ++ [a]⟩ (upd (upd H dx (.own a)) a (.ins (T.C c) dx [])) (S ++ [.obj c []]) := by
  have le : w.Le ⟨w.F, w.L ++ [a]⟩ := ⟨fun _ _ e => e, [a], rfl⟩
  have s1 : Stp w w H (upd (upd H dx (.own a)) a (.ins (T.C c) dx [])) := (Stp.laid w hd).trans (Stp.laid w (by rw [upd_ne (Ne.symm ne)]; exact ha))
  have k1 : WOk T w (upd (upd H dx (.own a)) a (.ins (T.C c) dx [])) S := (k.laid hd).laid (by rw [upd_ne (Ne.symm ne)]; exact ha)
  refine ⟨⟨s1.le.trans le, s1.new, s1.keep, s1.live, fun b hb hn => ?_⟩, ⟨k1.fz, ?_, fun b hb => ?_, by simp [k1.len], fun n cc b h3 h4 => ?_⟩⟩
  · rcases List.mem_append.mp hb with z | z
    · exact absurd z hn
    · rw [List.mem_singleton] at z; rw [z]; exact ha
  · exact List.nodup_append.mpr ⟨k.nd, by simp, fun b hb b' hb' => by rw [List.mem_singleton] at hb'; rw [hb']; exact fun z => k.nL ha (by rw [← z]; exact hb)⟩
  · rcases List.mem_append.mp hb with z | z
    · exact k.nf b z
    · rw [List.mem_singleton] at z; rw [z]; exact k.nF ha
  · by_cases z : n < w.L.length
    · rw [List.getElem?_append_left z] at h4
      rw [List.getElem?_append_left (by rw [k.len]; exact z)] at h3
      exact (k1.cell n cc b h3 h4).le le rfl
    · rw [List.getElem?_append_right (by omega)] at h4
      rw [List.getElem?_append_right (by rw [k.len]; omega)] at h3
      obtain ⟨z1, z2⟩ := List.getElem?_eq_some_iff.mp h4
      have z3 : n - w.L.length = 0 := by simp at z1; omega
      rw [z3] at h4
      rw [k.len, z3] at h3
      cases h3; cases h4
      exact ⟨dx, [], upd_same, .nil⟩
/-- the last cell is dropped -/
theorem WOk.drop {w1 : Wd} (k : WOk T w1 H S) (hF : ∀ b o, w1.F b = some o → w2.F b = some o) (hL : w1.L = w2.L ++ [a]) (fz : ∀ b o, w2.F b = some o → H b = some o) (nf : ∀ b, b ∈ w2.L → w2.F b = none) (hb : bdS w2.L.length (S.take w2.L.length) = true) : WOk T w2 H (S.take w2.L.length) := by
  have hlen := k.len
  rw [hL, List.length_append, List.length_singleton] at hlen
  refine ⟨fz, ?_, nf, by rw [List.length_take]; omega, fun n c b h1 h2 => ?_⟩
  · have := k.nd
    rw [hL] at this
    exact (List.nodup_append.mp this).1
  · have z : n < w2.L.length := (List.getElem?_eq_some_iff.mp h2).1
    have h1' := h1
    rw [List.getElem?_take_of_lt z] at h1
    have q := k.cell n c b h1 (by rw [hL, List.getElem?_append_left z]; exact h2)
    have bc : c.bd w2.L.length = true := (List.all_eq_true.mp hb) c (List.mem_of_getElem? h1')
    cases c with
    | lst xs => obtain ⟨vs, e, r⟩ := q; exact ⟨vs, e, reps_dn hF hL _ _ bc r⟩
    | obj i fs => obtain ⟨dx, ws, e, r⟩ := q; exact ⟨dx, ws, e, repf_dn hF hL _ _ bc r⟩
end

section
variable {X : Cx} {T : Tb} {W : WX} {k n : Nat} {f : Addr} {fd : FuncData} {ps : List Str} {x : Str} {p pos : Pos} {e : Expr} {es : List Expr}
theorem run_makeG {pins : List (Addr × Obj)} {σ : L2.St} {H : Hp} {s : Shared} {Q : VK} {C : Addr} {us : List Value} {vs : List V} {sp : Sp} (M : Mk X.K C f) (F : FnG X.prog X.w X.K X.mg X.base k f fd ps sp) (c : Cok X T W (k + 1)) (hb : Binds X.K fd ps []) (I : Inv X pins σ H s) (r : Vals vs us)
    (h : ∀ x dx, H x = none → H dx = none → dx ≠ x → sp (.ref x :: vs) (upd (upd H dx (.own x)) x (.ins C dx [])) (fun v H2 => v = .non ∧ Q (.ref x) H2) (fun cls d H' => W cls d σ H')) :
    wpAny (model X.prog X.w) X.A (call (.ref C) us) (EP X pins σ Q) X.xe s := by
  have hq := h (s.heap.objs.size + 1) s.heap.objs.size (I.hok.fresh (Nat.le_succ _)) (I.hok.fresh (Nat.le_refl _)) (Nat.ne_of_lt (Nat.lt_succ_self _))
  have I2 := Inv.made (C := C) I
  have r2 : Vals (V.ref (s.heap.objs.size + 1) :: vs) (Value.ref (s.heap.objs.size + 1) :: us) := .cons rfl r
  have hg : (X.A.under (.builtin "type.__call__" ⟨.ref C :: us, []⟩)).guards = some [] := by
    have e : (X.A.under (.builtin "type.__call__" ⟨.ref C :: us, []⟩)).guards = pushGuards (Code.guards (.builtin "type.__call__" ⟨.ref C :: us, []⟩)) X.A.guards := rfl
    rw [e, c.gd]
    rfl
  refine wpAny_call (make_map (f := f) I.kIn M.makes M.init (beq_iff_eq.mp M.fn) (codeAny_mono (run_g F (c.room.make C us []) hg hb (tk_call c.tk I2) (I2.env0.make C us []) I2 r2 hq) fun r s' hq' => ?_))
  cases r with
  | error e => exact hq'
  | ok fl =>
    cases fl with
    | ret u =>
      obtain ⟨v, H', I3, rv, ev, q3⟩ := hq'
      subst ev
      exact ⟨rv, ⟨V.ref (s.heap.objs.size + 1), H', I3, rfl, q3⟩⟩
    | next => exact hq'.elim
    | brk => exact hq'.elim
    | cont => exact hq'.elim
def eMake (n : Nat) (f : List D → M D) (t : AX) : EX := fun r => bnd (t r) fun ds => need (ds.length + 1 == n) (f ds)
theorem Wd.Le.L_eq {w1 w' : Wd} {S S' : Sto} {H' : Hp} (le : w1.Le w') (k1 : S.length = w1.L.length) (k' : WOk T w' H' S') (h : S'.length = S.length) : w'.L = w1.L := by
  obtain ⟨l, e⟩ := le.L
  have := k'.len
  rw [e, List.length_append] at this
  have z : l = [] := List.length_eq_zero_iff.mp (by omega)
  rw [e, z, List.append_nil]
theorem mk_sp {w : Wd} {H : Hp} {S : Sto} {vs : List V} {ds : List D} {Q : VK} {E : XK} {g : List D → M D} {R : Wd → Hp → Sto → Exc → Prop} {c : Nat} (kw : WOk T w H S) (rs : Reps T w vs ds) (hR : ∀ w' H' S x, R w' H' S x → ∀ cls dx, ExcAt T w' H' cls dx x → E cls dx H')
    (p : Post T w H (fun w' H' _ d => ∀ v, Rep T w' v d → Q v H') R (need (ds.length + 1 == n) (mkD c g ds) S)) (x dx : Addr) (hx : H x = none) (hd : H dx = none) (ne : dx ≠ x) :
    spD T n g (.ref x :: vs) (upd (upd H dx (.own x)) x (.ins (T.C c) dx [])) (fun v H2 => v = .non ∧ Q (.ref x) H2) E := by
  obtain ⟨hn, p1⟩ := Post.need p
  obtain ⟨s1, k1⟩ := kw.push (c := c) hx hd ne
  have le1 : w.Le ⟨w.F, w.L ++ [x]⟩ := s1.le
  have xl : w.L.length = S.length := kw.len.symm
  refine ⟨_, _, .ref S.length :: ds, k1, .cons (.ref ?_) (rs.up le1), by simpa using hn, ?_⟩
  · rw [← xl, List.getElem?_append_right (Nat.le_refl _), Nat.sub_self]; rfl
  unfold mkD at p1
  have L1 : ∀ {w' : Wd} {H' : Hp} {S' : Sto}, Stp ⟨w.F, w.L ++ [x]⟩ w' (upd (upd H dx (.own x)) x (.ins (T.C c) dx [])) H' → WOk T w' H' S' → S'.length = S.length + 1 → w'.L = w.L ++ [x] := fun {w' H' S'} st kk hl =>
    st.le.L_eq k1.len kk (by rw [hl]; simp)
  have nxF : ∀ {w' : Wd} {H' : Hp} {S' : Sto}, WOk T w' H' S' → w'.L = w.L ++ [x] → w'.F x = none := fun {w' H' S'} kk hl => kk.nf x (by rw [hl]; simp)
  have back : ∀ {w' w2 : Wd} {H' : Hp}, Stp ⟨w.F, w.L ++ [x]⟩ w' (upd (upd H dx (.own x)) x (.ins (T.C c) dx [])) H' → w2.L = w.L → (∀ b o, w'.F b = some o → w2.F b = some o) → (∀ b, b ≠ x → w2.F b = w'.F b) → Stp w w2 H H' := fun {w' w2 H'} st hl hF hF2 => by
    have keepH1 : ∀ b o, H b = some o → upd (upd H dx (.own x)) x (.ins (T.C c) dx []) b = some o := fun b o e => by
      rw [upd_ne (show b ≠ x from fun z => by rw [z, hx] at e; cases e), upd_ne (show b ≠ dx from fun z => by rw [z, hd] at e; cases e)]; exact e
    have noneH : ∀ b, upd (upd H dx (.own x)) x (.ins (T.C c) dx []) b = none → H b = none := fun b e => by
      cases q : H b with
      | none => rfl
      | some o => rw [keepH1 b o q] at e; cases e
    refine ⟨⟨fun b o e => hF b o (st.le.F b o e), [], by rw [hl, List.append_nil]⟩, fun b e1 e2 => ?_, fun b o e1 e2 => ?_, fun b e => noneH b (st.live b e), fun b m nm => absurd (by rw [← hl]; exact m) nm⟩
    · by_cases z : b = x
      · rw [z]; exact hx
      · rw [hF2 b z] at e2
        exact noneH b (st.new b e1 e2)
    · refine st.keep b o (keepH1 b o e1) fun m => ?_
      rcases List.mem_append.mp m with m | m
      · exact e2 m
      · rw [List.mem_singleton] at m
        rw [m, hx] at e1; cases e1
  cases q : g (.ref S.length :: ds) (S ++ [.obj c []]) with
  | no => rw [q] at p1; exact p1
  | er z S' =>
    rw [q] at p1
    dsimp only at p1
    split at p1
    · rename_i hc
      obtain ⟨c1, c2, c3⟩ := hc
      intro w' H' st kk cls dd ea
      have hl := L1 st kk c1
      have hL2 : w'.L = (⟨w'.F, w.L⟩ : Wd).L ++ [x] := hl
      rw [← xl] at c2 c3 p1
      refine hR _ _ _ _ (p1 ⟨w'.F, w.L⟩ H' (back st rfl (fun _ _ e => e) fun _ _ => rfl) (WOk.drop (w2 := ⟨w'.F, w.L⟩) kk (fun _ _ e => e) hL2 kk.fz (fun b hb => kk.nf b (by rw [hl]; exact List.mem_append_left _ hb)) c3)) cls dd ?_
      obtain ⟨e1, d, ws, e2, e3, e4⟩ := ea
      exact ⟨e1, d, ws, e2, e3, repf_dn (w := w') (w2 := ⟨w'.F, w.L⟩) (fun _ _ e => e) hL2 _ _ c2 e4⟩
    · exact p1.elim
  | ok v S' =>
    rw [q] at p1
    cases v with
    | non =>
      dsimp only at p1
      cases q2 : S'[S.length]? with
      | none => rw [q2] at p1; exact p1.elim
      | some cc =>
        rw [q2] at p1
        cases cc with
        | lst _ => exact p1.elim
        | obj c' fs =>
          dsimp only at p1
          split at p1
          · rename_i hc
            obtain ⟨c1, rfl, c2, c3⟩ := hc
            intro w' H' st kk v rv
            cases rv
            have hl := L1 st kk c1
            have hat : w'.L[S.length]? = some x := by rw [hl, ← xl, List.getElem?_append_right (Nat.le_refl _), Nat.sub_self]; rfl
            obtain ⟨dx', ws, h1, h2⟩ := kk.cell S.length _ x q2 hat
            have nf := nxF kk hl
            have hL2 : w'.L = (⟨upd w'.F x (.ins (T.C c') dx' ws), w.L⟩ : Wd).L ++ [x] := hl
            have hF : ∀ b o, w'.F b = some o → upd w'.F x (.ins (T.C c') dx' ws) b = some o := fun b o e => by rw [upd_ne fun z => by rw [z, nf] at e; cases e]; exact e
            rw [← xl] at c2 c3 p1
            have ndl : x ∉ w.L := kw.nL hx
            refine ⟨rfl, p1 ⟨upd w'.F x (.ins (T.C c') dx' ws), w.L⟩ H' (back st rfl hF fun b hb => upd_ne hb) (WOk.drop (w2 := ⟨upd w'.F x (.ins (T.C c') dx' ws), w.L⟩) kk hF hL2 (fun b o e => ?_) (fun b hb => ?_) c3) _ (.obj (dx := dx') (ws := ws) upd_same (repf_dn (w2 := ⟨upd w'.F x (.ins (T.C c') dx' ws), w.L⟩) hF hL2 _ _ c2 h2))⟩
            · by_cases z : b = x
              · subst z
                have e' : upd w'.F b (.ins (T.C c') dx' ws) b = some o := e
                rw [upd_same] at e'; cases e'; exact h1
              · have e' : upd w'.F x (.ins (T.C c') dx' ws) b = some o := e
                rw [upd_ne z] at e'; exact kk.fz b o e'
            · show upd w'.F x (.ins (T.C c') dx' ws) b = none
              rw [upd_ne fun z => ndl (by rw [← z]; exact hb)]
              exact kk.nf b (by rw [hl]; exact List.mem_append_left _ hb)
          · exact p1.elim
    | _ => exact p1.elim
theorem e_make {c : Nat} {g : List D → M D} {a : AX} (M : Mk X.K (T.C c) f) (F : FnG X.prog X.w X.K X.mg X.base k f fd ps (spD T n g)) (ck : Cok X T W (k + 1)) (hm : X.mg x = some (.ref (T.C c))) (hb : Binds X.K fd ps []) (ha : PA X (e :: es) (tA T W a)) (hg : Gl X x := by rfl)
    (hdb : (x == ("__debug__" : Str)) = false := by decide) (he : starEach (e :: es) X.env = (false, eval e X.env) :: starEach es X.env := by rfl) (hpl : (backTo pos (starEach es X.env)).any (·.1) = false := by rfl) :
    PE X (.Call (.Name x p) (e :: es) [] pos) (tE T W (eMake n (mkD c g) a)) := by
  refine ⟨fun pins s σ H Q I ⟨fr, w, r, S, R, q⟩ => ?_⟩
  refine wpAny_Call_Name_kw (ld_glob I hg hm ?_ hdb)
  refine PySem.W.callWith_K (h₀ := X.base) I.ok.mod.kin M.kp (thn (ha.run pos pins s σ H _ I ⟨fr, w, r, S, R, Post.on (P' := fun w' H' S' ds => ∀ vs, Reps T w' vs ds → ∀ x dx, H' x = none → H' dx = none → dx ≠ x → spD T n g (.ref x :: vs) (upd (upd H' dx (.own x)) x (.ins (T.C c) dx [])) (fun v H2 => v = .non ∧ Q (.ref x) H2) (fun cls d H2 => W cls d σ H2)) (Post.bnd q)
    (fun w1 H1 S1 ds t kk p1 vs rv => mk_sp kk rv (fun _ _ _ _ z => z) p1) fun _ _ _ _ z => z⟩)
    fun us s1 ⟨vs, H1, I1, rv, q1⟩ => ⟨I1.kIn, run_makeG M F ck hb I1 rv q1⟩) he hpl
theorem e_make0 {c : Nat} {g : List D → M D} (M : Mk X.K (T.C c) f) (F : FnG X.prog X.w X.K X.mg X.base k f fd ps (spD T n g)) (ck : Cok X T W (k + 1)) (hm : X.mg x = some (.ref (T.C c))) (hb : Binds X.K fd ps []) (hg : Gl X x := by rfl)
    (hdb : (x == ("__debug__" : Str)) = false := by decide) : PE X (.Call (.Name x p) [] [] pos) (tE T W (eMake n (mkD c g) aNil)) := by
  refine ⟨fun pins s σ H Q I ⟨fr, w, r, S, R, q⟩ => ?_⟩
  refine wpAny_Call_Name_kw (ld_glob I hg hm ?_ hdb)
  exact PySem.W.callWith_K0 I.kIn M.kp (run_makeG (us := []) (vs := []) M F ck hb I .nil (mk_sp R.ok .nil (fun _ _ _ _ z => z) q))
end
end Dm
set_option maxRecDepth 100000
set_option maxHeartbeats 2000000
/-! List comprehensions. -/
namespace Dm
set_option autoImplicit false
open PySem L2

section
variable {T : Tb} {fr : Ent} {w : Wd} {r : Ev} {S : Sto} {σ : L2.St} {H : Hp}
theorem Rel.unset (R : Rel T fr w r S σ H) (i : Nat) : Rel T fr w (r.set i .un) S (σ.set i none) H := by
  have bk : ∀ {j : Nat} {s : Sl}, s ≠ .un → (r.set i .un)[j]? = some s → i ≠ j ∧ r[j]? = some s := fun {j s} hs h => by
    by_cases q : i = j
    · subst q
      by_cases z : i < r.length
      · rw [List.getElem?_set_self z] at h; cases h; exact absurd rfl hs
      · rw [List.getElem?_eq_none (by rw [List.length_set]; omega)] at h; cases h
    · rw [List.getElem?_set_ne q] at h; exact ⟨q, h⟩
  refine ⟨R.stp, R.ok, by rw [List.length_set, List.length_set]; exact R.len, fun j d h => ?_, fun j xs h => ?_, fun j z h => ?_, fun j k xs ys a hjk h1 h2 h3 h4 => ?_⟩
  · obtain ⟨q, h'⟩ := bk (by simp) h
    rw [List.getElem?_set_ne q]; exact R.sh j d h'
  · obtain ⟨q, h'⟩ := bk (by simp) h
    rw [List.getElem?_set_ne q]; exact R.ow j xs h'
  · obtain ⟨q, h'⟩ := bk (by simp) h
    rw [List.getElem?_set_ne q]; exact R.ex j z h'
  · obtain ⟨q1, h1'⟩ := bk (by simp) h1
    obtain ⟨q2, h2'⟩ := bk (by simp) h2
    rw [List.getElem?_set_ne q1] at h3
    rw [List.getElem?_set_ne q2] at h4
    exact R.dj j k xs ys a hjk h1' h2' h3 h4
theorem Rel.wipe (R : Rel T fr w r S σ H) : ∀ is : List Nat, Rel T fr w (wipeD r is) S (L2.wipe σ is) H
  | [] => R
  | i :: is => (Rel.wipe R is).unset i
theorem wipe_at {σ σ' : L2.St} (hl : σ'.length = σ.length) : ∀ {is : List Nat}, (∀ j, j ∉ is → σ'[j]? = σ[j]?) → L2.wipe σ' is = L2.wipe σ is
  | is, h => by
    have get : ∀ (τ : L2.St) (is : List Nat) (j : Nat), (L2.wipe τ is)[j]? = if j ∈ is then (if j < τ.length then some none else none) else τ[j]? := by
      intro τ is
      induction is with
      | nil => intro j; simp [L2.wipe]
      | cons i is ih =>
        intro j
        unfold L2.wipe
        by_cases q : i = j
        · subst q
          by_cases z : i < τ.length
          · rw [List.getElem?_set_self (by rw [L2.wipe_length]; exact z)]; simp [z]
          · rw [List.getElem?_eq_none (by rw [List.length_set, L2.wipe_length]; omega)]; simp [z]
        · rw [List.getElem?_set_ne q, ih j]
          have : (j ∈ i :: is) ↔ j ∈ is := by simp [Ne.symm q]
          simp only [this]
    refine List.ext_getElem? fun j => ?_
    rw [get σ' is j, get σ is j, hl]
    by_cases z : j ∈ is
    · rw [if_pos z, if_pos z]
    · rw [if_neg z, if_neg z]; exact h j z
theorem wipe_idem (σ : L2.St) (is : List Nat) : L2.wipe (L2.wipe σ is) is = L2.wipe σ is := by
  refine wipe_at (L2.wipe_length σ is) fun j hj => ?_
  induction is with
  | nil => rfl
  | cons i is ih =>
    unfold L2.wipe
    rw [List.getElem?_set_ne fun z => hj (by simp [z])]
    exact ih fun z => hj (by simp [z])
/-- a list beside all that is known is changed -/
theorem Rel.side {dl : Addr} {o : HO} (R : Rel T fr w r S σ H) (nf : w.F dl = none) (nl : dl ∉ w.L) (n0 : fr.H dl = none) (no : ∀ (i : Nat) (xs : List D) (a : Addr), r[i]? = some (.ow xs) → σ[i]? = some (some (.ref a)) → a ≠ dl) (nx : ∀ ws, H dl ≠ some (.xd ws)) : Rel T fr w r S σ (upd H dl o) := by
  refine ⟨⟨R.stp.le, R.stp.new, fun b q e n => ?_, fun b e => ?_, R.stp.lnew⟩, ⟨fun b q e => ?_, R.ok.nd, R.ok.nf, R.ok.len, fun n cc b e2 e3 => (R.ok.cell n cc b e2 e3).le (Wd.Le.refl w) (upd_ne fun q => nl (by rw [← q]; exact List.mem_of_getElem? e3))⟩, R.len, R.sh, fun i xs h => ?_, fun i x h => ?_, R.dj⟩
  · rw [upd_ne fun z => by rw [z, n0] at e; cases e]; exact R.stp.keep b q e n
  · by_cases z : b = dl
    · rw [z, upd_same] at e; cases e
    · rw [upd_ne z] at e; exact R.stp.live b e
  · rw [upd_ne fun z => by rw [z, nf] at e; cases e]; exact R.ok.fz b q e
  · obtain ⟨a, e1, ⟨vs, h1, h2⟩, h3, h4, h5⟩ := R.ow i xs h
    exact ⟨a, e1, ⟨vs, (upd_ne (no i xs a h e1)).trans h1, h2⟩, h3, h4, h5⟩
  · obtain ⟨e, e2, e3, e4, d, ws, e5, e6, e7⟩ := R.ex i x h
    exact ⟨e, e2, e3, e4, d, ws, e5, (upd_ne fun z => nx ws (by rw [← z]; exact e6)).trans e6, e7⟩
end
theorem bnd_ok {α β : Type} {m : M α} {q : α → M β} {S S2 : Sto} {b : β} (h : bnd m q S = .ok b S2) : ∃ a S1, m S = .ok a S1 ∧ q a S1 = .ok b S2 := by
  unfold bnd at h
  cases e : m S with
  | ok a S1 => rw [e] at h; exact ⟨a, S1, rfl, h⟩
  | er _ _ => rw [e] at h; cases h
  | no => rw [e] at h; cases h
theorem pur_ok {α : Type} {a b : α} {S S2 : Sto} (h : pur a S = .ok b S2) : b = a ∧ S2 = S := by cases h; exact ⟨rfl, rfl⟩
/-- what a comprehension's mirror says when it is not stuck -/
theorem lc_ok {T : Tb} {w : Wd} {H : Hp} {m : M (List D)} {S : Sto} {P : Wd → Hp → Sto → List D → Prop} {R : Wd → Hp → Sto → Exc → Prop} (p : Post T w H P R (bnd (noE m) (fun ys => need (decide (ys.length ≤ LIM)) (pur ys)) S)) :
    ∃ zs S2, m S = .ok zs S2 ∧ zs.length ≤ LIM ∧ ∀ w' H', Stp w w' H H' → WOk T w' H' S2 → P w' H' S2 zs := by
  unfold Dm.bnd noE at p
  cases e : m S with
  | er _ _ => rw [e] at p; exact p.elim
  | no => rw [e] at p; exact p.elim
  | ok zs S2 =>
    rw [e] at p
    obtain ⟨h1, h2⟩ := Post.need p
    exact ⟨zs, S2, rfl, of_decide_eq_true h1, h2⟩
theorem wipeD_ow {r : Ev} : ∀ {is : List Nat} {i : Nat} {xs : List D}, (wipeD r is)[i]? = some (.ow xs) → r[i]? = some (.ow xs)
  | [], _, _, h => h
  | j :: is, i, xs, h => by
    unfold wipeD at h
    by_cases q : j = i
    · subst q
      by_cases z : j < (wipeD r is).length
      · rw [List.getElem?_set_self z] at h; cases h
      · rw [List.getElem?_eq_none (by rw [List.length_set]; omega)] at h; cases h
    · rw [List.getElem?_set_ne q] at h; exact wipeD_ow h
section
variable {T : Tb} {W : WX} {own is : List Nat} {src : IX} {t : TX} {c : CX} {e : EX} {g : TG} {tt : TT}
/-- a list beside: what it is, while a comprehension runs -/
structure Bes (T : Tb) (w1 w : Wd) (H1 H : Hp) (dl : Addr) (ys : List D) : Prop where
  stp : Stp w1 w H1 H
  acc : ∃ acc, H dl = some (.lst acc) ∧ Reps T w acc ys
  nf : w.F dl = none
  nl : dl ∉ w.L
theorem Bes.step {w1 w w' : Wd} {H1 H H' : Hp} {dl : Addr} {ys : List D} (b : Bes T w1 w H1 H dl ys) (s : Stp w w' H H') : Bes T w1 w' H1 H' dl ys := by
  obtain ⟨acc, h1, h2⟩ := b.acc
  refine ⟨b.stp.trans s, ⟨acc, s.keep _ _ h1 b.nl, h2.up s.le⟩, ?_, fun m => ?_⟩
  · cases e : w'.F dl with
    | none => rfl
    | some o =>
      have := s.new dl b.nf (by rw [e]; simp)
      rw [h1] at this; cases this
  · have := s.lnew dl m b.nl
    rw [h1] at this; cases this
theorem Bes.add {w1 w : Wd} {H1 H : Hp} {dl : Addr} {ys : List D} {y : D} {v : V} {acc : List V} (b : Bes T w1 w H1 H dl ys) (hD : H1 dl = none) (ha : H dl = some (.lst acc)) (rv : Rep T w v y) : Bes T w1 w H1 (upd H dl (.lst (acc ++ [v]))) dl (ys ++ [y]) := by
  obtain ⟨acc', h1, h2⟩ := b.acc
  rw [ha] at h1; cases h1
  refine ⟨⟨b.stp.le, b.stp.new, fun x o e n => ?_, fun x e => ?_, b.stp.lnew⟩, ⟨_, upd_same, h2.append (.one rv)⟩, b.nf, b.nl⟩
  · rw [upd_ne fun z => by rw [z, hD] at e; cases e]; exact b.stp.keep x o e n
  · by_cases z : x = dl
    · rw [z, upd_same] at e; cases e
    · rw [upd_ne z] at e; exact b.stp.live x e
theorem lc_imp (hg : TgS T g t is) (hsub : ∀ i ∈ is, i ∈ own) (htt : ∀ σ H Q, tQ T W0 c σ H Q → tt σ H Q) (σ : L2.St) (H : Hp) (Q : VK) (h : tL T W (lLc own src t c e) σ H Q) : tLc (tIB T W src) g tt (tE T W0 e) own σ H Q := by
  obtain ⟨fr, w, r, S, R, p⟩ := h
  refine ⟨fr, w, r, S, R, (Post.bnd p).on (fun w1 H1 S1 sr t1 k1 p1 J hJ dl hD => ?_) fun _ _ _ _ q => q⟩
  obtain ⟨zs0, SE, hz0, hlen0, fin0⟩ := lc_ok p1
  have R1 := (R.step t1 k1).wipe own
  have nfr : fr.H dl = none := R1.stp.live dl hD
  have nOw : ∀ (i : Nat) (xs : List D) (a : Addr), (wipeD r own)[i]? = some (.ow xs) → (L2.wipe σ own)[i]? = some (some (.ref a)) → a ≠ dl := fun i xs a h1 h2 z => by
    obtain ⟨a', e1, ⟨vs, h3, _⟩, _⟩ := R1.ow i xs h1
    rw [h2] at e1; cases e1
    rw [z, hD] at h3; cases h3
  let Iv : Nat → Nat → Hp → Prop := fun i m H2 => ∃ w2 S2 ys zs, Bes T w1 w2 H1 H2 dl ys ∧ Rel T fr w2 (wipeD r own) S2 (L2.wipe σ own) H2 ∧ i ≤ sr.ds.length ∧ m = sr.ds.length - i ∧ lcF sr.ok t c e (wipeD r own) (sr.ds.drop i) S2 = .ok zs SE ∧ ys ++ zs = zs0
  refine ⟨Iv, ⟨sr.ds.length, w1, S1, [], zs0, ⟨Stp.laid w1 hD, ⟨[], upd_same, .nil⟩, k1.nF hD, k1.nL hD⟩, R1.step (Stp.laid w1 hD) (k1.laid hD), Nat.zero_le _, rfl, by simpa using hz0, rfl⟩, ?_⟩
  rintro i m H2 ⟨w2, S2, ys, zs, B2, R2, hi, rfl, hz, hall⟩
  have hok : sr.ok S2 := by
    by_cases h : sr.ok S2
    · exact h
    · exfalso
      cases e : sr.ds.drop i with
      | nil => rw [e] at hz; simp only [lcF, if_neg h] at hz; cases hz
      | cons _ _ => rw [e] at hz; simp only [lcF, if_neg h] at hz; cases hz
  have tk := hJ w2 H2 S2 B2.stp R2.ok hok
  by_cases zi : i = sr.ds.length
  · refine .inl ⟨tk.1 i (by omega), ?_⟩
    rw [zi, List.drop_length] at hz
    simp only [lcF, if_pos hok] at hz
    obtain ⟨rfl, rfl⟩ := pur_ok hz
    rw [List.append_nil] at hall
    subst hall
    exact fin0 w2 H2 B2.stp R2.ok dl ⟨B2.acc, B2.nf, B2.nl, t1.live dl hD⟩
  · have hlt : i < sr.ds.length := by omega
    have e1 : sr.ds[i]? = some sr.ds[i] := List.getElem?_eq_getElem hlt
    obtain ⟨go, yl⟩ := tk.2 i _ e1
    refine .inr ⟨go, Iv (i + 1) (sr.ds.length - (i + 1)), fun H' q => ⟨_, by omega, q⟩, fun x H3 hy => ?_⟩
    obtain ⟨w3, t3, k3, rx⟩ := yl x H3 hy
    have B3 := B2.step t3
    have R3 := R2.step t3 k3
    rw [List.drop_eq_getElem_cons hlt] at hz
    simp only [lcF, if_pos hok] at hz
    cases q1 : t sr.ds[i] (wipeD r own) with
    | none => rw [q1] at hz; cases hz
    | some r1 =>
      rw [q1] at hz
      dsimp only at hz
      obtain ⟨b, S4, hc4, hz4⟩ := bnd_ok hz
      refine hg fr w3 _ S2 _ H3 x _ r1 _ R3 rx q1 fun σ2 Rt hj => ⟨?_, htt _ _ _ ⟨fr, w3, r1, S2, Rt, ?_⟩⟩
      · rw [← wipe_idem σ own]
        exact wipe_at hj.len fun j hjo => hj.at_ j fun z => hjo (hsub j z)
      rw [hc4]
      intro w4 H4 t4 k4
      cases b with
      | false =>
        rw [if_neg Bool.false_ne_true] at hz4
        rw [if_neg Bool.false_ne_true]
        exact ⟨w4, S4, ys, zs, B3.step t4, R3.step t4 k4, hlt, rfl, hz4, hall⟩
      | true =>
        rw [if_pos rfl] at hz4
        rw [if_pos rfl]
        obtain ⟨y, S5, hy5, hz5⟩ := bnd_ok hz4
        obtain ⟨zs', S6, hz6, hz7⟩ := bnd_ok hz5
        obtain ⟨rfl, rfl⟩ := pur_ok hz7
        refine ⟨fr, w4, r1, S4, Rt.step t4 k4, ?_⟩
        rw [hy5]
        intro w5 H5 t5 k5 v rv
        have B5 := (B3.step t4).step t5
        obtain ⟨acc, a1, a2⟩ := B5.acc
        refine ⟨acc, a1, ?_, w5, S5, ys ++ [y], zs', B5.add hD a1 rv, ((R3.step t4 k4).step t5 k5).side B5.nf B5.nl nfr nOw (fun ws z => by rw [a1] at z; cases z), hlt, rfl, hz6, by rw [← hall]; simp⟩
        rw [a2.length, limE]
        have : (ys ++ y :: zs').length ≤ LIM := by rw [hall]; exact hlen0
        rw [List.length_append, List.length_cons] at this
        omega
/-- a run of an inner clause over what is left of it -/
theorem lc2_imp {own1 is1 : List Nat} {src1 : IX} {t1 : TX} {c1 : CX} {g1 : TG} {tt1 : TT} (hg : TgS T g t is) (hsub : ∀ i ∈ is, i ∈ own) (htt : ∀ σ H Q, tQ T W0 c σ H Q → tt σ H Q) (hg1 : TgS T g1 t1 is1) (hsub1 : ∀ i ∈ is1, i ∈ own1) (hown : ∀ i ∈ own1, i ∈ own) (htt1 : ∀ σ H Q, tQ T W0 c1 σ H Q → tt1 σ H Q)
    (σ : L2.St) (H : Hp) (Q : VK) (h : tL T W (lLc2 own src t c own1 src1 t1 c1 e) σ H Q) : tLc2 (tIB T W src) g tt (tI T W0 src1) g1 tt1 (tE T W0 e) own own1 σ H Q := by
  obtain ⟨fr, w, r, S, R, p⟩ := h
  refine ⟨fr, w, r, S, R, (Post.bnd p).on (fun w1 H1 S1 sr s1 k1 p1 J hJ dl hD => ?_) fun _ _ _ _ q => q⟩
  obtain ⟨zs0, SE, hz0, hlen0, fin0⟩ := lc_ok p1
  have R1 := (R.step s1 k1).wipe own
  have nfr : fr.H dl = none := R1.stp.live dl hD
  have nOw : ∀ (i : Nat) (xs : List D) (a : Addr), (wipeD r own)[i]? = some (.ow xs) → (L2.wipe σ own)[i]? = some (some (.ref a)) → a ≠ dl := fun i xs a h1 h2 z => by
    obtain ⟨a', e1, ⟨vs, h3, _⟩, _⟩ := R1.ow i xs h1
    rw [h2] at e1; cases e1
    rw [z, hD] at h3; cases h3
  let Iv : Nat → Nat → Hp → Prop := fun i m H2 => ∃ w2 S2 ys zs, Bes T w1 w2 H1 H2 dl ys ∧ Rel T fr w2 (wipeD r own) S2 (L2.wipe σ own) H2 ∧ i ≤ sr.ds.length ∧ m = sr.ds.length - i ∧ lcF2 sr.ok t c own1 src1 t1 c1 e (wipeD r own) (sr.ds.drop i) S2 = .ok zs SE ∧ ys ++ zs = zs0
  refine ⟨Iv, ⟨sr.ds.length, w1, S1, [], zs0, ⟨Stp.laid w1 hD, ⟨[], upd_same, .nil⟩, k1.nF hD, k1.nL hD⟩, R1.step (Stp.laid w1 hD) (k1.laid hD), Nat.zero_le _, rfl, by simpa using hz0, rfl⟩, ?_⟩
  rintro i m H2 ⟨w2, S2, ys, zs, B2, R2, hi, rfl, hz, hall⟩
  have hok : sr.ok S2 := by
    by_cases h : sr.ok S2
    · exact h
    · exfalso
      cases e : sr.ds.drop i with
      | nil => rw [e] at hz; simp only [lcF2, if_neg h] at hz; cases hz
      | cons _ _ => rw [e] at hz; simp only [lcF2, if_neg h] at hz; cases hz
  have tk := hJ w2 H2 S2 B2.stp R2.ok hok
  by_cases zi : i = sr.ds.length
  · refine .inl ⟨tk.1 i (by omega), ?_⟩
    rw [zi, List.drop_length] at hz
    simp only [lcF2, if_pos hok] at hz
    obtain ⟨rfl, rfl⟩ := pur_ok hz
    rw [List.append_nil] at hall
    subst hall
    exact fin0 w2 H2 B2.stp R2.ok dl ⟨B2.acc, B2.nf, B2.nl, s1.live dl hD⟩
  · have hlt : i < sr.ds.length := by omega
    have e1 : sr.ds[i]? = some sr.ds[i] := List.getElem?_eq_getElem hlt
    obtain ⟨go, yl⟩ := tk.2 i _ e1
    refine .inr ⟨go, Iv (i + 1) (sr.ds.length - (i + 1)), fun H' q => ⟨_, by omega, q⟩, fun x H3 hy => ?_⟩
    obtain ⟨w3, t3, k3, rx⟩ := yl x H3 hy
    have B3 := B2.step t3
    have R3 := R2.step t3 k3
    rw [List.drop_eq_getElem_cons hlt] at hz
    simp only [lcF2, if_pos hok] at hz
    cases q1 : t sr.ds[i] (wipeD r own) with
    | none => rw [q1] at hz; cases hz
    | some r1 =>
      rw [q1] at hz
      dsimp only at hz
      obtain ⟨b, S4, hc4, hz4⟩ := bnd_ok hz
      refine hg fr w3 _ S2 _ H3 x _ r1 _ R3 rx q1 fun σ2 Rt hj => ⟨?_, htt _ _ _ ⟨fr, w3, r1, S2, Rt, ?_⟩⟩
      · rw [← wipe_idem σ own]
        exact wipe_at hj.len fun j hjo => hj.at_ j fun z => hjo (hsub j z)
      rw [hc4]
      intro w4 H4 t4 k4
      cases b with
      | false =>
        rw [if_neg Bool.false_ne_true] at hz4
        rw [if_neg Bool.false_ne_true]
        exact ⟨w4, S4, ys, zs, B3.step t4, R3.step t4 k4, hlt, rfl, hz4, hall⟩
      | true =>
        rw [if_pos rfl] at hz4
        rw [if_pos rfl]
        obtain ⟨se, S5, hs5, hz5⟩ := bnd_ok hz4
        obtain ⟨us0, S6, hi6, hz6⟩ := bnd_ok hz5
        obtain ⟨ws, S7, hr7, hz7⟩ := bnd_ok hz6
        obtain ⟨rfl, rfl⟩ := pur_ok hz7
        have B4 := B3.step t4
        have R4 := R3.step t4 k4
        have Rt4 := Rt.step t4 k4
        refine ⟨fr, w4, r1, S4, Rt4, ?_⟩
        rw [hs5]
        intro w5 H5 t5 k5 J1 hJ1
        have B5 := B4.step t5
        have R5 := R4.step t5 k5
        have Rt5 := (Rt4.step t5 k5).wipe own1
        have nOw1 : ∀ (i : Nat) (xs : List D) (a : Addr), (wipeD r1 own1)[i]? = some (.ow xs) → (L2.wipe σ2 own1)[i]? = some (some (.ref a)) → a ≠ dl := fun i xs a h1 h2 z => by
          obtain ⟨h3, h4⟩ := hj.ow i xs (wipeD_ow h1)
          exact nOw i xs a h3 (h4 ▸ (L2.wipe_some h2).1) z
        let Iw : Nat → Nat → Hp → Prop := fun j m H6 => ∃ w6 S6' ys1 us, w5.Le w6 ∧ Bes T w1 w6 H1 H6 dl (ys ++ ys1) ∧ Rel T fr w6 (wipeD r own) S6' (L2.wipe σ own) H6 ∧ Rel T fr w6 (wipeD r1 own1) S6' (L2.wipe σ2 own1) H6 ∧ j ≤ se.ds.length ∧ m = se.ds.length - j ∧ lcF se.ok t1 c1 e (wipeD r1 own1) (se.ds.drop j) S6' = .ok us S6 ∧ ys1 ++ us = us0
        refine ⟨Iw, ⟨se.ds.length, w5, S5, [], us0, Wd.Le.refl w5, by rw [List.append_nil]; exact B5, R5, Rt5, Nat.zero_le _, rfl, by simpa using hi6, rfl⟩, ?_⟩
        rintro j m H6 ⟨w6, S6', ys1, us, l6, B6, R6, Rt6, hj6, rfl, hu, hus⟩
        have hok6 : se.ok S6' := by
          by_cases h : se.ok S6'
          · exact h
          · exfalso
            cases e : se.ds.drop j with
            | nil => rw [e] at hu; simp only [lcF, if_neg h] at hu; cases hu
            | cons _ _ => rw [e] at hu; simp only [lcF, if_neg h] at hu; cases hu
        have tk6 := hJ1 w6 H6 S6' l6 R6.ok hok6
        by_cases zj : j = se.ds.length
        · refine .inl ⟨tk6.1 j (by omega), ?_⟩
          rw [zj, List.drop_length] at hu
          simp only [lcF, if_pos hok6] at hu
          obtain ⟨rfl, rfl⟩ := pur_ok hu
          rw [List.append_nil] at hus
          subst hus
          exact ⟨w6, S6, ys ++ ys1, ws, B6, R6, hlt, rfl, hr7, by rw [← hall]; simp⟩
        · have hltj : j < se.ds.length := by omega
          have e6 : se.ds[j]? = some se.ds[j] := List.getElem?_eq_getElem hltj
          obtain ⟨go6, yl6⟩ := tk6.2 j _ e6
          refine .inr ⟨go6, Iw (j + 1) (se.ds.length - (j + 1)), fun H' q => ⟨_, by omega, q⟩, fun x1 H7 hy7 => ?_⟩
          obtain ⟨w7, t7, k7, rx7⟩ := yl6 x1 H7 hy7
          have B7 := B6.step t7
          have R7 := R6.step t7 k7
          have Rt7 := Rt6.step t7 k7
          rw [List.drop_eq_getElem_cons hltj] at hu
          simp only [lcF, if_pos hok6] at hu
          cases q2 : t1 se.ds[j] (wipeD r1 own1) with
          | none => rw [q2] at hu; cases hu
          | some r2 =>
            rw [q2] at hu
            dsimp only at hu
            obtain ⟨b8, S8, hc8, hu8⟩ := bnd_ok hu
            refine hg1 fr w7 _ S6' _ H7 x1 _ r2 _ Rt7 rx7 q2 fun σ3 Ru hk => ⟨?_, htt1 _ _ _ ⟨fr, w7, r2, S6', Ru, ?_⟩⟩
            · rw [← wipe_idem σ2 own1]
              exact wipe_at hk.len fun i hio => hk.at_ i fun z => hio (hsub1 i z)
            rw [hc8]
            intro w8 H8 t8 k8
            cases b8 with
            | false =>
              rw [if_neg Bool.false_ne_true] at hu8
              rw [if_neg Bool.false_ne_true]
              exact ⟨w8, S8, ys1, us, (l6.trans t7.le).trans t8.le, B7.step t8, R7.step t8 k8, Rt7.step t8 k8, hltj, rfl, hu8, hus⟩
            | true =>
              rw [if_pos rfl] at hu8
              rw [if_pos rfl]
              obtain ⟨y, S9, hy9, hu9⟩ := bnd_ok hu8
              obtain ⟨us', SA, hu10, hu11⟩ := bnd_ok hu9
              obtain ⟨rfl, rfl⟩ := pur_ok hu11
              refine ⟨fr, w8, r2, S8, Ru.step t8 k8, ?_⟩
              rw [hy9]
              intro w9 H9 t9 k9 v rv
              have B9 := (B7.step t8).step t9
              obtain ⟨acc, a1, a2⟩ := B9.acc
              have nx : ∀ ws, H9 dl ≠ some (.xd ws) := fun ws z => by rw [a1] at z; cases z
              refine ⟨acc, a1, ?_, w9, S9, ys1 ++ [y], us', ((l6.trans t7.le).trans t8.le).trans t9.le, by rw [← List.append_assoc]; exact B9.add hD a1 rv, ((R7.step t8 k8).step t9 k9).side B9.nf B9.nl nfr nOw nx, ((Rt7.step t8 k8).step t9 k9).side B9.nf B9.nl nfr nOw1 nx, hltj, rfl, hu10, by rw [← hus]; simp⟩
              rw [a2.length, limE]
              have : zs0.length ≤ LIM := hlen0
              rw [← hall, ← hus] at this
              simp only [List.length_append, List.length_cons] at this ⊢
              omega
end
/-! ### the rules -/
section
variable {X : Cx} {T : Tb} {W : WX} {elt tg iter tg1 iter1 : Expr} {ifs ifs1 : List Expr} {scope : Scope} {own : List (Str × Nat)} {pos : Pos} {src src1 : IX} {t t1 : TX} {is is1 own1 : List Nat} {c c1 : CX} {e : EX}
theorem tests_nil {X : Cx} : PTs X [] (tQ T W0 cYes) := ⟨fun pins s σ H Q I ⟨fr, w, r, S, R, p⟩ => pts_nil.run pins s σ H Q I (Post.ok p R.ok)⟩
/-- what a comprehension's parts are asked in any of its blocks -/
abbrev InBlk (X : Cx) (scope : Scope) (P : Cx → Prop) : Prop := ∀ (s : Shared) (H : Hp) (C : Addr) (cl : List (Str × Addr)) (fp : List Addr), P (X.blk s H scope (compEnvC scope cl C X.env) fp)
theorem Cok.blk {X : Cx} {T : Tb} {W : WX} {k : Nat} (C : Cok X T W k) (s : Shared) (H : Hp) (C0 : Addr) (cl : List (Str × Addr)) (fp : List Addr) : Cok (X.blk s H scope (compEnvC scope cl C0 X.env) fp) T W0 k :=
  ⟨C.K, C.room, C.gd, takes_none5, C.calm, fun e s x => x.elim⟩
theorem l_lc (hc : X.calm = true) (hN : X.N.Nodup) (hi : PI X tg iter (tIB T W src)) (ok : BlkOk X.N X.env.scope scope own) (hsub : ∀ i ∈ is, i ∈ own.map (·.2)) (hg : ∃ g, InBlk X scope (fun Y => PG Y tg g) ∧ TgS T g t is) (ht : InBlk X scope fun Y => PTs Y ifs (tQ T W0 c)) (he : InBlk X scope fun Y => PE Y elt (tE T W0 e))
    (hs : ∀ x, foldedSetIterable iter X.env x = pure x := by intro _; rfl) : PE X (.ListComp elt [⟨tg, iter, ifs, 0⟩] scope pos) (tL T W (lLc (own.map (·.2)) src t c e)) := by
  obtain ⟨g, h1, h2⟩ := hg
  exact imE (pe_lc hc hN hi ok h1 ht he hs) (lc_imp h2 hsub fun _ _ _ q => q)
theorem l_lc2 (hc : X.calm = true) (hN : X.N.Nodup) (hi : PI X tg iter (tIB T W src)) (ok : BlkOk X.N X.env.scope scope own) (hsub : ∀ i ∈ is, i ∈ own.map (·.2)) (hown : ∀ i ∈ own1, i ∈ own.map (·.2)) (hsub1 : ∀ i ∈ is1, i ∈ own1) (hg : ∃ g, InBlk X scope (fun Y => PG Y tg g) ∧ TgS T g t is) (ht : InBlk X scope fun Y => PTs Y ifs (tQ T W0 c))
    (hi1 : InBlk X scope fun Y => PI Y tg1 iter1 (tI T W0 src1)) (hg1 : ∃ g, InBlk X scope (fun Y => PG Y tg1 g) ∧ TgS T g t1 is1) (ht1 : InBlk X scope fun Y => PTs Y ifs1 (tQ T W0 c1)) (he : InBlk X scope fun Y => PE Y elt (tE T W0 e))
    (hs : ∀ x, foldedSetIterable iter X.env x = pure x := by intro _; rfl) (hs1 : ∀ env x, foldedSetIterable iter1 env x = pure x := by intro _ _; rfl) : PE X (.ListComp elt [⟨tg, iter, ifs, 0⟩, ⟨tg1, iter1, ifs1, 0⟩] scope pos) (tL T W (lLc2 (own.map (·.2)) src t c own1 src1 t1 c1 e)) := by
  obtain ⟨g, h1, h2⟩ := hg
  obtain ⟨g1, h3, h4⟩ := hg1
  exact imE (pe_lc2 hc hN hi ok hown h1 ht hi1 h3 ht1 he hs hs1) (lc2_imp h2 hsub (fun _ _ _ q => q) h4 hsub1 hown fun _ _ _ q => q)
end
end Dm
set_option maxRecDepth 100000
/-! The plain part of operators, built-ins, methods. -/
namespace Dm
set_option autoImplicit false
open PySem

/-! ### equality of data -/
mutual
def eqD : D → D → Bool
  | .non, .non => true
  | .bl a, .bl b => a == b
  | .bl a, .int j => (if a then 1 else 0) == j
  | .int i, .bl b => i == (if b then 1 else 0)
  | .int i, .int j => i == j
  | .str x, .str y => x == y
  | .lst xs, .lst ys => eqDs xs ys
  | .tup xs, .tup ys => eqDs xs ys
  | _, _ => false
def eqDs : List D → List D → Bool
  | [], [] => true
  | x :: xs, y :: ys => eqD x y && eqDs xs ys
  | _, _ => false
end
/-- none, bools, ints, texts -/
def flD : D → Bool
  | .non => true
  | .bl _ => true
  | .int _ => true
  | .str _ => true
  | _ => false
mutual
/-- data of nesting at most n, its signs real ones -/
def wfD (n : Nat) : D → Bool
  | .non => true
  | .bl _ => true
  | .int _ => true
  | .str s => s.all fun c => decide (c < 1114112)
  | .lst xs => match n with
    | 0 => false
    | n + 1 => wfDs n xs
  | .tup xs => match n with
    | 0 => false
    | n + 1 => wfDs n xs
  | _ => false
def wfDs (n : Nat) : List D → Bool
  | [] => true
  | d :: ds => wfD n d && wfDs n ds
end
/-- a cell's list, looked at -/
def res (S : Sto) : D → D
  | .ref n => match S[n]? with
    | some (.lst xs) => .lst xs
    | _ => .ref n
  | .ro xs => .lst xs
  | d => d
def eqS (S : Sto) (x y : D) : Option Bool := if flD x && flD y then some (eqD x y) else if wfD 60 (res S x) && wfD 60 (res S y) then some (eqD (res S x) (res S y)) else none
def ofO {α β : Type} (o : Option α) (k : α → β) : M β := fun S => match o with
  | some a => .ok (k a) S
  | none => .no
def gEq (x y : D) : M D := fun S => ofO (eqS S x y) (fun b => .bl b) S
def gNe (x y : D) : M D := fun S => ofO (eqS S x y) (fun b => .bl (!b)) S

/-! ### numbers, texts, sequences -/
def seqM (S : Sto) (x y : D) : Option (List D × List D) := match lstM S x, lstM S y with
  | some xs, some ys => some (xs, ys)
  | _, _ => none
def gCat (x y : D) : M (List D) := fun S => match seqM S x y with
  | some (xs, ys) => if xs.length + ys.length ≤ LIM then .ok (xs ++ ys) S else .no
  | none => .no
def gAdd (x y : D) : M D := match x, y with
  | .int i, .int j => pur (.int (i + j))
  | .str s, .str t => need (decide (s.length + t.length ≤ LIM)) (pur (.str (s ++ t)))
  | .tup xs, .tup ys => need (decide (xs.length + ys.length ≤ LIM)) (pur (.tup (xs ++ ys)))
  | _, _ => bnd (gCat x y) fun xs => pur (.lst xs)
def gSub (x y : D) : M D := match x, y with
  | .int i, .int j => pur (.int (i - j))
  | _, _ => stk
def gRep (x y : D) : M (List D) := fun S => match lstM S x, y with
  | some xs, .int k => if -(2 ^ 63) ≤ k ∧ k < 2 ^ 63 ∧ xs.length * k.toNat ≤ LIM then .ok (List.replicate k.toNat xs).flatten S else .no
  | _, _ => .no
def gMul (x y : D) : M D := match x, y with
  | .int i, .int j => need (decide (i.natAbs.log2 + j.natAbs.log2 < 1000000)) (pur (.int (i * j)))
  | .str s, .int k => need (decide (-(2 ^ 63) ≤ k ∧ k < 2 ^ 63 ∧ s.length * k.toNat ≤ LIM)) (pur (.str (List.replicate k.toNat s).flatten))
  | _, _ => bnd (gRep x y) fun xs => pur (.lst xs)
def gFdv (x y : D) : M D := match x, y with
  | .int i, .int j => need (decide (0 < j ∧ j.natAbs.log2 < 9000)) (pur (.int (i / j)))
  | _, _ => stk
def gMod (x y : D) : M D := match x, y with
  | .int i, .int j => need (decide (0 < j)) (pur (.int (i % j)))
  | _, _ => stk
def gPow (x y : D) : M D := match x, y with
  | .int i, .int j => need (decide (0 ≤ j ∧ j ≤ 1000000 ∧ i.natAbs < 2 ^ 64)) (pur (.int (i ^ j.toNat)))
  | _, _ => stk
def gNeg (x : D) : M D := match x with
  | .int i => pur (.int (-i))
  | _ => stk
def gLt (x y : D) : M D := match x, y with
  | .int i, .int j => pur (.bl (decide (i < j)))
  | _, _ => stk
def gLe (x y : D) : M D := match x, y with
  | .int i, .int j => pur (.bl (decide (i ≤ j)))
  | _, _ => stk
def gGt (x y : D) : M D := match x, y with
  | .int i, .int j => pur (.bl (decide (j < i)))
  | _, _ => stk
def gGe (x y : D) : M D := match x, y with
  | .int i, .int j => pur (.bl (decide (j ≤ i)))
  | _, _ => stk
/-- the items of a list or a tuple -/
def itmS (S : Sto) : D → Option (List D)
  | .tup xs => some xs
  | d => lstOf S d
def inS (S : Sto) (x y : D) : Option Bool := match y with
  | .str t => match x with
    | .str [c] => some (decide (c ∈ t))
    | _ => none
  | _ => match itmS S y with
    | some xs => if flD x && xs.all flD then some (xs.any fun z => eqD z x) else match res S y with
      | .lst ys => if wfD 60 x && wfD 60 (.lst ys) then some (ys.any fun z => eqD z x) else none
      | _ => none
    | none => none
def gIn (x y : D) : M D := fun S => ofO (inS S x y) (fun b => .bl b) S
def gNin (x y : D) : M D := fun S => ofO (inS S x y) (fun b => .bl (!b)) S
def isNon : D → Bool
  | .non => true
  | _ => false
/-- is None; is True, is False -/
def isS (x y : D) : Option Bool := match y with
  | .non => some (isNon x)
  | .bl b => match x with
    | .bl a => some (decide (a = b))
    | _ => none
  | _ => none
def gIs (x y : D) : M D := ofO (isS x y) fun b => .bl b
def gNis (x y : D) : M D := ofO (isS x y) fun b => .bl (!b)
/-- a place among n -/
def plc (n : Nat) (i : Int) : Option Nat := if 0 ≤ i then (if i < n then some i.toNat else none) else if -(n : Int) ≤ i then some (i + n).toNat else none
def atD {α : Type} (xs : List α) (i : Int) : Option α := (plc xs.length i).bind fun j => xs[j]?
def gIx (x y : D) : M D := fun S => match y with
  | .int i => match x with
    | .str s => if s.length ≤ LIM then ofO (atD s i) (fun c => .str [c]) S else .no
    | _ => match itmS S x with
      | some xs => ofO (atD xs i) (fun d => d) S
      | none => .no
  | _ => .no
/-- a slice's bound as a place -/
def bdI (n d : Nat) : Option Int → Nat
  | none => d
  | some v => if v < 0 then (v + (n : Int)).toNat else min v.toNat n
def cutD {α : Type} (xs : List α) (lo hi : Option Int) : List α := (xs.drop (bdI xs.length 0 lo)).take (bdI xs.length xs.length hi - bdI xs.length 0 lo)
def gCutL (lo hi : Option Int) (x : D) : M (List D) := fun S => ofO (lstOf S x) (fun xs => cutD xs lo hi) S
def gCut (lo hi : Option Int) (x : D) : M D := match x with
  | .str s => need (decide (s.length ≤ LIM)) (pur (.str (cutD s lo hi)))
  | .tup xs => need (decide (¬ (bdI xs.length 0 lo = 0 ∧ bdI xs.length xs.length hi = xs.length))) (pur (.tup (cutD xs lo hi)))
  | _ => bnd (gCutL lo hi x) fun xs => pur (.lst xs)

/-! ### built-ins -/
def fLen (a : List D) : M D := fun S => match a with
  | [.str s] => if s.length ≤ LIM then .ok (.int s.length) S else .no
  | [x] => ofO (itmS S x) (fun xs => .int xs.length) S
  | _ => .no
def fAbs (a : List D) : M D := match a with
  | [.int i] => pur (.int (if i < 0 then -i else i))
  | _ => stk
def fInt (a : List D) : M D := match a with
  | [.int i] => pur (.int i)
  | [.bl b] => pur (.int (if b then 1 else 0))
  | _ => stk
/-- a number's figures -/
def figs (i : Int) : List Nat := (PySem.Str.ofString (toString i)).cps.toList
def fStr (a : List D) : M D := match a with
  | [.int i] => need (decide (i.natAbs.log2 < 1920)) (pur (.str (figs i)))
  | [.str s] => pur (.str s)
  | _ => stk
mutual
def pyD : D → PyData
  | .bl b => .bool b
  | .int i => .int i
  | .str s => .str ⟨s.toArray⟩
  | .lst xs => .list (pyDs xs)
  | .tup xs => .tuple (pyDs xs)
  | _ => .none
def pyDs : List D → List PyData
  | [] => []
  | d :: ds => pyD d :: pyDs ds
end
mutual
/-- data that may be shown: ints of not too many figures -/
def shD : D → Bool
  | .non => true
  | .bl _ => true
  | .int i => decide (i.natAbs.log2 < 1920)
  | .str _ => true
  | .lst xs => shDs xs
  | .tup xs => shDs xs
  | _ => false
def shDs : List D → Bool
  | [] => true
  | d :: ds => shD d && shDs ds
end
def reprD (d : D) : List Nat := (pyD d).shown.cps.toList
def fRepr (a : List D) : M D := fun S => match a with
  | [x] => if wfD 60 (res S x) && shD (res S x) && decide ((reprD (res S x)).length ≤ LIM) then .ok (.str (reprD (res S x))) S else .no
  | _ => .no
def fTup (a : List D) : M D := fun S => match a with
  | [x] => ofO (itmS S x) (fun xs => .tup xs) S
  | _ => .no
def lList (a : List D) : M (List D) := fun S => match a with
  | [x] => ofO (itmS S x) (fun xs => xs) S
  | _ => .no
def asInts : List D → Option (List Int)
  | [] => some []
  | .int i :: ds => (asInts ds).map (i :: ·)
  | _ => none
def asBls : List D → Option (List Bool)
  | [] => some []
  | .bl i :: ds => (asBls ds).map (i :: ·)
  | _ => none
def asStrs : List D → Option (List (List Nat))
  | [] => some []
  | .str i :: ds => (asStrs ds).map (i :: ·)
  | _ => none
def fSum (a : List D) : M D := fun S => match a with
  | [x] => ofO ((lstOf S x).bind asInts) (fun ns => .int ns.sum) S
  | _ => .no
def fAll (a : List D) : M D := fun S => match a with
  | [x] => ofO ((lstOf S x).bind asBls) (fun bs => .bl (bs.all id)) S
  | _ => .no
def fAny (a : List D) : M D := fun S => match a with
  | [x] => ofO ((lstOf S x).bind asBls) (fun bs => .bl (bs.any id)) S
  | _ => .no
/-- what a value is -/
inductive Kd where
  | non | bl | int | str | lst | tup | cls (c : Nat)
def kdS (S : Sto) : D → Option Kd
  | .non => some .non
  | .bl _ => some .bl
  | .int _ => some .int
  | .str _ => some .str
  | .lst _ => some .lst
  | .ro _ => some .lst
  | .tup _ => some .tup
  | .obj c _ => some (.cls c)
  | .ref n => match S[n]? with
    | some (.lst _) => some .lst
    | some (.obj c _) => some (.cls c)
    | none => none
def gIsi (f : Kd → Option Bool) (x : D) : M D := fun S => ofO ((kdS S x).bind f) (fun b => .bl b) S

/-! ### methods -/
def joinD (sep : List Nat) : List (List Nat) → List Nat
  | [] => []
  | [x] => x
  | x :: y :: r => x ++ sep ++ joinD sep (y :: r)
end Dm
set_option maxRecDepth 100000
set_option maxHeartbeats 1000000
/-! Equality of trees, and of what stands for them. -/
namespace Dm
set_option autoImplicit false
open PySem L2

theorem str_beq (x y : List Nat) : ((⟨x.toArray⟩ : Str) == ⟨y.toArray⟩) = (x == y) := by
  rw [Bool.eq_iff_iff, beq_iff_eq, beq_iff_eq]
  constructor
  · intro h
    have := congrArg (fun s : Str => s.cps.toList) h
    simpa using this
  · rintro rfl; rfl
mutual
theorem eq_py (n : Nat) : ∀ (x y : D), wfD n x = true → wfD n y = true → PyData.eqv (pyD x) (pyD y) = eqD x y
  | .non, y, h1, h2 => by cases y <;> first | rfl | (simp [wfD] at h2)
  | .bl b, y, h1, h2 => by cases y <;> first | rfl | (simp [wfD] at h2)
  | .int i, y, h1, h2 => by cases y <;> first | rfl | (simp [wfD] at h2)
  | .str s, y, h1, h2 => by
    cases y with
    | str t => show ((⟨s.toArray⟩ : Str) == ⟨t.toArray⟩) = _; rw [str_beq]; rfl
    | _ => first | rfl | (simp [wfD] at h2)
  | .lst xs, y, h1, h2 => by
    cases y with
    | lst ys =>
      cases n with
      | zero => simp [wfD] at h1
      | succ n =>
        show PyData.eqvAll (pyDs xs) (pyDs ys) = eqDs xs ys
        exact eqs_py n xs ys (by simpa [wfD] using h1) (by simpa [wfD] using h2)
    | _ => first | rfl | (simp [wfD] at h2)
  | .tup xs, y, h1, h2 => by
    cases y with
    | tup ys =>
      cases n with
      | zero => simp [wfD] at h1
      | succ n =>
        show PyData.eqvAll (pyDs xs) (pyDs ys) = eqDs xs ys
        exact eqs_py n xs ys (by simpa [wfD] using h1) (by simpa [wfD] using h2)
    | _ => first | rfl | (simp [wfD] at h2)
  | .ro xs, y, h1, h2 => by simp [wfD] at h1
  | .obj c fs, y, h1, h2 => by simp [wfD] at h1
  | .ref m, y, h1, h2 => by simp [wfD] at h1
theorem eqs_py (n : Nat) : ∀ (xs ys : List D), wfDs n xs = true → wfDs n ys = true → PyData.eqvAll (pyDs xs) (pyDs ys) = eqDs xs ys
  | [], ys, h1, h2 => by cases ys <;> rfl
  | x :: xs, ys, h1, h2 => by
    cases ys with
    | nil => rfl
    | cons y ys =>
      rw [wfDs, Bool.and_eq_true] at h1 h2
      show (PyData.eqv (pyD x) (pyD y) && PyData.eqvAll (pyDs xs) (pyDs ys)) = (eqD x y && eqDs xs ys)
      rw [eq_py n x y h1.1 h2.1, eqs_py n xs ys h1.2 h2.2]
end
mutual
theorem lay_py (n : Nat) : ∀ (x : D), wfD n x = true → (pyD x).canLay0 = true ∧ (pyD x).depth ≤ n
  | .non, _ => ⟨by simp [pyD, PyData.canLay0], by simp [pyD, PyData.depth]⟩
  | .bl _, _ => ⟨by simp [pyD, PyData.canLay0], by simp [pyD, PyData.depth]⟩
  | .int _, _ => ⟨by simp [pyD, PyData.canLay0], by simp [pyD, PyData.depth]⟩
  | .str s, h => ⟨by
      simp only [pyD, PyData.canLay0, PyData.strOk]
      simp only [wfD, List.all_eq_true, decide_eq_true_eq] at h
      simpa [Array.all_eq_true_iff_forall_mem] using h, by simp [pyD, PyData.depth]⟩
  | .lst xs, h => by
    cases n with
    | zero => simp [wfD] at h
    | succ n =>
      obtain ⟨a, b⟩ := lays_py n xs (by simpa [wfD] using h)
      exact ⟨by simpa [pyD, PyData.canLay0] using a, by simpa [pyD, PyData.depth] using b⟩
  | .tup xs, h => by
    cases n with
    | zero => simp [wfD] at h
    | succ n =>
      obtain ⟨a, b⟩ := lays_py n xs (by simpa [wfD] using h)
      exact ⟨by simpa [pyD, PyData.canLay0] using a, by simpa [pyD, PyData.depth] using b⟩
  | .ro xs, h => by simp [wfD] at h
  | .obj c fs, h => by simp [wfD] at h
  | .ref m, h => by simp [wfD] at h
theorem lays_py (n : Nat) : ∀ (xs : List D), wfDs n xs = true → PyData.canLayAll0 (pyDs xs) = true ∧ PyData.depthAll (pyDs xs) ≤ n
  | [], _ => ⟨rfl, by simp [pyDs, PyData.depthAll]⟩
  | x :: xs, h => by
    rw [wfDs, Bool.and_eq_true] at h
    obtain ⟨a, b⟩ := lay_py n x h.1
    obtain ⟨c, d⟩ := lays_py n xs h.2
    exact ⟨by simp [pyDs, PyData.canLayAll0, a, c], by simp only [pyDs, PyData.depthAll]; omega⟩
end
theorem shaped_py {x : D} (h : wfD 60 x = true) : SeqAt.shaped (pyD x) = true := by
  obtain ⟨a, b⟩ := lay_py 60 x h
  unfold SeqAt.shaped
  rw [a, Bool.true_and]
  exact decide_eq_true (by omega)
section
variable {T : Tb} {w : Wd} {H : Hp} {S : Sto}
mutual
theorem dp_rep (k : WOk T w H S) (n : Nat) : ∀ (d : D) (v : V), wfD n d = true → Rep T w v d → Dp T.K H v (pyD d)
  | .non, _, _, r => by cases r; exact .non
  | .bl b, _, _, r => by cases r; exact .bl b
  | .int i, _, _, r => by cases r; exact .int i
  | .str s, _, _, r => by cases r; exact .str _
  | .lst ds, _, h, r => by
    cases n with
    | zero => simp [wfD] at h
    | succ n =>
      cases r with
      | lst a b => exact .lst (SqL.of (k.fz _ _ a)) (dps_rep k n ds _ (by simpa [wfD] using h) b)
  | .tup ds, _, h, r => by
    cases n with
    | zero => simp [wfD] at h
    | succ n =>
      cases r with
      | tup a b => exact .tup (sqT_mono k.fz a) (dps_rep k n ds _ (by simpa [wfD] using h) b)
  | .ro _, _, h, _ => by simp [wfD] at h
  | .obj _ _, _, h, _ => by simp [wfD] at h
  | .ref _, _, h, _ => by simp [wfD] at h
theorem dps_rep (k : WOk T w H S) (n : Nat) : ∀ (ds : List D) (vs : List V), wfDs n ds = true → Reps T w vs ds → DpAll T.K H vs (pyDs ds)
  | [], _, _, r => by cases r; exact .nil
  | d :: ds, _, h, r => by
    rw [wfDs, Bool.and_eq_true] at h
    cases r with
    | cons a b => exact .cons (dp_rep k n d _ h.1 a) (dps_rep k n ds _ h.2 b)
end
theorem dp_rt (k : WOk T w H S) {d : D} {v : V} (h : wfD 60 (res S d) = true) (r : RT T w H v d) : Dp T.K H v (pyD (res S d)) := by
  rcases r with r | ⟨a, vs, xs, rfl, rfl, h1, _, q⟩
  · cases d with
    | ref n =>
      cases r with
      | @ref a _ e =>
        cases q : S[n]? with
        | none => simp [res, q, wfD] at h
        | some c =>
          cases c with
          | obj _ _ => simp [res, q, wfD] at h
          | lst xs =>
            have e2 : res S (.ref n) = .lst xs := by simp [res, q]
            rw [e2] at h ⊢
            obtain ⟨vs, h1, h2⟩ := k.cell n _ a q e
            exact .lst (SqL.of h1) (dps_rep k 59 xs vs (by simpa [wfD] using h) h2)
    | ro xs =>
      cases r with
      | ro a b => exact .lst (sqL_mono k.fz a) (dps_rep k 59 xs _ (by simpa [res, wfD] using h) b)
    | non => exact dp_rep k 60 _ _ h r
    | bl _ => exact dp_rep k 60 _ _ h r
    | int _ => exact dp_rep k 60 _ _ h r
    | str _ => exact dp_rep k 60 _ _ h r
    | lst _ => exact dp_rep k 60 _ _ h r
    | tup _ => exact dp_rep k 60 _ _ h r
    | obj _ _ => exact dp_rep k 60 _ _ h r
  · exact .lst (SqL.of h1) (dps_rep k 59 xs vs (by simpa [res, wfD] using h) q)
theorem RT.fl {v : V} {d : D} (r : RT T w H v d) (h : flD d = true) : Rep T w v d := by
  rcases r with r | ⟨_, _, _, rfl, _⟩
  · exact r
  · cases h
/-- from a mirror that only looks -/
theorem ofO_post {α β : Type} {o : Option α} {f : α → β} {P : Wd → Hp → Sto → β → Prop} {R : Wd → Hp → Sto → Exc → Prop} (k : WOk T w H S) (p : Post T w H P R (ofO o f S)) : ∃ a, o = some a ∧ P w H S (f a) := by
  unfold ofO at p
  cases o with
  | none => exact p.elim
  | some a => exact ⟨a, rfl, Post.ok p k⟩
theorem eqS_sem (k : WOk T w H S) {v1 v2 : V} {d1 d2 : D} {b : Bool} (r1 : RT T w H v1 d1) (r2 : RT T w H v2 d2) (h : eqS S d1 d2 = some b) :
    (scal v1 v2 = true ∧ decide (v1 = v2) = b) ∨ ∃ p q, Dp T.K H v1 p ∧ Dp T.K H v2 q ∧ SeqAt.shaped p = true ∧ SeqAt.shaped q = true ∧ PyData.eqv p q = b := by
  have flat : ∀ {d : D} {v : V}, flD d = true → Rep T w v d → wfD 60 (res S d) = true ∨ ∃ s, d = .str s := fun {d v} h r => by
    cases d <;> first | exact .inl rfl | exact .inr ⟨_, rfl⟩ | cases h
  unfold eqS at h
  by_cases hf : (flD d1 && flD d2) = true
  · rw [if_pos hf] at h
    cases h
    rw [Bool.and_eq_true] at hf
    have a1 := r1.fl hf.1
    have a2 := r2.fl hf.2
    cases a1 with
    | non => cases a2 <;> first | exact .inl ⟨rfl, rfl⟩ | (cases hf.2)
    | bl b =>
      cases a2 with
      | int i => exact .inr ⟨_, _, .bl b, .int i, rfl, rfl, rfl⟩
      | bl c => exact .inl ⟨rfl, by rw [dec_bl]; rfl⟩
      | non => exact .inl ⟨rfl, by simp [eqD]⟩
      | str s => exact .inl ⟨rfl, by simp [eqD]⟩
      | _ => cases hf.2
    | int i =>
      cases a2 with
      | bl b => exact .inr ⟨_, _, .int i, .bl b, rfl, rfl, rfl⟩
      | int j => exact .inl ⟨rfl, by rw [dec_int]; rfl⟩
      | non => exact .inl ⟨rfl, by simp [eqD]⟩
      | str s => exact .inl ⟨rfl, by simp [eqD]⟩
      | _ => cases hf.2
    | str s =>
      cases a2 with
      | str t =>
        refine .inl ⟨rfl, ?_⟩
        show decide (sv s = sv t) = (s == t)
        rw [Bool.eq_iff_iff, decide_eq_true_eq, beq_iff_eq]
        constructor
        · intro h
          have := congrArg (fun v : V => match v with
            | .str x => x.cps.toList
            | _ => []) h
          simpa using this
        · rintro rfl; rfl
      | non => exact .inl ⟨rfl, by simp [eqD]⟩
      | bl s => exact .inl ⟨rfl, by simp [eqD]⟩
      | int s => exact .inl ⟨rfl, by simp [eqD]⟩
      | _ => cases hf.2
    | _ => cases hf.1
  · rw [if_neg hf] at h
    split at h
    · rename_i hw
      cases h
      rw [Bool.and_eq_true] at hw
      exact .inr ⟨_, _, dp_rt k hw.1 r1, dp_rt k hw.2 r2, shaped_py hw.1, shaped_py hw.2, eq_py 60 _ _ hw.1 hw.2⟩
    · cases h
abbrev rEqA (K : PySem.W.Frag) : R2 := fun x y H Q => rEq x y H Q ∨ rEqD K x y H Q
abbrev rNeA (K : PySem.W.Frag) : R2 := fun x y H Q => rNe x y H Q ∨ rNeD K x y H Q
theorem o_eq : OpS T (rEqA T.K) gEq := fun w H S v1 v2 d1 d2 Q R k r1 r2 p => by
  unfold gEq at p
  obtain ⟨b, e, q⟩ := ofO_post k p
  rcases eqS_sem k r1 r2 e with ⟨h1, h2⟩ | ⟨p, q', h1, h2, h3, h4, h5⟩
  · exact .inl ⟨h1, by rw [h2]; exact q _ (.bl b)⟩
  · exact .inr ⟨p, q', h1, h2, h3, h4, by rw [h5]; exact q _ (.bl b)⟩
theorem o_ne : OpS T (rNeA T.K) gNe := fun w H S v1 v2 d1 d2 Q R k r1 r2 p => by
  unfold gNe at p
  obtain ⟨b, e, q⟩ := ofO_post k p
  rcases eqS_sem k r1 r2 e with ⟨h1, h2⟩ | ⟨p, q', h1, h2, h3, h4, h5⟩
  · exact .inl ⟨h1, by rw [h2]; exact q _ (.bl _)⟩
  · exact .inr ⟨p, q', h1, h2, h3, h4, by rw [h5]; exact q _ (.bl _)⟩
end
/-- what operators ask of where they run -/
structure Uok (X : Cx) (T : Tb) : Prop where
  K : X.K = T.K
  un : X.A.units + 200 < cLine
  gd : X.A.guards = some []
section
variable {X : Cx} {T : Tb} {W : WX} {k : Nat}
theorem Cok.u (C : Cok X T W k) : Uok X T := ⟨C.K, by have := C.room.un; omega, C.gd⟩
theorem Cok.su (C : Cok X T W k) (a : Addr) (pn : List (Addr × Obj)) (e : CE) : Uok (X.suite a pn) (T.at e) := ⟨C.K, by have := C.room.un; show X.A.units + 200 < cLine; omega, C.gd⟩
theorem Cok.su0 (C : Cok X T W k) (a : Addr) (pn : List (Addr × Obj)) : Uok (X.suite a pn) T := ⟨C.K, by have := C.room.un; show X.A.units + 200 < cLine; omega, C.gd⟩
theorem Uok.u64 (C : Uok X T) : X.A.units + 64 < cLine := by have := C.un; omega
theorem Uok.u65 (C : Uok X T) : X.A.units + 65 < cLine := by have := C.un; omega
theorem or_eq (C : Uok X T) : OpR X (compareOp .Eq) (rEqA T.K) := by rw [← C.K]; exact op_eq.or (op_eqD C.u64)
theorem or_ne (C : Uok X T) : OpR X (compareOp .NotEq) (rNeA T.K) := by rw [← C.K]; exact op_ne.or (op_neD C.u64)
end
end Dm
set_option maxRecDepth 100000
set_option maxHeartbeats 1000000
/-! Operators on trees. -/
namespace Dm
set_option autoImplicit false
open PySem L2

section
variable {T : Tb} {w : Wd} {H : Hp} {S : Sto}
theorem len_sv (s : List Nat) : (⟨s.toArray⟩ : Str).length = s.length := by simp [Str.length]
theorem app_sv (s t : List Nat) : (⟨s.toArray⟩ : Str) ++ ⟨t.toArray⟩ = ⟨(s ++ t).toArray⟩ := by
  show (⟨s.toArray ++ t.toArray⟩ : Str) = _
  simp
/-- a new list, kept for good -/
theorem new_lst {vs : List V} {ds : List D} {P : Wd → Hp → Sto → D → Prop} {R : Wd → Hp → Sto → Exc → Prop} (k : WOk T w H S) (r : Reps T w vs ds) (p : Post T w H P R (.ok (.lst ds) S)) (a : Addr) (ha : H a = none) : P (w.put a (.lst vs)) (upd H a (.lst vs)) S (.lst ds) ∧ Rep T (w.put a (.lst vs)) (.ref a) (.lst ds) := by
  obtain ⟨s1, k1⟩ := laidF k (o := .lst vs) ha
  exact ⟨p _ _ s1 k1, rep_lst (k.nF ha) r⟩
theorem new_tup {vs : List V} {ds : List D} {P : Wd → Hp → Sto → D → Prop} {R : Wd → Hp → Sto → Exc → Prop} (k : WOk T w H S) (r : Reps T w vs ds) (p : Post T w H P R (.ok (.tup ds) S)) (a : Addr) (ha : H a = none) : P (w.put a (.tup vs)) (upd H a (.tup vs)) S (.tup ds) ∧ Rep T (w.put a (.tup vs)) (.ref a) (.tup ds) := by
  obtain ⟨s1, k1⟩ := laidF k (o := .tup vs) ha
  exact ⟨p _ _ s1 k1, rep_tup (k.nF ha) r⟩
/-- a new list, just made -/
theorem new_made {vs : List V} {ds : List D} {P : Wd → Hp → Sto → List D → Prop} {R : Wd → Hp → Sto → Exc → Prop} (k : WOk T w H S) (r : Reps T w vs ds) (p : Post T w H P R (.ok ds S)) (a : Addr) (ha : H a = none) : P w (upd H a (.lst vs)) S ds ∧ Made T H w (upd H a (.lst vs)) a ds :=
  ⟨p _ _ (Stp.laid w ha) (k.laid ha), made_laid k ha r⟩

/-! + -/
abbrev rAdd4 (K : PySem.W.Frag) : R2 := fun x y H Q => (rI0 (fun i j => .int (i + j)) x y H Q ∨ (∃ i j, x = .str i ∧ y = .str j ∧ i.length + j.length ≤ sizeLine ∧ Q (.str (i ++ j)) H)) ∨ (rCatA K x y H Q ∨ rCat x y H Q)
theorem or_add {X : Cx} (C : Uok X T) : OpR X (binaryOp .Add) (rAdd4 T.K) := by rw [← C.K]; exact (op_add.or op_add_str).or (op_catA.or op_cat)
theorem cat_sem (k : WOk T w H S) {v1 v2 : V} {d1 d2 : D} {P : Wd → Hp → Sto → List D → Prop} {R : Wd → Hp → Sto → Exc → Prop} (r1 : RT T w H v1 d1) (r2 : RT T w H v2 d2) (p : Post T w H P R (gCat d1 d2 S)) :
    ∃ l b xs zs as bs, v1 = .ref l ∧ v2 = .ref b ∧ H l = some (.lst xs) ∧ H b = some (.lst zs) ∧ xs.length + zs.length ≤ sizeLine ∧ Reps T w (xs ++ zs) (as ++ bs) ∧ Post T w H P R (.ok (as ++ bs) S) := by
  unfold gCat seqM at p
  cases e1 : lstM S d1 with
  | none => rw [e1] at p; exact p.elim
  | some as =>
    cases e2 : lstM S d2 with
    | none => rw [e1, e2] at p; exact p.elim
    | some bs =>
      rw [e1, e2] at p
      dsimp only at p
      split at p
      · rename_i hl
        obtain ⟨l, xs, rfl, h1, q1⟩ := lstM_view k r1 e1
        obtain ⟨b, zs, rfl, h2, q2⟩ := lstM_view k r2 e2
        exact ⟨l, b, xs, zs, as, bs, rfl, rfl, h1, h2, by rw [q1.length, q2.length, limE]; exact hl, q1.append q2, p⟩
      · exact p.elim
theorem l_cat : OpL T (rAdd4 T.K) gCat := fun w H S v1 v2 d1 d2 Q R k r1 r2 p => by
  obtain ⟨l, b, xs, zs, as, bs, rfl, rfl, h1, h2, h3, rr, p'⟩ := cat_sem k r1 r2 p
  refine .inr (.inr ⟨l, b, xs, zs, rfl, rfl, h1, h2, h3, fun a ha => ?_⟩)
  obtain ⟨q, m⟩ := new_made k rr p' a ha
  exact q a m
theorem catD_post {d1 d2 : D} {P : Wd → Hp → Sto → D → Prop} {R : Wd → Hp → Sto → Exc → Prop} (p : Post T w H P R (bnd (gCat d1 d2) (fun xs => pur (.lst xs)) S)) : Post T w H (fun w' H' S' xs => P w' H' S' (.lst xs)) R (gCat d1 d2 S) := Post.map p
theorem o_cat {v1 v2 : V} {d1 d2 : D} {Q : VK} {R : Wd → Hp → Sto → Exc → Prop} (k : WOk T w H S) (r1 : RT T w H v1 d1) (r2 : RT T w H v2 d2) (p : Post T w H (fun w' H' _ d => ∀ v, Rep T w' v d → Q v H') R (bnd (gCat d1 d2) (fun xs => pur (.lst xs)) S)) : rAdd4 T.K v1 v2 H Q := by
  obtain ⟨l, b, xs, zs, as, bs, rfl, rfl, h1, h2, h3, rr, p'⟩ := cat_sem k r1 r2 (Post.map p)
  refine .inr (.inr ⟨l, b, xs, zs, rfl, rfl, h1, h2, h3, fun a ha => ?_⟩)
  obtain ⟨s1, k1⟩ := laidF k (o := .lst (xs ++ zs)) ha
  exact p' _ _ s1 k1 _ (rep_lst (k.nF ha) rr)
theorem o_add : OpS T (rAdd4 T.K) gAdd := fun w H S v1 v2 d1 d2 Q R k r1 r2 p => by
  unfold gAdd at p
  split at p
  · cases r1.int; cases r2.int; exact .inl (.inl ⟨_, _, rfl, rfl, Post.ok p k _ (.int _)⟩)
  · cases r1.str; cases r2.str
    obtain ⟨h, p'⟩ := Post.need p
    have h' := of_decide_eq_true h
    exact .inl (.inr ⟨_, _, rfl, rfl, by rw [len_sv, len_sv, limE]; exact h', by rw [app_sv]; exact Post.ok p' k _ (.str _)⟩)
  · obtain ⟨h, p'⟩ := Post.need p
    have h' := of_decide_eq_true h
    obtain ⟨a, vs, rfl, ha, qa⟩ := tup_view k r1
    obtain ⟨b, us, rfl, hb, qb⟩ := tup_view k r2
    refine .inr (.inl ⟨a, b, vs, us, rfl, rfl, ha, hb, by rw [qa.length, qb.length, limE]; exact h', fun e => ?_, fun e1 e2 => ?_, fun e1 e2 c hc => ?_⟩)
    · subst e
      cases qa
      rcases r2 with r2 | ⟨_, _, _, z, _⟩
      · exact Post.ok p' k _ r2
      · cases z
    · subst e2
      cases qb
      rw [List.append_nil] at p'
      rcases r1 with r1 | ⟨_, _, _, z, _⟩
      · exact Post.ok p' k _ r1
      · cases z
    · obtain ⟨q, rr⟩ := new_tup k (qa.append qb) p' c hc
      exact q _ rr
  · exact o_cat k r1 r2 p

/-! -, *, //, %, **, - -/
theorem o_sub : OpS T (rI0 fun i j => .int (i - j)) gSub := fun w H S v1 v2 d1 d2 Q R k r1 r2 p => by
  unfold gSub at p
  split at p
  · cases r1.int; cases r2.int; exact ⟨_, _, rfl, rfl, Post.ok p k _ (.int _)⟩
  · exact p.elim
theorem o_fdv : OpS T (rI CDivW fun i j => .int (i / j)) gFdv := fun w H S v1 v2 d1 d2 Q R k r1 r2 p => by
  unfold gFdv at p
  split at p
  · cases r1.int; cases r2.int
    obtain ⟨h, p'⟩ := Post.need p
    have h' := of_decide_eq_true h
    exact ⟨_, _, rfl, rfl, h', Post.ok p' k _ (.int _)⟩
  · exact p.elim
theorem o_mod : OpS T (rI (fun _ j => 0 < j) fun i j => .int (i % j)) gMod := fun w H S v1 v2 d1 d2 Q R k r1 r2 p => by
  unfold gMod at p
  split at p
  · cases r1.int; cases r2.int
    obtain ⟨h, p'⟩ := Post.need p
    have h' := of_decide_eq_true h
    exact ⟨_, _, rfl, rfl, h', Post.ok p' k _ (.int _)⟩
  · exact p.elim
theorem o_pow : OpS T (rI CPow fun i j => .int (i ^ j.toNat)) gPow := fun w H S v1 v2 d1 d2 Q R k r1 r2 p => by
  unfold gPow at p
  split at p
  · cases r1.int; cases r2.int
    obtain ⟨h, p'⟩ := Post.need p
    have h' := of_decide_eq_true h
    exact ⟨_, _, rfl, rfl, h', Post.ok p' k _ (.int _)⟩
  · exact p.elim
theorem o_lt : OpS T (rI0 fun i j => .bl (decide (i < j))) gLt := fun w H S v1 v2 d1 d2 Q R k r1 r2 p => by
  unfold gLt at p
  split at p
  · cases r1.int; cases r2.int; exact ⟨_, _, rfl, rfl, Post.ok p k _ (.bl _)⟩
  · exact p.elim
theorem o_le : OpS T (rI0 fun i j => .bl (decide (i ≤ j))) gLe := fun w H S v1 v2 d1 d2 Q R k r1 r2 p => by
  unfold gLe at p
  split at p
  · cases r1.int; cases r2.int; exact ⟨_, _, rfl, rfl, Post.ok p k _ (.bl _)⟩
  · exact p.elim
theorem o_gt : OpS T (rI0 fun i j => .bl (decide (j < i))) gGt := fun w H S v1 v2 d1 d2 Q R k r1 r2 p => by
  unfold gGt at p
  split at p
  · cases r1.int; cases r2.int; exact ⟨_, _, rfl, rfl, Post.ok p k _ (.bl _)⟩
  · exact p.elim
theorem o_ge : OpS T (rI0 fun i j => .bl (decide (j ≤ i))) gGe := fun w H S v1 v2 d1 d2 Q R k r1 r2 p => by
  unfold gGe at p
  split at p
  · cases r1.int; cases r2.int; exact ⟨_, _, rfl, rfl, Post.ok p k _ (.bl _)⟩
  · exact p.elim

/-! is -/
abbrev rIs2 (n : Bool) : R2 := fun x y H Q => (y = .non ∧ Q (.bl (if n then !decide (x = .non) else decide (x = .non))) H) ∨ ∃ a b : Bool, x = .bl a ∧ y = .bl b ∧ Q (.bl (if n then !decide (a = b) else decide (a = b))) H
theorem or_is {X : Cx} : OpR X (compareOp .Is) (rIs2 false) := op_isN.or op_is_bl
theorem or_nis {X : Cx} : OpR X (compareOp .IsNot) (rIs2 true) := op_notN.or op_isnot_bl
theorem isS_sem (k : WOk T w H S) {v1 v2 : V} {d1 d2 : D} {b : Bool} (r1 : RT T w H v1 d1) (r2 : RT T w H v2 d2) (h : isS d1 d2 = some b) : (v2 = .non ∧ decide (v1 = .non) = b) ∨ ∃ a c : Bool, v1 = .bl a ∧ v2 = .bl c ∧ decide (a = c) = b := by
  unfold isS at h
  split at h
  · cases h
    cases r2.non
    refine .inl ⟨rfl, ?_⟩
    rcases r1 with r1 | ⟨a, vs, xs, rfl, rfl, _⟩
    · cases r1 <;> first | rfl | simp [isNon]
    · simp [isNon]
  · split at h
    · cases h
      cases r1.bl; cases r2.bl
      exact .inr ⟨_, _, rfl, rfl, rfl⟩
    · cases h
  · cases h
theorem o_is : OpS T (rIs2 false) gIs := fun w H S v1 v2 d1 d2 Q R k r1 r2 p => by
  unfold gIs at p
  obtain ⟨b, e, q⟩ := ofO_post k p
  rcases isS_sem k r1 r2 e with ⟨h1, h2⟩ | ⟨a, c, h1, h2, h3⟩
  · exact .inl ⟨h1, by rw [if_neg Bool.false_ne_true, h2]; exact q _ (.bl b)⟩
  · exact .inr ⟨a, c, h1, h2, by rw [if_neg Bool.false_ne_true, h3]; exact q _ (.bl b)⟩
theorem o_nis : OpS T (rIs2 true) gNis := fun w H S v1 v2 d1 d2 Q R k r1 r2 p => by
  unfold gNis at p
  obtain ⟨b, e, q⟩ := ofO_post k p
  rcases isS_sem k r1 r2 e with ⟨h1, h2⟩ | ⟨a, c, h1, h2, h3⟩
  · exact .inl ⟨h1, by rw [if_pos rfl, h2]; exact q _ (.bl _)⟩
  · exact .inr ⟨a, c, h1, h2, by rw [if_pos rfl, h3]; exact q _ (.bl _)⟩
end
end Dm
set_option maxRecDepth 100000
set_option maxHeartbeats 1000000
/-! More operators on trees: *, in, subscripts, slices. -/
namespace Dm
set_option autoImplicit false
open PySem L2

mutual
theorem wf_mono {m n : Nat} : ∀ (d : D), n ≤ m → wfD n d = true → wfD m d = true
  | .non, _, _ => by simp [wfD]
  | .bl _, _, _ => by simp [wfD]
  | .int _, _, _ => by simp [wfD]
  | .str s, _, h => by simpa [wfD] using h
  | .lst xs, hl, h => by
    cases n with
    | zero => simp [wfD] at h
    | succ n =>
      cases m with
      | zero => omega
      | succ m => simpa [wfD] using wfs_mono (n := n) xs (by omega) (by simpa [wfD] using h)
  | .tup xs, hl, h => by
    cases n with
    | zero => simp [wfD] at h
    | succ n =>
      cases m with
      | zero => omega
      | succ m => simpa [wfD] using wfs_mono (n := n) xs (by omega) (by simpa [wfD] using h)
  | .ro _, _, h => by simp [wfD] at h
  | .obj _ _, _, h => by simp [wfD] at h
  | .ref _, _, h => by simp [wfD] at h
theorem wfs_mono {m n : Nat} : ∀ (ds : List D), n ≤ m → wfDs n ds = true → wfDs m ds = true
  | [], _, _ => rfl
  | d :: ds, hl, h => by
    rw [wfDs, Bool.and_eq_true] at h ⊢
    exact ⟨wf_mono d hl h.1, wfs_mono ds hl h.2⟩
end
section
variable {T : Tb} {w : Wd} {H : Hp} {S : Sto}
/-! * -/
theorem Reps.repl {vs : List V} {ds : List D} (r : Reps T w vs ds) : ∀ n : Nat, Reps T w (List.replicate n vs).flatten (List.replicate n ds).flatten
  | 0 => .nil
  | n + 1 => by
    rw [List.replicate_succ, List.replicate_succ, List.flatten_cons, List.flatten_cons]
    exact r.append (Reps.repl r n)
abbrev rMulS : R2 := fun x y H Q => ∃ (a : Str) (n : Int), x = .str a ∧ y = .int n ∧ PySem.MulOk a n ∧ Q (.str (PySem.Txt.mul a n)) H
theorem op_mulS {X : Cx} : OpR X (binaryOp .Mult) rMulS := by
  intro pins s σ H x y v u Q I rx ry h
  obtain ⟨a, n, rfl, rfl, hc, q⟩ := h
  obtain ⟨t, rfl⟩ := rx
  obtain ⟨t', rfl⟩ := ry
  exact SB.mul hc fun t2 k => ⟨.str _, H, I.tok _, ⟨_, rfl⟩, q⟩
abbrev rMul3 : R2 := fun x y H Q => rI CMulW (fun i j => .int (i * j)) x y H Q ∨ (rMulS x y H Q ∨ rRep x y H Q)
theorem or_mul {X : Cx} : OpR X (binaryOp .Mult) rMul3 := op_mulW.or (op_mulS.or op_rep)
theorem rep_sem (k : WOk T w H S) {v1 v2 : V} {d1 d2 : D} {P : Wd → Hp → Sto → List D → Prop} {R : Wd → Hp → Sto → Exc → Prop} (r1 : RT T w H v1 d1) (r2 : RT T w H v2 d2) (p : Post T w H P R (gRep d1 d2 S)) :
    ∃ l n xs as, v1 = .ref l ∧ v2 = .int n ∧ H l = some (.lst xs) ∧ -(2 ^ 63) ≤ n ∧ n < 2 ^ 63 ∧ xs.length * n.toNat ≤ sizeLine ∧ Reps T w (List.replicate n.toNat xs).flatten (List.replicate n.toNat as).flatten ∧ Post T w H P R (.ok (List.replicate n.toNat as).flatten S) := by
  unfold gRep at p
  split at p
  · rename_i xs n e
    split at p
    · rename_i hc
      obtain ⟨l, vs, rfl, h1, q1⟩ := lstM_view k r1 e
      cases r2.int
      exact ⟨l, n, vs, xs, rfl, rfl, h1, hc.1, hc.2.1, by rw [q1.length, limE]; exact hc.2.2, q1.repl _, p⟩
    · exact p.elim
  · exact p.elim
theorem l_rep : OpL T rMul3 gRep := fun w H S v1 v2 d1 d2 Q R k r1 r2 p => by
  obtain ⟨l, n, xs, as, rfl, rfl, h1, h2, h3, h4, rr, p'⟩ := rep_sem k r1 r2 p
  refine .inr (.inr ⟨l, n, xs, rfl, rfl, h1, h2, h3, h4, fun a ha => ?_⟩)
  obtain ⟨q, m⟩ := new_made k rr p' a ha
  exact q a m
theorem flat_repl (s : List Nat) : ∀ n : Nat, (List.replicate n s).flatten.length = n * s.length
  | 0 => by simp
  | n + 1 => by rw [List.replicate_succ, List.flatten_cons, List.length_append, flat_repl s n, Nat.succ_mul, Nat.add_comm]
theorem o_mul : OpS T rMul3 gMul := fun w H S v1 v2 d1 d2 Q R k r1 r2 p => by
  unfold gMul at p
  split at p
  · cases r1.int; cases r2.int
    obtain ⟨h, p'⟩ := Post.need p
    have h' := of_decide_eq_true h
    exact .inl ⟨_, _, rfl, rfl, h', Post.ok p' k _ (.int _)⟩
  · rename_i s n
    cases r1.str; cases r2.int
    obtain ⟨h, p'⟩ := Post.need p
    obtain ⟨h1, h2, h3⟩ := of_decide_eq_true h
    have ok : PySem.MulOk ⟨s.toArray⟩ n := by
      refine ⟨by rw [decide_eq_false (by omega), decide_eq_false (by omega)]; rfl, fun a b => ?_, fun a b => ?_⟩
      · rw [len_sv, gt_iff_lt, Int.not_lt, Int.le_ediv_iff_mul_le (by omega)]
        have e : ((s.length : Int) * n) = ((s.length * n.toNat : Nat) : Int) := by
          rw [Int.natCast_mul, Int.toNat_of_nonneg (by omega)]
        rw [e]
        have : (LIM : Int) ≤ 2 ^ 63 - 1 := by decide
        omega
      · have := limE
        have e := len_sv s
        show decide ((⟨s.toArray⟩ : Str).length * n.toNat > sizeLine) = false
        rw [e]
        exact decide_eq_false (by omega)
    have e : PySem.Txt.mul ⟨s.toArray⟩ n = ⟨(List.replicate n.toNat s).flatten.toArray⟩ := by
      unfold PySem.Txt.mul
      by_cases h4 : n < 1
      · rw [if_pos h4, show n.toNat = 0 by omega]; rfl
      · rw [if_neg h4]
        by_cases h5 : (n == 1 || (⟨s.toArray⟩ : Str).length == 0) = true
        · rw [if_pos h5]
          rw [Bool.or_eq_true, beq_iff_eq, beq_iff_eq, len_sv] at h5
          rcases h5 with h5 | h5
          · rw [h5]; simp
          · have : s = [] := List.length_eq_zero_iff.mp h5
            subst this
            have : ∀ m : Nat, (List.replicate m ([] : List Nat)).flatten = [] := fun m => by induction m with
              | zero => rfl
              | succ m ih => rw [List.replicate_succ, List.flatten_cons, ih]; rfl
            rw [this]
        · rw [if_neg h5]
          have f : ∀ (m : Nat) (acc : List Nat), List.foldl (fun x1 x2 => x1 ++ x2) acc.toArray (List.replicate m s.toArray) = (acc ++ (List.replicate m s).flatten).toArray := fun m => by
            induction m with
            | zero => intro acc; simp
            | succ m ih =>
              intro acc
              rw [List.replicate_succ, List.foldl_cons, List.replicate_succ, List.flatten_cons]
              have e : acc.toArray ++ s.toArray = (acc ++ s).toArray := by simp
              rw [e, ih]; simp
          have := f n.toNat []
          show (⟨List.foldl (· ++ ·) #[] (List.replicate n.toNat s.toArray)⟩ : Str) = _
          rw [show (#[] : Array Nat) = ([] : List Nat).toArray from rfl, this]
          simp
    exact .inr (.inl ⟨_, _, rfl, rfl, ok, by rw [e]; exact Post.ok p' k _ (.str _)⟩)
  · obtain ⟨l, n, xs, as, rfl, rfl, h1, h2, h3, h4, rr, p'⟩ := rep_sem k r1 r2 (Post.map p)
    refine .inr (.inr ⟨l, n, xs, rfl, rfl, h1, h2, h3, h4, fun a ha => ?_⟩)
    obtain ⟨s1, k1⟩ := laidF k (o := .lst (List.replicate n.toNat xs).flatten) ha
    exact p' _ _ s1 k1 _ (rep_lst (k.nF ha) rr)

/-! in -/
theorem itm_view (k : WOk T w H S) {v : V} {d : D} {xs : List D} (r : RT T w H v d) (e : itmS S d = some xs) : ∃ a vs, v = .ref a ∧ (SqL T.K H a vs ∨ SqT T.K H a vs) ∧ Reps T w vs xs := by
  cases d with
  | tup ys =>
    cases e
    obtain ⟨a, vs, rfl, h, q⟩ := tup_view k r
    exact ⟨a, vs, rfl, .inr h, q⟩
  | _ =>
    obtain ⟨a, vs, rfl, h, q⟩ := lst_view k r (S := S) e
    exact ⟨a, vs, rfl, .inl h, q⟩
theorem fl_flatV {v : V} {d : D} (r : Rep T w v d) (h : flD d = true) : flatV v = true := by
  cases r <;> first | rfl | cases h
theorem fl_eqV {v1 v2 : V} {d1 d2 : D} (r1 : Rep T w v1 d1) (r2 : Rep T w v2 d2) (h1 : flD d1 = true) (h2 : flD d2 = true) : eqV v1 v2 = eqD d1 d2 := by
  cases r1 <;> first | (cases h1; done) | skip
  all_goals cases r2 <;> first | (cases h2; done) | skip
  all_goals first | rfl | exact str_beq _ _
theorem fls_all : ∀ {vs : List V} {ds : List D}, Reps T w vs ds → ds.all flD = true → vs.all flatV = true
  | _, [], r, _ => by cases r; rfl
  | _, d :: ds, r, h => by
    cases r with
    | cons a b =>
      rw [List.all_cons, Bool.and_eq_true] at h
      rw [List.all_cons, fl_flatV a h.1, fls_all b h.2]; rfl
theorem fls_any {v : V} {d : D} (r0 : Rep T w v d) (h0 : flD d = true) : ∀ {vs : List V} {ds : List D}, Reps T w vs ds → ds.all flD = true → (vs.any fun y => eqV y v) = ds.any fun z => eqD z d
  | _, [], r, _ => by cases r; rfl
  | _, e :: ds, r, h => by
    cases r with
    | cons a b =>
      rw [List.all_cons, Bool.and_eq_true] at h
      rw [List.any_cons, List.any_cons, fl_eqV a r0 h.1 h0, fls_any r0 h0 b h.2]
abbrev rIn3 (K : PySem.W.Frag) : R2 := fun x y H Q => (∃ (c : Nat) (z : Str), x = .str ⟨#[c]⟩ ∧ y = .str z ∧ Q (.bl (decide (c ∈ z.cps.toList))) H) ∨ (rIn K false x y H Q ∨ rInD K x y H Q)
abbrev rNin3 (K : PySem.W.Frag) : R2 := fun x y H Q => (∃ (c : Nat) (z : Str), x = .str ⟨#[c]⟩ ∧ y = .str z ∧ Q (.bl (!decide (c ∈ z.cps.toList))) H) ∨ (rIn K true x y H Q ∨ rNotInD K x y H Q)
theorem or_in {X : Cx} (C : Uok X T) : OpR X (compareOp .In) (rIn3 T.K) := by rw [← C.K]; exact op_in_sign.or (op_in_seq.or (op_inD C.u65))
theorem or_nin {X : Cx} (C : Uok X T) : OpR X (compareOp .NotIn) (rNin3 T.K) := by rw [← C.K]; exact op_notIn_sign.or (op_notIn_seq.or (op_notInD C.u65))
theorem any_py {x : D} (hx : wfD 60 x = true) : ∀ {ys : List D}, wfDs 59 ys = true → ((pyDs ys).any fun z => PyData.eqv z (pyD x)) = ys.any fun z => eqD z x
  | [], _ => rfl
  | y :: ys, h => by
    rw [wfDs, Bool.and_eq_true] at h
    show (PyData.eqv (pyD y) (pyD x) || ((pyDs ys).any fun z => PyData.eqv z (pyD x))) = (eqD y x || ys.any fun z => eqD z x)
    rw [any_py hx h.2, eq_py 60 y x (wf_mono (n := 59) y (by omega) h.1) hx]
theorem inS_sem (k : WOk T w H S) {v1 v2 : V} {d1 d2 : D} {b : Bool} (r1 : RT T w H v1 d1) (r2 : RT T w H v2 d2) (h : inS S d1 d2 = some b) :
    (∃ (c : Nat) (z : Str), v1 = .str ⟨#[c]⟩ ∧ v2 = .str z ∧ decide (c ∈ z.cps.toList) = b) ∨ (∃ p xs, v2 = .ref p ∧ (SqL T.K H p xs ∨ SqT T.K H p xs) ∧ flatV v1 = true ∧ xs.all flatV = true ∧ inV v1 xs = b) ∨
      ∃ d ds, Dp T.K H v1 d ∧ Dp T.K H v2 (.list ds) ∧ SeqAt.shaped d = true ∧ SeqAt.shaped (.list ds) = true ∧ (ds.any fun z => PyData.eqv z d) = b := by
  unfold inS at h
  split at h
  · split at h
    · cases h
      cases r1.str; cases r2.str
      exact .inl ⟨_, _, rfl, rfl, by simp⟩
    · cases h
  · split at h
    · rename_i xs hi
      split at h
      · rename_i hf
        cases h
        rw [Bool.and_eq_true] at hf
        obtain ⟨a, vs, rfl, hs, q⟩ := itm_view k r2 hi
        exact .inr (.inl ⟨a, vs, rfl, hs, fl_flatV (r1.fl hf.1) hf.1, fls_all q hf.2, fls_any (r1.fl hf.1) hf.1 q hf.2⟩)
      · split at h
        · rename_i ys hr
          split at h
          · rename_i hw
            cases h
            rw [Bool.and_eq_true] at hw
            have hx : res S d1 = d1 := by cases d1 <;> first | rfl | (simp [wfD] at hw)
            have w2 : wfDs 59 ys = true := by simpa [wfD] using hw.2
            have d1' := dp_rt k (d := d1) (by rw [hx]; exact hw.1) r1
            have d2' := dp_rt k (d := d2) (by rw [hr]; exact hw.2) r2
            rw [hx] at d1'
            rw [hr] at d2'
            exact .inr (.inr ⟨_, _, d1', d2', shaped_py hw.1, shaped_py hw.2, any_py hw.1 w2⟩)
          · cases h
        · cases h
    · cases h
theorem o_in : OpS T (rIn3 T.K) gIn := fun w H S v1 v2 d1 d2 Q R k r1 r2 p => by
  unfold gIn at p
  obtain ⟨b, e, q⟩ := ofO_post k p
  rcases inS_sem k r1 r2 e with ⟨c, z, h1, h2, h3⟩ | ⟨a, xs, h1, h2, h3, h4, h5⟩ | ⟨d, ds, h1, h2, h3, h4, h5⟩
  · exact .inl ⟨c, z, h1, h2, by rw [h3]; exact q _ (.bl b)⟩
  · exact .inr (.inl ⟨a, xs, h1, h2, h3, h4, by rw [h5]; exact q _ (.bl b)⟩)
  · exact .inr (.inr ⟨d, ds, h1, h2, h3, h4, by rw [h5]; exact q _ (.bl b)⟩)
theorem o_nin : OpS T (rNin3 T.K) gNin := fun w H S v1 v2 d1 d2 Q R k r1 r2 p => by
  unfold gNin at p
  obtain ⟨b, e, q⟩ := ofO_post k p
  rcases inS_sem k r1 r2 e with ⟨c, z, h1, h2, h3⟩ | ⟨a, xs, h1, h2, h3, h4, h5⟩ | ⟨d, ds, h1, h2, h3, h4, h5⟩
  · exact .inl ⟨c, z, h1, h2, by rw [h3]; exact q _ (.bl _)⟩
  · exact .inr (.inl ⟨a, xs, h1, h2, h3, h4, by rw [h5]; exact q _ (.bl _)⟩)
  · exact .inr (.inr ⟨d, ds, h1, h2, h3, h4, by rw [h5]; exact q _ (.bl _)⟩)

/-! subscripts -/
theorem plc_eq (n : Nat) (i : Int) : plc n i = ixN n i := rfl
theorem atD_get {vs : List V} {ds : List D} {i : Int} {d : D} (r : Reps T w vs ds) (h : atD ds i = some d) : ∃ v, atI vs i = some v ∧ Rep T w v d := by
  unfold atD at h
  unfold atI
  rw [r.length]
  cases e : plc ds.length i with
  | none => rw [e] at h; cases h
  | some j =>
    rw [e] at h
    obtain ⟨v, h1, h2⟩ := r.get (i := j) h
    exact ⟨v, by rw [show ixN ds.length i = some j from e]; exact h1, h2⟩
theorem or_ix {X : Cx} (C : Uok X T) : IxR X (L2.rIx T.K) := by rw [← C.K]; exact ix_seq
theorem o_ix : OpS T (L2.rIx T.K) gIx := fun w H S v1 v2 d1 d2 Q R k r1 r2 p => by
  unfold gIx at p
  split at p
  · cases r2.int
    split at p
    · split at p
      · rename_i hl
        obtain ⟨c, e, q⟩ := ofO_post k p
        cases r1.str
        exact .inr (.inr ⟨_, _, c, rfl, rfl, by rw [len_sv, limE]; exact hl, by simpa [atD, atI, plc_eq] using e, q _ (.str [c])⟩)
      · exact p.elim
    · split at p
      · rename_i xs hi
        obtain ⟨d, e, q⟩ := ofO_post k p
        obtain ⟨a, vs, rfl, hs, rr⟩ := itm_view k r1 hi
        obtain ⟨v, e1, rv⟩ := atD_get rr e
        rcases hs with hs | hs
        · exact .inl ⟨a, vs, _, v, rfl, rfl, hs, e1, q v rv⟩
        · exact .inr (.inl ⟨a, vs, _, v, rfl, rfl, hs, e1, q v rv⟩)
      · exact p.elim
  · exact p.elim
end
end Dm
set_option maxRecDepth 100000
set_option maxHeartbeats 1000000
/-! Slices, built-ins on trees. -/
namespace Dm
set_option autoImplicit false
open PySem L2

/-! ### slices -/
def oNone : Ev → M (Option Int) := fun _ => pur none
def oSome (f : EX) : Ev → M (Option Int) := fun r => bnd (f r) fun d => match d with
  | .int i => pur (some i)
  | _ => stk
def eSl (l h : Ev → M (Option Int)) (e : EX) : EX := fun r => bnd (e r) fun x => bnd (l r) fun a => bnd (h r) fun b => gCut a b x
def lSl (l h : Ev → M (Option Int)) (e : EX) : LX := fun r => bnd (e r) fun x => bnd (l r) fun a => bnd (h r) fun b => gCutL a b x
section
variable {X : Cx} {T : Tb} {W : WX} {e : Expr} {pos p2 : Pos}
def tPt (T : Tb) (W : WX) (f : Ev → M (Option Int)) : TO := fun σ H Q => ∃ fr w r S, Rel T fr w r S σ H ∧ Post T w H (fun _ H' _ o => Q o H') (eW T W σ) (f r S)
structure Prt (X : Cx) (T : Tb) (W : WX) (e : Option Expr) (f : Ev → M (Option Int)) : Prop where
  h : PO X e (tPt T W f)
theorem p_none : Prt X T W none oNone := ⟨⟨fun pins s σ H Q I ⟨fr, w, r, S, R, p⟩ => po_none.run pins s σ H Q I (Post.ok p R.ok)⟩⟩
theorem p_some {f : EX} (h : PE X e (tE T W f)) : Prt X T W (some e) (oSome f) := ⟨⟨fun pins s σ H Q I ⟨fr, w, r, S, R, p⟩ => (po_some h).run pins s σ H Q I ⟨fr, w, r, S, R, (Post.bnd p).on (fun w1 H1 S1 d t k p1 v rv => by
  cases rv with
  | int i => exact ⟨i, rfl, Post.ok p1 k⟩
  | _ => exact p1.elim) fun _ _ _ _ z => z⟩⟩⟩
abbrev rCut3 (K : PySem.W.Frag) : V → Option Int → Option Int → Hp → VK → Prop := fun x lo hi H Q => rSlS x lo hi H Q ∨ (rSlT K x lo hi H Q ∨ rSlL K x lo hi H Q)
theorem cutD_reps {w : Wd} {vs : List V} {ds : List D} (r : Reps T w vs ds) (lo hi : Option Int) : Reps T w (cutV vs lo hi) (cutD ds lo hi) := by
  unfold cutV cutD
  rw [r.length]
  exact (r.drop _).take _
theorem cut_sem {w : Wd} {H : Hp} {S : Sto} {v : V} {d : D} {lo hi : Option Int} {Q : VK} {R : Wd → Hp → Sto → Exc → Prop} (k : WOk T w H S) (r : RT T w H v d) (p : Post T w H (fun w' H' _ d => ∀ v, Rep T w' v d → Q v H') R (gCut lo hi d S)) : rCut3 T.K v lo hi H Q := by
  unfold gCut at p
  split at p
  · rename_i s
    obtain ⟨h, p'⟩ := Post.need p
    have h' := of_decide_eq_true h
    cases r.str
    have e : cutS ⟨s.toArray⟩ lo hi = ⟨(cutD s lo hi).toArray⟩ := by
      show (⟨((s.toArray.toList.drop _).take _).toArray⟩ : Str) = _
      rw [len_sv]; rfl
    exact .inl ⟨_, rfl, by rw [len_sv, limE]; exact h', by rw [e]; exact Post.ok p' k _ (.str _)⟩
  · rename_i xs
    obtain ⟨h, p'⟩ := Post.need p
    have h' := of_decide_eq_true h
    obtain ⟨a, vs, rfl, hs, q⟩ := tup_view k r
    refine .inr (.inl ⟨a, vs, rfl, hs, by rw [q.length]; exact h', fun c hc => ?_⟩)
    obtain ⟨q1, rr⟩ := new_tup k (cutD_reps q lo hi) p' c hc
    exact q1 _ rr
  · obtain ⟨xs, e, q⟩ := ofO_post k (Post.map p)
    obtain ⟨a, vs, rfl, hs, rr⟩ := lst_view k r e
    refine .inr (.inr ⟨a, vs, rfl, hs, fun c hc => ?_⟩)
    unfold gCutL at p
    rw [bnd] at p
    have p1 := Post.map p
    unfold ofO at p1
    rw [e] at p1
    obtain ⟨s1, k1⟩ := laidF k (o := .lst (cutV vs lo hi)) hc
    exact p1 _ _ s1 k1 _ (rep_lst (k.nF hc) (cutD_reps rr lo hi))
theorem or_cut (hK : X.K = T.K := by rfl) : SlR X (rCut3 T.K) := by rw [← hK]; exact sl_str.or (sl_tup.or sl_list)
theorem e_cut {lo hi : Option Expr} {l h : Ev → M (Option Int)} {f : EX} (he : PE X e (tB T W f)) (hl : Prt X T W lo l) (hh : Prt X T W hi h) (hK : X.K = T.K := by rfl) : PE X (.Subscript e (.Slice lo hi none p2) pos) (tE T W (eSl l h f)) :=
  imE (pe_slice (or_cut hK) he hl.h hh.h) fun σ H Q ⟨fr, w, r, S, R, p⟩ => ⟨fr, w, r, S, R, (Post.bnd p).on (fun w1 H1 S1 d t1 k1 p1 v rv => ⟨fr, w1, r, S1, R.step t1 k1, (Post.bnd p1).on (fun w2 H2 S2 a t2 k2 p2 => ⟨fr, w2, r, S2, (R.step t1 k1).step t2 k2, (Post.bnd p2).on (fun w3 H3 S3 b t3 k3 p3 =>
    cut_sem k3 ((rv.step t2).step t3) p3) fun _ _ _ _ z => z⟩) fun _ _ _ _ z => z⟩) fun _ _ _ _ z => z⟩
theorem l_cut {lo hi : Option Expr} {l h : Ev → M (Option Int)} {f : EX} (he : PE X e (tB T W f)) (hl : Prt X T W lo l) (hh : Prt X T W hi h) (hK : X.K = T.K := by rfl) : PE X (.Subscript e (.Slice lo hi none p2) pos) (tL T W (lSl l h f)) :=
  imE (pe_slice (or_cut hK) he hl.h hh.h) fun σ H Q ⟨fr, w, r, S, R, p⟩ => ⟨fr, w, r, S, R, (Post.bnd p).on (fun w1 H1 S1 d t1 k1 p1 v rv => ⟨fr, w1, r, S1, R.step t1 k1, (Post.bnd p1).on (fun w2 H2 S2 a t2 k2 p2 => ⟨fr, w2, r, S2, (R.step t1 k1).step t2 k2, (Post.bnd p2).on (fun w3 H3 S3 b t3 k3 p3 => by
    have p3' := p3
    obtain ⟨xs, e, q⟩ := ofO_post k3 p3
    obtain ⟨c, vs, rfl, hs, rr⟩ := lst_view k3 ((rv.step t2).step t3) e
    refine .inr (.inr ⟨c, vs, rfl, hs, fun cc hc => ?_⟩)
    unfold gCutL ofO at p3'
    rw [e] at p3'
    obtain ⟨q1, m⟩ := new_made k3 (cutD_reps rr a b) p3' cc hc
    exact q1 cc ⟨m.vs, m.nf, m.nl, t1.live _ (t2.live _ (t3.live _ hc))⟩) fun _ _ _ _ z => z⟩) fun _ _ _ _ z => z⟩) fun _ _ _ _ z => z⟩
/-! -x -/
theorem e_neg {f : EX} {a : Expr} (ha : PE X a (tE T W f)) : PE X (.UnaryOp .USub a pos) (tE T W (eUn gNeg f)) := imE (pe_un un_neg ha) fun σ H Q ⟨fr, w, r, S, R, p⟩ => ⟨fr, w, r, S, R, (Post.bnd p).on (fun w1 H1 S1 d t k p1 v rv => by
  unfold gNeg at p1
  split at p1
  · cases rv; exact ⟨_, rfl, Post.ok p1 k _ (.int _)⟩
  · exact p1.elim) fun _ _ _ _ z => z⟩
end

/-! ### built-ins -/
section
variable {T : Tb} {w : Wd} {H : Hp} {S : Sto}
theorem rts1 {vs : List V} {d : D} (r : RTs T w H vs [d]) : ∃ v, vs = [v] ∧ RT T w H v d := by
  cases r with
  | cons a b => cases b; exact ⟨_, rfl, a⟩
theorem rts2 {vs : List V} {d e : D} (r : RTs T w H vs [d, e]) : ∃ v u, vs = [v, u] ∧ RT T w H v d ∧ RT T w H u e := by
  cases r with
  | cons a b =>
    cases b with
    | cons b c => cases c; exact ⟨_, _, rfl, a, b⟩
abbrev rLen (K : PySem.W.Frag) : List V → Hp → VK → Prop := fun xs H Q => ∃ x n, xs = [x] ∧ LenV K x H n ∧ Q (.int n) H
theorem cr_len {X : Cx} (hK : X.K = T.K) : CallR X (.builtin "len") (rLen T.K) := by rw [← hK]; exact call_len
theorem b_len : CaS T (rLen T.K) fLen := fun w H S vs ds Q R k rs p => by
  unfold fLen at p
  split at p
  · split at p
    · rename_i s hl
      obtain ⟨v, rfl, r⟩ := rts1 rs
      cases r.str
      exact ⟨_, s.length, rfl, ⟨by rw [len_sv, limE]; exact hl, (len_sv _).symm⟩, Post.ok p k _ (.int _)⟩
    · exact p.elim
  · obtain ⟨v, rfl, r⟩ := rts1 rs
    obtain ⟨xs, e, q⟩ := ofO_post k p
    obtain ⟨a, us, rfl, hs, rr⟩ := itm_view k r e
    refine ⟨_, us.length, rfl, ?_, by rw [rr.length]; exact q _ (.int _)⟩
    rcases hs with hs | hs
    · exact .inl ⟨us, hs, rfl⟩
    · exact .inr ⟨us, hs, rfl⟩
  · exact p.elim
abbrev rAbs : List V → Hp → VK → Prop := fun xs H Q => ∃ i, xs = [.int i] ∧ Q (.int (if i < 0 then -i else i)) H
theorem b_abs : CaS T rAbs fAbs := fun w H S vs ds Q R k rs p => by
  unfold fAbs at p
  split at p
  · obtain ⟨v, rfl, r⟩ := rts1 rs
    cases r.int
    exact ⟨_, rfl, Post.ok p k _ (.int _)⟩
  · exact p.elim
abbrev rInt : List V → Hp → VK → Prop := fun xs H Q => (∃ i, xs = [.int i] ∧ Q (.int i) H) ∨ ∃ k, xs = [.bl k] ∧ Q (.int (if k then 1 else 0)) H
theorem b_int : CaS T rInt fInt := fun w H S vs ds Q R k rs p => by
  unfold fInt at p
  split at p
  · obtain ⟨v, rfl, r⟩ := rts1 rs
    cases r.int
    exact .inl ⟨_, rfl, Post.ok p k _ (.int _)⟩
  · obtain ⟨v, rfl, r⟩ := rts1 rs
    cases r.bl
    exact .inr ⟨_, rfl, Post.ok p k _ (.int _)⟩
  · exact p.elim
theorem CallR.or {X : Cx} {f : Value} {r r' : List V → Hp → VK → Prop} (h : CallR X f r) (h' : CallR X f r') : CallR X f (fun xs H Q => r xs H Q ∨ r' xs H Q) := by
  intro pins s σ H xs us Q I rv q
  rcases q with q | q
  · exact h pins s σ H xs us Q I rv q
  · exact h' pins s σ H xs us Q I rv q
abbrev rStr2 : List V → Hp → VK → Prop := fun xs H Q => (∃ i, xs = [.int i] ∧ i.natAbs.log2 < 1920 ∧ Q (.str (toString i)) H) ∨ ∃ a, xs = [.str a] ∧ Q (.str a) H
theorem cr_str {X : Cx} : CallR X (.type "str") rStr2 := CallR.or call_str_int SkE.call_str_str
theorem rep_fig (i : Int) : Rep T w (.str (toString i)) (.str (figs i)) := rep_str rfl
theorem b_str : CaS T rStr2 fStr := fun w H S vs ds Q R k rs p => by
  unfold fStr at p
  split at p
  · obtain ⟨v, rfl, r⟩ := rts1 rs
    cases r.int
    obtain ⟨h, p'⟩ := Post.need p
    exact .inl ⟨_, rfl, of_decide_eq_true h, Post.ok p' k _ (rep_fig _)⟩
  · obtain ⟨v, rfl, r⟩ := rts1 rs
    cases r.str
    exact .inr ⟨_, rfl, Post.ok p k _ (.str _)⟩
  · exact p.elim
/-! repr -/
abbrev rRepr (K : PySem.W.Frag) : List V → Hp → VK → Prop := fun xs H Q => ∃ v d, xs = [v] ∧ Dp K H v d ∧ d.showable = true ∧ SeqAt.shaped d = true ∧ d.shown.length ≤ sizeLine ∧ Q (.str d.shown) H
theorem cr_repr {X : Cx} (C : Uok X T) : CallR X (.builtin "repr") (rRepr T.K) := by
  intro pins s σ H xs us Q I r h
  obtain ⟨v, d, rfl, hd, hs, sh, hl, q⟩ := h
  rw [← C.K] at hd
  obtain ⟨u, rfl, ru⟩ := vals1 r
  obtain ⟨as, rd⟩ := Dp.reads I d v u hd ru
  have dep := SeqAt.depth_of_shaped sh
  have nd : d.hasDict = false := PyData.hasDict_of_canLay d (SeqAt.canLay_of_shaped sh)
  have disp : ∀ a, u = .ref a → wpAny (model X.prog X.w) X.A (call (.builtin "repr") [u]) (EP X pins σ Q) X.xe s := fun a e => by
    subst e
    exact repr_of_reads' rd hs (PyData.noDict_hsm nd) C.gd (by have := C.un; omega) (fun _ _ e => e) (fun h' u tk hk => ⟨.str _, H, I.kept (t' := tk) hk, ⟨u, rfl⟩, q⟩) hl
  cases hd with
  | lst a b => cases ru; exact disp _ rfl
  | tup a b => cases ru; exact disp _ rfl
  | int i =>
    obtain ⟨t, rfl⟩ := ru
    exact PySem.P.repr_of_int (by simpa [PyData.showable] using hs) ⟨.str _, H, I.tok _, ⟨_, rfl⟩, q⟩
  | non => cases ru; exact PySem.P.repr_of_none ⟨.str _, H, I.tok _, ⟨_, rfl⟩, q⟩
  | bl b => cases ru; exact PySem.P.repr_of_bool ⟨.str _, H, I.tok _, ⟨_, rfl⟩, q⟩
  | str x => obtain ⟨t, rfl⟩ := ru; exact PySem.P.repr_of_str ⟨.str _, H, I.tok _, ⟨_, rfl⟩, q⟩ hl
mutual
theorem show_py (n : Nat) : ∀ (d : D), wfD n d = true → shD d = true → (pyD d).showable = true
  | .non, _, _ => by simp [pyD, PyData.showable]
  | .bl _, _, _ => by simp [pyD, PyData.showable]
  | .int i, _, h => by simpa [pyD, PyData.showable, shD] using h
  | .str _, _, _ => by simp [pyD, PyData.showable]
  | .lst xs, h, h' => by
    cases n with
    | zero => simp [wfD] at h
    | succ n => simpa [pyD, PyData.showable] using shows_py n xs (by simpa [wfD] using h) (by simpa [shD] using h')
  | .tup xs, h, h' => by
    cases n with
    | zero => simp [wfD] at h
    | succ n => simpa [pyD, PyData.showable] using shows_py n xs (by simpa [wfD] using h) (by simpa [shD] using h')
  | .ro _, h, _ => by simp [wfD] at h
  | .obj _ _, h, _ => by simp [wfD] at h
  | .ref _, h, _ => by simp [wfD] at h
theorem shows_py (n : Nat) : ∀ (ds : List D), wfDs n ds = true → shDs ds = true → PyData.showableAll (pyDs ds) = true
  | [], _, _ => rfl
  | d :: ds, h, h' => by
    rw [wfDs, Bool.and_eq_true] at h
    rw [shDs, Bool.and_eq_true] at h'
    simp [pyDs, PyData.showableAll, show_py n d h.1 h'.1, shows_py n ds h.2 h'.2]
end
theorem b_repr : CaS T (rRepr T.K) fRepr := fun w H S vs ds Q R k rs p => by
  unfold fRepr at p
  split at p
  · obtain ⟨v, rfl, r⟩ := rts1 rs
    split at p
    · rename_i d hc
      rw [Bool.and_eq_true, Bool.and_eq_true] at hc
      obtain ⟨⟨h1, h2⟩, h3⟩ := hc
      have h3' := of_decide_eq_true h3
      refine ⟨v, _, rfl, dp_rt k h1 r, show_py 60 _ h1 h2, shaped_py h1, ?_, Post.ok p k _ (rep_str rfl)⟩
      rw [limE]
      unfold reprD at h3'
      simpa [Str.length] using h3'
    · exact p.elim
  · exact p.elim
/-! tuple, list -/
abbrev rTupO (K : PySem.W.Frag) : List V → Hp → VK → Prop := fun xs H Q => ∃ p ys, xs = [.ref p] ∧ ((SqL K H p ys ∧ ∀ l, H l = none → Q (.ref l) (upd H l (.tup ys))) ∨ (SqT K H p ys ∧ Q (.ref p) H))
theorem cr_tup {X : Cx} (hK : X.K = T.K) : CallR X (.type "tuple") (rTupO T.K) := by rw [← hK]; exact call_tuple_of
theorem b_tup : CaS T (rTupO T.K) fTup := fun w H S vs ds Q R k rs p => by
  unfold fTup at p
  split at p
  · obtain ⟨v, rfl, r⟩ := rts1 rs
    rename_i d
    have p0 := p
    obtain ⟨xs, e, q⟩ := ofO_post k p
    unfold ofO at p0
    rw [e] at p0
    cases d with
    | tup ys =>
      cases e
      obtain ⟨a, us, rfl, hs, rr⟩ := tup_view k r
      rcases r with r | ⟨_, _, _, z, _⟩
      · exact ⟨a, us, rfl, .inr ⟨hs, q _ r⟩⟩
      · cases z
    | _ =>
      obtain ⟨a, us, rfl, hs, rr⟩ := lst_view k r (S := S) e
      refine ⟨a, us, rfl, .inl ⟨hs, fun l hl => ?_⟩⟩
      obtain ⟨q1, r1⟩ := new_tup k rr p0 l hl
      exact q1 _ r1
  · exact p.elim
abbrev rListO (K : PySem.W.Frag) : List V → Hp → VK → Prop := fun xs H Q => ∃ p ys, xs = [.ref p] ∧ (SqL K H p ys ∨ SqT K H p ys) ∧ ∀ l, H l = none → Q (.ref l) (upd H l (.lst ys))
theorem cr_list {X : Cx} (hK : X.K = T.K) : CallR X (.type "list") (rListO T.K) := by rw [← hK]; exact call_list_of
theorem b_list : CaL T (rListO T.K) lList := fun w H S vs ds Q R k rs p => by
  unfold lList at p
  split at p
  · obtain ⟨v, rfl, r⟩ := rts1 rs
    have p0 := p
    obtain ⟨xs, e, q⟩ := ofO_post k p
    unfold ofO at p0
    rw [e] at p0
    obtain ⟨a, us, rfl, hs, rr⟩ := itm_view k r e
    refine ⟨a, us, rfl, hs, fun l hl => ?_⟩
    obtain ⟨q1, m⟩ := new_made k rr p0 l hl
    exact q1 l m
  · exact p.elim
/-! sum, all, any -/
theorem ints_vals : ∀ {ds : List D} {vs : List V} {ns : List Int}, Reps T w vs ds → asInts ds = some ns → vs = ns.map V.int
  | [], _, _, r, h => by cases r; cases h; rfl
  | d :: ds, _, ns, r, h => by
    cases r with
    | cons a b =>
      cases d with
      | int i =>
        cases a
        unfold asInts at h
        cases e : asInts ds with
        | none => rw [e] at h; cases h
        | some ms => rw [e] at h; cases h; rw [List.map_cons, ints_vals b e]
      | _ => cases h
theorem bls_vals : ∀ {ds : List D} {vs : List V} {ns : List Bool}, Reps T w vs ds → asBls ds = some ns → vs = ns.map V.bl
  | [], _, _, r, h => by cases r; cases h; rfl
  | d :: ds, _, ns, r, h => by
    cases r with
    | cons a b =>
      cases d with
      | bl i =>
        cases a
        unfold asBls at h
        cases e : asBls ds with
        | none => rw [e] at h; cases h
        | some ms => rw [e] at h; cases h; rw [List.map_cons, bls_vals b e]
      | _ => cases h
theorem strs_vals : ∀ {ds : List D} {vs : List V} {ns : List (List Nat)}, Reps T w vs ds → asStrs ds = some ns → vs = (ns.map fun s => (⟨s.toArray⟩ : Str)).map V.str
  | [], _, _, r, h => by cases r; cases h; rfl
  | d :: ds, _, ns, r, h => by
    cases r with
    | cons a b =>
      cases d with
      | str i =>
        cases a
        unfold asStrs at h
        cases e : asStrs ds with
        | none => rw [e] at h; cases h
        | some ms => rw [e] at h; cases h; rw [List.map_cons, List.map_cons, strs_vals b e]
      | _ => cases h
theorem cr_sumD {X : Cx} (hK : X.K = T.K) (hc : X.calm = true) : CallR X (.builtin "sum") (L2.rSum T.K) := by rw [← hK]; exact cr_sum hc
theorem b_sum : CaS T (L2.rSum T.K) fSum := fun w H S vs ds Q R k rs p => by
  unfold fSum at p
  split at p
  · obtain ⟨v, rfl, r⟩ := rts1 rs
    obtain ⟨ns, e, q⟩ := ofO_post k p
    obtain ⟨xs, e1, e2⟩ := Option.bind_eq_some_iff.mp e
    obtain ⟨a, us, rfl, hs, rr⟩ := lst_view k r e1
    rw [ints_vals rr e2] at hs
    exact ⟨a, ns, rfl, hs, q _ (.int _)⟩
  · exact p.elim
theorem cr_allD {X : Cx} (hK : X.K = T.K) (hc : X.calm = true) : CallR X (.builtin "all") (L2.rAll T.K) := by rw [← hK]; exact cr_all hc
theorem b_all : CaS T (L2.rAll T.K) fAll := fun w H S vs ds Q R k rs p => by
  unfold fAll at p
  split at p
  · obtain ⟨v, rfl, r⟩ := rts1 rs
    obtain ⟨ns, e, q⟩ := ofO_post k p
    obtain ⟨xs, e1, e2⟩ := Option.bind_eq_some_iff.mp e
    obtain ⟨a, us, rfl, hs, rr⟩ := lst_view k r e1
    rw [bls_vals rr e2] at hs
    exact ⟨a, ns, rfl, hs, q _ (.bl _)⟩
  · exact p.elim
theorem cr_anyD {X : Cx} (hK : X.K = T.K) (hc : X.calm = true) : CallR X (.builtin "any") (L2.rAny T.K) := by rw [← hK]; exact cr_any hc
theorem b_any : CaS T (L2.rAny T.K) fAny := fun w H S vs ds Q R k rs p => by
  unfold fAny at p
  split at p
  · obtain ⟨v, rfl, r⟩ := rts1 rs
    obtain ⟨ns, e, q⟩ := ofO_post k p
    obtain ⟨xs, e1, e2⟩ := Option.bind_eq_some_iff.mp e
    obtain ⟨a, us, rfl, hs, rr⟩ := lst_view k r e1
    rw [bls_vals rr e2] at hs
    exact ⟨a, ns, rfl, hs, q _ (.bl _)⟩
  · exact p.elim

/-! ### isinstance -/
/-- what isinstance asks of an own class -/
structure KlsI (K : PySem.W.Frag) (C : Addr) : Prop where
  cl : Cls K C
  ha : PySem.W.findIn K (.ref C) "__class__" = some (some (.builtin "object.__class__"))
  hn : PySem.W.specialIn K (.builtin "object.__class__") "__get__" = some (some (.builtin "getset_descriptor.__get__"))
  htk : PySem.W.takesIn K (.builtin "object.__class__") = some true
  hm : PySem.W.mroIn K C (.type "object") = some true
def kdV (T : Tb) : Kd → Value
  | .non => .type "NoneType"
  | .bl => .type "bool"
  | .int => .type "int"
  | .str => .type "str"
  | .lst => .type "list"
  | .tup => .type "tuple"
  | .cls c => .ref (T.C c)
theorem tyx_seqL {a : Addr} {xs : List V} (h : SqL T.K H a xs) : TyX T.K H (.ref a) (.type "list") := by
  rcases h with (h | ⟨o, h⟩) | ⟨o, its, n, hk, hc, _⟩
  · exact .base (.lst h)
  · exact .base (.frz h)
  · exact .kList hk hc
theorem tyx_seqT {a : Addr} {xs : List V} (h : SqT T.K H a xs) : TyX T.K H (.ref a) (.type "tuple") := by
  rcases h with (h | ⟨o, h⟩) | ⟨o, its, n, hk, hc, _⟩
  · exact .base (.tup h)
  · exact .fTuple h
  · exact .kTuple hk hc
theorem kd_ty (k : WOk T w H S) {v : V} {d : D} {kd : Kd} (r : RT T w H v d) (h : kdS S d = some kd) (hC : ∀ c, kd = .cls c → KlsI T.K (T.C c)) : TyX T.K H v (kdV T kd) := by
  have own : ∀ {a dx : Addr} {c : Nat} {ws : List (Str × V)}, KlsI T.K (T.C c) → H a = some (.ins (T.C c) dx ws) → TyX T.K H (.ref a) (.ref (T.C c)) := fun {a dx c ws} i e => .base (.ins e i.cl i.ha i.hn i.htk i.hm)
  rcases r with r | ⟨a, vs, xs, rfl, rfl, h1, _, _⟩
  · cases r with
    | non => cases h; exact .base .non
    | bl b => cases h; exact .base (.bl b)
    | int i => cases h; exact .base (.int i)
    | str s => cases h; exact .base (.str _)
    | lst a _ => cases h; exact .base (.lst (k.fz _ _ a))
    | ro a _ => cases h; exact tyx_seqL (sqL_mono k.fz a)
    | tup a _ => cases h; exact tyx_seqT (sqT_mono k.fz a)
    | obj a _ => cases h; exact own (hC _ rfl) (k.fz _ _ a)
    | @ref a n e =>
      unfold kdS at h
      dsimp only at h
      cases q : S[n]? with
      | none => rw [q] at h; cases h
      | some c =>
        rw [q] at h
        have z := k.cell n c a q e
        cases c with
        | lst xs => cases h; obtain ⟨vs, h1, _⟩ := z; exact .base (.lst h1)
        | obj c fs => cases h; obtain ⟨dx, ws, h1, _⟩ := z; exact own (hC _ rfl) h1
  · cases h; exact .base (.lst h1)
section
variable {X : Cx} {W : WX} {e : Expr} {p0 pos : Pos} {fe : EX}
/-- isinstance(e, c), c one class -/
theorem e_isi {f : Kd → Option Bool} {x : Str} {p1 : Pos} {c : V} {u : Value} (hK : X.K = T.K) (hf : ∀ kd b, f kd = some b → (∀ c, kd = .cls c → KlsI T.K (T.C c)) ∧ PySem.W.kitOne T.K (kdV T kd) u = some b) (cv : ClsV c u) (hc : PE X (.Name x p1) (tC c)) (hm : X.mg "isinstance" = none) (he : PE X e (tB T W fe)) (hg : Gl X "isinstance" := by rfl)
    (hs : starEach [e, .Name x p1] X.env = (false, eval e X.env) :: starEach [.Name x p1] X.env := by rfl) (hs2 : starEach [.Name x p1] X.env = (false, eval (.Name x p1) X.env) :: starEach [] X.env := by rfl) (hpl : (backTo pos (starEach [.Name x p1] X.env)).any (·.1) = false := by rfl) :
    PE X (.Call (.Name "isinstance" p0) [e, .Name x p1] [] pos) (tE T W (eUn (gIsi f) fe)) := by
  refine imE (pe_callB call_isi hg hm (by first | boot_by_name | rfl | kernel_rfl) (pa_cons he (pa_cons hc pa_nil hs2) hs) (by decide) (by decide) hs hpl) fun σ H Q ⟨fr, w, r, S, R, p⟩ => ⟨fr, w, r, S, R, (Post.bnd p).on (fun w1 H1 S1 d t k p1 v rv => ?_) fun _ _ _ _ z => z⟩
  unfold gIsi at p1
  obtain ⟨b, e1, q⟩ := ofO_post k p1
  obtain ⟨kd, e2, e3⟩ := Option.bind_eq_some_iff.mp e1
  obtain ⟨h1, h2⟩ := hf kd b e3
  exact ⟨v, c, _, u, b, rfl, cv, by rw [hK]; exact kd_ty k rv e2 h1, by rw [hK]; exact h2, q _ (.bl b)⟩
/-- isinstance(e, (c1, ..)), a tuple display of built-in types -/
theorem e_isiT {f : Kd → Option Bool} {es : List Expr} {j : Nat} {p1 : Pos} {cs : List V} {us : List Value} {ta : TA} (hK : X.K = T.K) (hf : ∀ kd b, f kd = some b → (∀ c, kd = .cls c → KlsI T.K (T.C c)) ∧ PySem.W.kitAny T.K (kdV T kd) us = some b) (cv : Paired ClsV cs us) (hl : cs.length ≤ 1000) (hc : PA X es ta) (hta : ∀ σ H Q, Q cs H → ta σ H Q) (hm : X.mg "isinstance" = none) (he : PE X e (tB T W fe)) (hg : Gl X "isinstance" := by rfl)
    (hs : starEach [e, .Tuple es j p1] X.env = (false, eval e X.env) :: starEach [.Tuple es j p1] X.env := by rfl) (hs2 : starEach [.Tuple es j p1] X.env = (false, eval (.Tuple es j p1) X.env) :: starEach [] X.env := by rfl) (hpl : (backTo pos (starEach [.Tuple es j p1] X.env)).any (·.1) = false := by rfl) :
    PE X (.Call (.Name "isinstance" p0) [e, .Tuple es j p1] [] pos) (tE T W (eUn (gIsi f) fe)) := by
  refine imE (pe_callB call_isiT hg hm (by first | boot_by_name | rfl | kernel_rfl) (pa_cons he (pa_cons (pe_tup hc) pa_nil hs2) hs) (by decide) (by decide) hs hpl) fun σ H Q ⟨fr, w, r, S, R, p⟩ => ⟨fr, w, r, S, R, (Post.bnd p).on (fun w1 H1 S1 d t k p1 v rv => ?_) fun _ _ _ _ z => z⟩
  unfold gIsi at p1
  obtain ⟨b, e1, q⟩ := ofO_post k p1
  obtain ⟨kd, e2, e3⟩ := Option.bind_eq_some_iff.mp e1
  obtain ⟨h1, h2⟩ := hf kd b e3
  refine hta _ _ _ ⟨by rw [limE]; exact Nat.le_trans hl (by decide), fun tp htp => ?_⟩
  obtain ⟨s1, k1⟩ := laidF k (o := .tup cs) htp
  have q' := (p1 : Post T w1 H1 _ _ _)
  unfold ofO at q'
  rw [e1] at q'
  exact ⟨v, tp, cs, _, us, b, rfl, upd_same, cv, by rw [hK]; exact kd_ty k1 (rv.step s1) e2 h1, by rw [hK]; exact h2, q' _ _ s1 k1 _ (.bl b)⟩
end
end
end Dm
set_option maxRecDepth 100000
set_option maxHeartbeats 1000000
/-! == and != by a class's own __eq__. -/
namespace Dm
open PySem PySem.W
section
variable {P : Program} {w : World} {A : Around} {E : Value → Shared → Prop} {s : Shared} {K : Frag} {x C f : Addr} {ox : Obj} {od : Option Obj} {y tb : Value}
/-- x != y where x's class has an own __eq__ and object's __ne__ -/
theorem ne_own {Q : Value → Shared → Prop} (hu : A.units + 1 < cLine) (X : K.In s.heap) (I : PySem.W.InstAt s.heap x ox C od) (hb : Looks (model P w) s.heap (typeOf y) tb) (hn : notFirst K C tb = true) (h0 : findIn K (.ref C) "__ne__" = some (some (.builtin "object.__ne__")))
    (hs : findIn K (.ref C) "__eq__" = some (some (.ref f))) (hf : isFn K (.ref f) = true) (hm : mroIn K C (.type "object") = some true)
    (h : wpAny (model P w) A.in1 (call (.ref f) [.ref x, y]) (fun v s' => ∃ b, v = .bool b ∧ Q (.bool (!b)) s') E s) : wpAny (model P w) A (richCompare .NotEq (.ref x) y) Q E s := by
  have sub : Looks (model P w) s.heap (isInstance (.ref x) (.type "object")) true := I.type.andThen (looks_mroIn X hm)
  have body : ∀ {Q' : Fin → Shared → Prop}, (∀ b s', Q (.bool (!b)) s' → Q' (.done (.ret (.bool (!b)))) s') → wpAny (model P w) A.in1 (Builtin.«object.__ne__» ⟨[.ref x, y], []⟩) Q' E s := fun {Q'} hq' => by
    unfold Builtin.«object.__ne__»
    refine wpAny_bind (wpAny_of_eq (a := ((Value.ref x : Value), [y])) (by first | rfl | (simp only [slotArgs]; rfl)) ?_)
    refine wpAny_bind (wpAny_cRoomFor hu ?_)
    refine wpAny_bind (ifBound_K X I hs hf (wpAny_mono h (fun v s' hv => ?_) fun _ _ e => e))
    obtain ⟨b, rfl, hq⟩ := hv
    exact wpAny_bind (wpAny_truthy_bool (wpAny_pure (hq' b s' hq)))
  have one : wpAny (model P w) A (tryCompare (.ref x) "__ne__" y) (fun r s' => ∃ v, r = some v ∧ Q v s') E s := by
    unfold tryCompare
    refine wpAny_bind ?_
    simp only [callSpecialIfBound?, bindSpecialIfBound?]
    refine wpAny_holding (wpAny_bind (wpAny_bind (wpAny_bind (I.type.here ((looks_findIn X h0).here ?_)))))
    have go : ∀ {Q2 : Option Value → Shared → Prop}, (∀ b s', Q (.bool (!b)) s' → Q2 (some (.bool (!b))) s') → wpAny (model P w) A (call (.builtin "object.__ne__") ([.ref x] ++ [y]) >>= fun v => pure (some v)) Q2 E s := fun {Q2} hq2 => by
      refine wpAny_bind (wpAny_call (codeAny_call_builtin F.cmp_object.ne.plain F.cmpEntry_ne (check_slot F.cmpKind_ne F.cmpSplit_ne sub (F.cmpArgs_ne _ _) ?_)))
      exact body fun b s' q => wpAny_pure (hq2 b s' q)
    have fin : ∀ b s', Q (.bool (!b)) s' → wpAny (model P w) A (match (some (.bool (!b)) : Option Value) with
        | some .notImplemented => pure none
        | r => pure r) (fun r s' => ∃ v, r = some v ∧ Q v s') E s' := fun b s' q => wpAny_pure ⟨_, rfl, q⟩
    refine wpAny_bind (wpAny_askSetting (wpAny_ite ?_))
    split
    · refine wpAny_bind (wpAny_of_eq (F.cmp_object.ne.bind _) (wpAny_pure ?_))
      exact go fun b s' q => wpAny_pure ⟨_, rfl, q⟩
    · refine wpAny_tryCatch (wpAny_bind (wpAny_of_eq (F.cmp_object.ne.bind _) (wpAny_pure ?_)))
      exact go fun b s' q => wpAny_pure ⟨_, rfl, q⟩
  unfold richCompare
  simp only [oneThing_ref]
  refine wpAny_holding (wpAny_bind (wpAny_cRoomFor (Nat.lt_of_succ_lt hu) (wpAny_bind (I.type.here (wpAny_bind (hb.here ?_))))))
  split
  · rename_i q
    have e : subIn K tb (.ref C) = some false := by
      rcases Bool.or_eq_true_iff.mp hn with e | e
      · rw [beq_iff_eq.mp e] at q; simp at q
      · exact beq_iff_eq.mp e
    refine wpAny_bind ((looks_subIn X e).here ?_)
    simp only [Bool.false_eq_true, if_false]
    refine wpAny_bind (wpAny_mono one (fun r s' z => ?_) fun _ _ e => e)
    obtain ⟨v, rfl, hq⟩ := z
    exact wpAny_pure hq
  · refine wpAny_bind (wpAny_pure ?_)
    simp only [Bool.false_eq_true, if_false]
    refine wpAny_bind (wpAny_mono one (fun r s' z => ?_) fun _ _ e => e)
    obtain ⟨v, rfl, hq⟩ := z
    exact wpAny_pure hq
end
end Dm
namespace Dm
set_option autoImplicit false
open PySem L2
/-- x == y: by the own __eq__ (f) where x is of class c and y of a kind that ok tells of -/
def gOE (c : Nat) (ok : Kd → Bool) (f : List D → M D) (x y : D) : M D := fun S => match fldsOf S x with
  | some (c', _) => if c' = c ∧ (kdS S y).any ok = true then noE (f [x, y]) S else .no
  | none => .no
def notD (d : D) : M D := match d with
  | .bl b => pur (.bl (!b))
  | _ => stk
def gONe (c : Nat) (ok : Kd → Bool) (f : List D → M D) (x y : D) : M D := bnd (gOE c ok f x y) notD
section
variable {X : Cx} {T : Tb} {W : WX} {k : Nat} {f C : Addr} {fd : FuncData} {ps : List Str}
structure EqC (K : PySem.W.Frag) (C f : Addr) : Prop where
  eq : PySem.W.findIn K (.ref C) "__eq__" = some (some (.ref f))
  fn : PySem.W.isFn K (.ref f) = true
  ne : PySem.W.findIn K (.ref C) "__ne__" = some (some (.builtin "object.__ne__"))
  ob : PySem.W.mroIn K C (.type "object") = some true
abbrev rOE (K : PySem.W.Frag) (C : Addr) (sp : Sp) (Qm : VK → VK) : R2 := fun x y H Q => ∃ a dx ws tb, x = .ref a ∧ H a = some (.ins C dx ws) ∧ TyX K H y tb ∧ PySem.W.notFirst K C tb = true ∧ sp [x, y] H (Qm Q) E0
theorem own_run {A : Around} {Z : Value → Shared → Prop} {sp : Sp} {pins : List (Addr × Obj)} {σ : L2.St} {H : Hp} {s : Shared} {Q : VK} {a : Addr} {y : V} {u : Value} (F : FnG X.prog X.w X.K X.mg X.base k f fd ps sp) (hr : Room k A) (hg : A.guards = some []) (hb : Binds X.K fd ps [])
    (e0 : Env0 X.prog X.w X.K X.mg X.base A X.stack s H) (I : Inv X pins σ H s) (ry : RelV y u) (h : sp [.ref a, y] H Q E0) : wpAny (model X.prog X.w) A (call (.ref f) [.ref a, u]) (EP X pins σ Q) Z s := by
  refine wpAny_call (codeAny_mono (run_g (A := A) (E := E0) (Z := fun _ _ => False) F hr hg hb (fun e s' z => (passL (X := X.nox) pins σ H _ e s' (I.wish _) z).elim) e0 I (us := [.ref a, u]) (vs := [.ref a, y]) (.cons rfl (.cons ry .nil)) h) fun r s' z => ?_)
  cases r with
  | error er => exact z.elim
  | ok fl =>
    cases fl with
    | ret w => exact z
    | next => exact z.elim
    | brk => exact z.elim
    | cont => exact z.elim
theorem op_ownEq {sp : Sp} (E : EqC X.K C f) (F : FnG X.prog X.w X.K X.mg X.base k f fd ps sp) (ck : Cok X T W (k + 1)) (hb : Binds X.K fd ps []) : OpR X (compareOp .Eq) (rOE X.K C sp id) := by
  intro pins s σ H x y v u Q I rx ry h
  obtain ⟨a, dx, ws, tb, rfl, ha, ty, hn, q⟩ := h
  obtain rfl : v = Value.ref a := rx
  obtain ⟨mA, J, _⟩ := ins_get I.hok ha
  obtain ⟨od, J, _⟩ := J.look
  obtain ⟨P, Z, p, _⟩ := kit_of I ry ty
  obtain ⟨m, hF⟩ := I.fr
  show wpAny _ _ (richCompare .Eq (.ref a) u) _ _ _
  refine PySem.W.cmp_K (op := .Eq) (tb := tb) ck.room.units0 hF I.ok.mod.kin J (Z.ty _ _ I.kIn p) hn E.eq E.fn ?_
  refine wpAny_mono (own_run F (ck.room.mono (Nat.le_succ k)) ck.gd hb I.env0 I ry q) (fun r s' z => ?_) fun _ _ x => x
  obtain ⟨z', H', I', rz, qz⟩ := z
  exact SlX.cmpback rz ⟨z', H', I', rz, qz⟩
theorem op_ownNe {sp : Sp} (E : EqC X.K C f) (F : FnG X.prog X.w X.K X.mg X.base k f fd ps sp) (ck : Cok X T W (k + 1)) (hb : Binds X.K fd ps []) : OpR X (compareOp .NotEq) (rOE X.K C sp fun Q v H => ∃ b, v = .bl b ∧ Q (.bl (!b)) H) := by
  intro pins s σ H x y v u Q I rx ry h
  obtain ⟨a, dx, ws, tb, rfl, ha, ty, hn, q⟩ := h
  obtain rfl : v = Value.ref a := rx
  obtain ⟨mA, J, _⟩ := ins_get I.hok ha
  obtain ⟨od, J, _⟩ := J.look
  obtain ⟨P, Z, p, _⟩ := kit_of I ry ty
  show wpAny _ _ (richCompare .NotEq (.ref a) u) _ _ _
  refine ne_own (by have := ck.room.un; omega) I.kIn J (Z.ty _ _ I.kIn p) hn E.ne E.eq E.fn E.ob ?_
  refine wpAny_mono (own_run (A := X.A.in1) F (Room.in1 ck.room) ck.gd hb (Env0.in1 I.env0) I ry q) (fun r s' z => ?_) fun _ _ x => x
  obtain ⟨z', H', I', rz, b, rfl, qz⟩ := z
  cases rz
  exact ⟨b, rfl, .bl _, H', I', rfl, qz⟩
theorem oe_sem {w : Wd} {H : Hp} {S : Sto} {c : Nat} {ok : Kd → Bool} {g : List D → M D} {x y : D} {P : Wd → Hp → Sto → D → Prop} {R : Wd → Hp → Sto → Exc → Prop} {v1 v2 : V} (k : WOk T w H S) (r1 : Rep T w v1 x) (r2 : Rep T w v2 y) (hok : ∀ kd, ok kd = true → (∀ c, kd = .cls c → KlsI T.K (T.C c)) ∧ PySem.W.notFirst T.K (T.C c) (kdV T kd) = true)
    (p : Post T w H P R (gOE c ok g x y S)) : ∃ a dx ws tb, v1 = .ref a ∧ H a = some (.ins (T.C c) dx ws) ∧ TyX T.K H v2 tb ∧ PySem.W.notFirst T.K (T.C c) tb = true ∧ Post T w H P (fun _ _ _ _ => False) (g [x, y] S) := by
  unfold gOE at p
  cases q : fldsOf S x with
  | none => rw [q] at p; exact p.elim
  | some cf =>
    obtain ⟨c', fs⟩ := cf
    rw [q] at p
    dsimp only at p
    split at p
    · rename_i hc
      obtain ⟨rfl, hk⟩ := hc
      obtain ⟨a, dx, ws, rfl, h1, h2⟩ := obj_view k r1 q
      cases q2 : kdS S y with
      | none => rw [q2] at hk; cases hk
      | some kd =>
        rw [q2] at hk
        obtain ⟨h3, h4⟩ := hok kd hk
        exact ⟨a, dx, ws, _, rfl, h1, kd_ty k (.inl r2) q2 h3, h4, Post.noE p⟩
    · exact p.elim
end
section
variable {X : Cx} {T : Tb} {W : WX} {k c : Nat} {f : Addr} {fd : FuncData} {ps : List Str} {a b : Expr} {pos : Pos} {ok : Kd → Bool} {g : List D → M D} {fa fb : EX}
theorem own_bin {r : R2} {h : D → D → M D} (hs : ∀ (w : Wd) (H : Hp) (S : Sto) (v1 v2 : V) (d1 d2 : D) (Q : VK) (R : Wd → Hp → Sto → Exc → Prop), WOk T w H S → Rep T w v1 d1 → Rep T w v2 d2 → Post T w H (fun w' H' _ d => ∀ v, Rep T w' v d → Q v H') R (h d1 d2 S) → r v1 v2 H Q) (σ : L2.St) (H : Hp) (Q : VK) (p : tE T W (eBin h fa fb) σ H Q) : tOp r (tE T W fa) (tE T W fb) σ H Q := by
  obtain ⟨fr, w, rr, S, R, p⟩ := p
  refine ⟨fr, w, rr, S, R, (Post.bnd p).on (fun w1 H1 S1 d1 t1 k1 p1 v1 r1 => ?_) fun _ _ _ _ q => q⟩
  refine ⟨fr, w1, rr, S1, R.step t1 k1, (Post.bnd p1).on (fun w2 H2 S2 d2 t2 k2 p2 v2 r2 => ?_) fun _ _ _ _ q => q⟩
  exact hs w2 H2 S2 v1 v2 d1 d2 Q (eW T W σ) k2 (r1.up t2.le) r2 p2
theorem e_ownEq (E : EqC X.K (T.C c) f) (F : FnG X.prog X.w X.K X.mg X.base k f fd ps (spD T 2 g)) (ck : Cok X T W (k + 1)) (hb : Binds X.K fd ps []) (hok : ∀ kd, ok kd = true → (∀ c, kd = .cls c → KlsI T.K (T.C c)) ∧ PySem.W.notFirst T.K (T.C c) (kdV T kd) = true) (hm : behindInMarks .Eq b = false) (ha : PE X a (tE T W fa)) (hb' : PE X b (tE T W fb)) :
    PE X (.Compare a [.Eq] [b] pos) (tE T W (eBin (gOE c ok g) fa fb)) := imE (pe_cmpR (op_ownEq E F ck hb) ha hb' hm) (own_bin fun w H S v1 v2 d1 d2 Q R k r1 r2 p => by
  obtain ⟨a, dx, ws, tb, h1, h2, h3, h4, h5⟩ := oe_sem k r1 r2 hok p
  rw [ck.K]
  exact ⟨a, dx, ws, tb, h1, h2, h3, h4, w, S, [d1, d2], k, .cons r1 (.cons r2 .nil), rfl, h5.on (fun _ _ _ _ _ _ z => z) fun _ _ _ _ z => z.elim⟩)
theorem e_ownNe (E : EqC X.K (T.C c) f) (F : FnG X.prog X.w X.K X.mg X.base k f fd ps (spD T 2 g)) (ck : Cok X T W (k + 1)) (hb : Binds X.K fd ps []) (hok : ∀ kd, ok kd = true → (∀ c, kd = .cls c → KlsI T.K (T.C c)) ∧ PySem.W.notFirst T.K (T.C c) (kdV T kd) = true) (hm : behindInMarks .NotEq b = false) (ha : PE X a (tE T W fa)) (hb' : PE X b (tE T W fb)) :
    PE X (.Compare a [.NotEq] [b] pos) (tE T W (eBin (gONe c ok g) fa fb)) := imE (pe_cmpR (op_ownNe E F ck hb) ha hb' hm) (own_bin fun w H S v1 v2 d1 d2 Q R k r1 r2 p => by
  unfold gONe at p
  obtain ⟨a, dx, ws, tb, h1, h2, h3, h4, h5⟩ := oe_sem k r1 r2 hok (Post.bnd p)
  rw [ck.K]
  refine ⟨a, dx, ws, tb, h1, h2, h3, h4, w, S, [d1, d2], k, .cons r1 (.cons r2 .nil), rfl, h5.on (fun w' H' S' d t kk z v rv => ?_) fun _ _ _ _ z => z.elim⟩
  cases rv with
  | bl b => exact ⟨b, rfl, Post.ok z kk _ (.bl _)⟩
  | _ => exact z.elim)
end
end Dm
set_option maxRecDepth 100000
set_option maxHeartbeats 1000000
/-! What is walked: sequences, ranges, enumerate. -/
namespace Dm
open PySem
open AutoSeq1 (wpAny_loadPart')
theorem meets_enumT (l : Addr) (items : Array Value) (n : Nat) (dct : Option Addr) (sl : Array (Option Value)) :
    Meets (Builtin.«enumerate.__new__» ⟨[.type "enumerate", .ref l], []⟩) (fun _ R s => s.heap.get? l = some { cls := .type "tuple", dict := dct, data := .seq items n, slots := sl } ∧
      R (.ok (.ret (.ref (s.heap.push { cls := .type "tuple_iterator", data := .fields #[.ref l, .int 0 0] }).objs.size))) { s with heap := (s.heap.push { cls := .type "tuple_iterator", data := .fields #[.ref l, .int 0 0] }).push { cls := .type "enumerate", data := .fields #[.none, .bool false, .ref s.heap.objs.size, rawInt 0, .none, .none] } }) :=
  .of_wp fun prog w A R s h => by
    obtain ⟨hp, g, d, tk, os⟩ := s
    obtain ⟨hl, h⟩ := h
    have hsub := sub_enumerate
    have ht : Heap.IsTuple (Shared.heap ⟨hp, g, d, tk, os⟩) l items := ⟨_, hl, rfl, n, rfl⟩
    wp_walk using wpAny_loadPart' hl
    refine wpAny_stack_any fun st => wpAny_pure ?_
    split
    · rename_i c _ _ _ _ _
      cases (c == Value.type "enumerate")
      · wp_walk using wpAny_loadPart' hl, wpAny_pyIter_tuple ht
        exact ⟨_, rfl, h⟩
      · wp_walk using wpAny_loadPart' hl, wpAny_pyIter_tuple ht
        exact ⟨_, rfl, h⟩
    · wp_walk using wpAny_loadPart' hl, wpAny_pyIter_tuple ht
      exact ⟨_, rfl, h⟩
section
variable {prog : Program} {w : World} {A : Around} {E : Value → Shared → Prop} {s : Shared}
theorem call_enumT {l : Addr} {items : Array Value} {Q : Value → Shared → Prop} (hL : s.heap.IsTuple l items)
    (h : ∀ h', IsEnum h' (s.heap.objs.size + 1) s.heap.objs.size 0 .none → h'.IsTupleIter s.heap.objs.size l 0 → h'.objs.size = s.heap.objs.size + 2 → (∀ b o, s.heap.get? b = some o → h'.get? b = some o) → Q (.ref (s.heap.objs.size + 1)) { s with heap := h' }) :
    wpAny (model prog w) A (call (.type "enumerate") [.ref l]) Q E s := by
  obtain ⟨⟨c, dct, dt, sl⟩, hl, hc, n, hd⟩ := hL
  replace hc : c = .type "tuple" := hc
  replace hd : dt = .seq items n := hd
  subst hc hd
  refine callType_new F.called_enumerate (by decide) (F.typeCall_enumerate_1 _) (F.newCall_enumerate_1 _) (fun obj => F.args_object_init_2 obj _) F.entry_enumerate_new (meets_enumT l items n dct sl) ⟨hl, ?_⟩
  have hz : (s.heap.push { cls := .type "tuple_iterator", data := .fields #[.ref l, .int 0 0] }).objs.size = s.heap.objs.size + 1 := Heap.size_push ..
  show _ ∧ _
  rw [hz]
  have he : IsEnum ((s.heap.push { cls := .type "tuple_iterator", data := .fields #[.ref l, .int 0 0] }).push { cls := .type "enumerate", data := .fields #[.none, .bool false, .ref s.heap.objs.size, rawInt 0, .none, .none] }) (s.heap.objs.size + 1) s.heap.objs.size 0 .none := by
    have q := Heap.get?_push_size (s.heap.push { cls := .type "tuple_iterator", data := .fields #[.ref l, .int 0 0] }) (o := { cls := .type "enumerate", data := .fields #[.none, .bool false, .ref s.heap.objs.size, rawInt 0, .none, .none] }) rfl
    rw [hz] at q; exact q
  exact ⟨⟨_, he, rfl⟩, h _ he ⟨_, Heap.get?_push_of_some _ (Heap.get?_push_size _ rfl), rfl, rfl⟩ (by rw [Heap.size_push, hz]) fun b o x => Heap.get?_push_of_some _ (Heap.get?_push_of_some _ x)⟩
end
end Dm
namespace Dm
set_option autoImplicit false
open PySem L2
/-- the tuple at a, each item in a new pair -/
def IteT (K : PySem.W.Frag) (a : Addr) : It :=
  ⟨fun i H => ∃ (xs : List V) (x : V), SqT K H a xs ∧ xs[i]? = some x, fun i H v H' => ∃ T x, v = .ref T ∧ H T = none ∧ H' = upd H T (.tup [.int (i : Nat), x]) ∧ ∀ xs, SqT K H a xs → xs[i]? = some x, fun i H => ∃ xs : List V, SqT K H a xs ∧ xs.length ≤ i⟩
theorem turn_eT {P : Program} {w : World} {K : PySem.W.Frag} {elts : List Expr} {kk : Nat} {tpos : Pos} (a e it : Addr) (hae : a ≠ e) (hai : a ≠ it) :
    Turn P w K (.Tuple elts kk tpos) (IteT K a) [e, it] e (fun i h => (∃ old, IsEnum h e it ((i : Nat) : Int) old) ∧ h.IsTupleIter it a i ∧ e ≠ it) where
  mem := by simp
  obj := fun i h st b hb => by
    obtain ⟨⟨old, he⟩, ⟨o, ho, hc, hd⟩, _⟩ := st
    have e' : b = e ∨ b = it := by simpa using hb
    rcases e' with z | z
    · rw [z]; exact ⟨_, he, fun v q => nomatch q⟩
    · rw [z]; exact ⟨o, ho, fun v q => by rw [hd] at q; cases q⟩
  keep := fun i h h' st k => let ⟨⟨old, he⟩, hi, hne⟩ := st; ⟨⟨old, k e (by simp) _ he⟩, hi.at fun o q => k it (by simp) o q, hne⟩
  item := by
    intro X hP hw hK hc i pins s σ H E I hf st hg
    subst hP hw hK
    obtain ⟨⟨old, he⟩, hit, hne⟩ := st
    obtain ⟨xs, x, hq, hx⟩ := hg
    obtain ⟨its, rv, p, hz⟩ := I.tuple hq
    obtain ⟨u, hu, ru⟩ := rv.get hx
    have hel : e < s.heap.objs.size := Heap.lt_size he
    have hil : it < s.heap.objs.size := by obtain ⟨_, q, _⟩ := hit; exact Heap.lt_size q
    have hsz : i < its.toArray.size := by
      have := (List.getElem?_eq_some_iff.mp hu).1
      simpa using this
    have D := Draws.tuple (prog := X.prog) (w := X.w) (A := X.A.in1) (I.ok.hd hc) it a hai its.toArray
    refine wpAny_pyNext_enum_itemD D he ⟨hit, p⟩ hsz hne (by simp [hne, Ne.symm hae]) fun y h' tk hy ho hst hT hsz' hk => ?_
    have hyu : y = u := by
      have q : its[i]? = some y := by simpa using hy
      rw [hu] at q; cases q; rfl
    subst hyu
    refine ⟨_, rfl, wpAny_letOwnedTupleGo_enum (s := { s with heap := h', toks := tk + 1 }) ho fun h'' he' sb => ?_⟩
    have hT2 : h''.get? s.heap.objs.size = some { cls := .type "tuple", data := .seq #[.int i tk, y] } := (sb.2 _ (Nat.ne_of_gt hel)).trans hT
    have new : ObjOk X.prog X.w (upd H s.heap.objs.size (.tup [.int (i : Nat), x])) h'' s.heap.objs.size (.tup [.int (i : Nat), x]) := ⟨by show 2 ≤ sizeLine; decide, [.int i tk, y], .cons ⟨_, rfl⟩ (.cons ru .nil), ⟨_, hT2, rfl, _, rfl⟩⟩
    have I1 : Inv X pins σ (upd H s.heap.objs.size (.tup [.int (i : Nat), x])) { s with heap := h'', toks := tk + 1 } :=
      I.turnedNew (ch := [e, it]) (fun b ob hb q => (sb.2 b (fun z => hb (by simp [z]))).trans (hk b ob (fun z => hb (by simp [z])) (fun z => hb (by simp [z])) q)) hf (Nat.le_refl _) new
    refine ⟨.ref s.heap.objs.size, _, I1, rfl, ⟨_, x, rfl, I.hok.fresh (Nat.le_refl _), rfl, fun ys hy => by rw [I.tuple_inj hy hq]; exact hx⟩, ⟨⟨y, ?_⟩, hst.1.at fun o q => (sb.2 it (Ne.symm hne)).trans q, hne⟩, fun b hb => ?_⟩
    · have e1 : ((i + 1 : Nat) : Int) = (i : Int) + 1 := by omega
      rw [e1]; exact he'
    · have hb' : b < s.heap.objs.size := by
        have e' : b = e ∨ b = it := by simpa using hb
        rcases e' with z | z
        · rw [z]; exact hel
        · rw [z]; exact hil
      rw [upd_ne (Nat.ne_of_lt hb')]
      exact (hf b hb).1
  done := by
    intro X hP hw hK hc i pins s σ H E I hf st hg
    subst hP hw hK
    obtain ⟨⟨old, he⟩, hit, hne⟩ := st
    obtain ⟨xs, hq, hx⟩ := hg
    obtain ⟨its, rv, p, hz⟩ := I.tuple hq
    obtain ⟨f0, f1, f2, f3, f4, f5⟩ := hf it (by simp)
    have hl := rv.length
    have hh := I.ok.hd hc
    have hT : s.TypeIs (.ref e) "enumerate" := ⟨_, he, rfl⟩
    unfold pyNext
    refine wpAny_bind (wpAny_attempt (wpAny_callSpecial?_slot (name := Str.ofString "__next__") hT F.slot_enumerate_next (wpAny_call_entry F.slot_enumerate_next hT F.entry_enumerate_next ?_ (F.args_enumerate_next_1 _))))
    show wpAny _ _ (field (.ref e) 2 >>= _) _ _ _
    refine wpAny_bind (wpAny_field he rfl (x := .ref it) rfl ?_)
    refine wpAny_bind (wpAny_nextOf_tuple_end (A := X.A.in1) hh hit (show s.heap.IsTuple a its.toArray from p) (by simp; omega) fun h' x he' hx' => ?_)
    obtain ⟨o, ho, hc2⟩ := hx'
    refine wpAny_bind (wpAny_isInstance (T := "StopIteration") (b := true) ⟨o, ho, hc2⟩ isSubtype_stop ?_)
    exact wpAny_pure ⟨rfl, I.turned (t' := s.toks) (fun b o hb q => he' b o hb q) f0 f1 f3 f4 f5⟩
  self := fun A i s Q E st h => let ⟨⟨_, he⟩, _⟩ := st; wpAny_pyIter_enum he h
def iEnumA (K : PySem.W.Frag) (ta : TA) : TI := fun σ H R => ta σ H fun vs H1 => ∃ a xs, vs = [.ref a] ∧ ((SqL K H1 a xs ∧ R (Ite K a) H1) ∨ (SqT K H1 a xs ∧ R (IteT K a) H1))
theorem pi_enumA {X : Cx} {e : Expr} {ta : TA} {p pos tpos : Pos} {elts : List Expr} {kk : Nat} (hg : Gl X "enumerate") (hm : X.mg "enumerate" = none) (ha : PA X [e] ta) (hs : starEach [e] X.env = [(false, eval e X.env)] := by rfl) : PI X (.Tuple elts kk tpos) (.Call (.Name "enumerate" p) [e] [] pos) (iEnumA X.K ta) := by
  refine ⟨fun pins s σ H R I h => ?_⟩
  refine PyProof.Rows.Call_ (ld_blt I hg hm PyProof.Rows.boot_enumerate (PyProof.Rows.callWith_type1 (thn (ha.run pos pins s σ H _ I h) fun us s1 ⟨vs, H1, I1, r1, q1⟩ => ?_) hs rfl))
  obtain ⟨a, xs, ex, q1⟩ := q1
  subst ex
  cases r1 with
  | cons r rr =>
    cases rr
    cases r
    have fin : ∀ b, b ∈ [s1.heap.objs.size + 1, s1.heap.objs.size] → FpOk X pins H1 b := fun b hb => by
      have e' : b = s1.heap.objs.size + 1 ∨ b = s1.heap.objs.size := by simpa using hb
      have hle : s1.heap.objs.size ≤ b := by
        rcases e' with z | z
        · rw [z]; exact Nat.le_add_right _ _
        · rw [z]; exact Nat.le_refl _
      exact I1.fpOk hle (I1.hok.fresh hle)
    rcases q1 with ⟨hq, q⟩ | ⟨hq, q⟩
    · obtain ⟨its, rv, p', hz⟩ := I1.list hq
      refine call_enumerate_list p'.isList fun h' he hit hsz hk => wpAny_pyIter_enum he ?_
      have I2 : Inv X pins σ H1 { s1 with heap := h' } := I1.kept (t' := s1.toks) hk
      exact ⟨s1.heap.objs.size + 1, [s1.heap.objs.size + 1, s1.heap.objs.size], _, _, H1, rfl, I2, turn_enum a (s1.heap.objs.size + 1) s1.heap.objs.size, ⟨⟨.none, he⟩, hit, Nat.succ_ne_self _⟩, fin, q⟩
    · obtain ⟨its, rv, p', hz⟩ := I1.tuple hq
      have lt : a < s1.heap.objs.size := by obtain ⟨_, q, _⟩ := p'; exact Heap.lt_size q
      refine call_enumT (show s1.heap.IsTuple a its.toArray from p') fun h' he hit hsz hk => wpAny_pyIter_enum he ?_
      have I2 : Inv X pins σ H1 { s1 with heap := h' } := I1.kept (t' := s1.toks) hk
      exact ⟨s1.heap.objs.size + 1, [s1.heap.objs.size + 1, s1.heap.objs.size], _, _, H1, rfl, I2, turn_eT a (s1.heap.objs.size + 1) s1.heap.objs.size (Nat.ne_of_lt (Nat.lt_succ_of_lt lt)) (Nat.ne_of_lt lt), ⟨⟨.none, he⟩, hit, Nat.succ_ne_self _⟩, fin, q⟩
section
variable {X : Cx} {T : Tb} {W : WX} {tg e : Expr} {p pos : Pos}
theorem PIor {t t' : TI} (h : PI X tg e t) (h' : PI X tg e t') : PI X tg e (fun σ H Q => t σ H Q ∨ t' σ H Q) := ⟨fun pins s σ H R I q => by
  rcases q with q | q
  · exact h.run pins s σ H R I q
  · exact h'.run pins s σ H R I q⟩
/-- what a mirror's end says of a value -/
theorem kind_of {w : Wd} {H : Hp} {f : EX} {r : Ev} {S : Sto} {P : Wd → Hp → Sto → D → Prop} {R : Wd → Hp → Sto → Exc → Prop} (p : Post T w H P R (f r S)) (C1 C2 : D → Prop) (hc : ∀ d, C1 d ∨ C2 d) : (Post T w H (fun w' H' S' d => C1 d ∧ P w' H' S' d) R (f r S)) ∨ Post T w H (fun w' H' S' d => C2 d ∧ P w' H' S' d) R (f r S) := by
  cases q : f r S with
  | ok d S' =>
    rw [q] at p
    rcases hc d with c | c
    · exact .inl fun w' H' t k => ⟨c, p w' H' t k⟩
    · exact .inr fun w' H' t k => ⟨c, p w' H' t k⟩
  | er x S' => rw [q] at p; exact .inl p
  | no => rw [q] at p; exact p.elim
def isTup : D → Bool
  | .tup _ => true
  | _ => false
def isStr : D → Bool
  | .str _ => true
  | _ => false
theorem dec2 (f : D → Bool) (d : D) : f d = true ∨ f d = false := by cases f d <;> simp
/-- a list's turns -/
theorem itB_lst {w1 : Wd} {H1 : Hp} {S1 : Sto} {v : V} {d : D} {sr : Src} (k : WOk T w1 H1 S1) (rv : RT T w1 H1 v d) (ht : isTup d = false) (hs : isStr d = false) (h : dIter d S1 = .ok sr S1) : ∃ a, v = .ref a ∧ (∃ vs, SqL T.K H1 a vs) ∧ ItB T w1 H1 (Itl T.K a) sr := by
  rcases rv with rv | ⟨a, vs, xs, rfl, rfl, h1, n, q⟩
  · cases rv with
    | lst e q => cases h; exact ⟨_, rfl, ⟨_, SqL.of (k.fz _ _ e)⟩, fun w' H' S' st kk _ => turn_lst kk (SqL.of (kk.fz _ _ (st.le.F _ _ e))) (q.up st.le)⟩
    | ro e q => cases h; exact ⟨_, rfl, ⟨_, sqL_mono k.fz e⟩, fun w' H' S' st kk _ => turn_lst kk (sqL_mono (fun b o z => kk.fz b o (st.le.F b o z)) e) (q.up st.le)⟩
    | @ref a n e =>
      unfold dIter at h
      dsimp only at h
      cases q : S1[n]? with
      | none => rw [q] at h; cases h
      | some c =>
        rw [q] at h
        cases c with
        | obj _ _ => cases h
        | lst xs =>
          cases h
          obtain ⟨vs, h1, h2⟩ := k.cell n _ a q e
          exact ⟨a, rfl, ⟨vs, SqL.of h1⟩, fun w' H' S' st kk ho => by
            obtain ⟨us, h3, h4⟩ := kk.cell n _ a ho (st.le.at_ e)
            exact turn_lst kk (SqL.of h3) h4⟩
    | tup _ _ => cases ht
    | str _ => cases hs
    | _ => cases h
  · cases h
    exact ⟨a, rfl, ⟨vs, SqL.of h1⟩, fun w' H' S' st kk _ => turn_lst kk (SqL.of (st.keep _ _ h1 n)) (q.up st.le)⟩
theorem itF_lst {w1 : Wd} {H1 : Hp} {S1 : Sto} {v : V} {d : D} {sr : Src} (k : WOk T w1 H1 S1) (rv : Rep T w1 v d) (ht : isTup d = false) (hs : isStr d = false) (h : dIter d S1 = .ok sr S1) : ∃ a, v = .ref a ∧ (∃ vs, SqL T.K H1 a vs) ∧ ItF T w1 (Itl T.K a) sr := by
  cases rv with
  | lst e q => cases h; exact ⟨_, rfl, ⟨_, SqL.of (k.fz _ _ e)⟩, fun w' H' S' st kk _ => turn_lst kk (SqL.of (kk.fz _ _ (st.F _ _ e))) (q.up st)⟩
  | ro e q => cases h; exact ⟨_, rfl, ⟨_, sqL_mono k.fz e⟩, fun w' H' S' st kk _ => turn_lst kk (sqL_mono (fun b o z => kk.fz b o (st.F b o z)) e) (q.up st)⟩
  | @ref a n e =>
    unfold dIter at h
    dsimp only at h
    cases q : S1[n]? with
    | none => rw [q] at h; cases h
    | some c =>
      rw [q] at h
      cases c with
      | obj _ _ => cases h
      | lst xs =>
        cases h
        obtain ⟨vs, h1, h2⟩ := k.cell n _ a q e
        exact ⟨a, rfl, ⟨vs, SqL.of h1⟩, fun w' H' S' st kk ho => by
          obtain ⟨us, h3, h4⟩ := kk.cell n _ a ho (st.at_ e)
          exact turn_lst kk (SqL.of h3) h4⟩
  | tup _ _ => cases ht
  | str _ => cases hs
  | _ => cases h
theorem turn_st {w : Wd} {H : Hp} {S : Sto} (k : WOk T w H S) (s : List Nat) : TurnOk T w H S (Its ⟨s.toArray⟩) (s.map fun c => .str [c]) := by
  refine ⟨fun i hi => by simpa [Its] using hi, fun i d e => ?_⟩
  rw [List.getElem?_map] at e
  obtain ⟨c, hc, rfl⟩ := Option.map_eq_some_iff.mp e
  have hl := (List.getElem?_eq_some_iff.mp hc).1
  refine ⟨by simpa [Its] using hl, fun x H' hy => ?_⟩
  obtain ⟨rfl, c', h1, rfl⟩ := hy
  have : c' = c := by
    have h2 : s[i]? = some c' := by simpa using h1
    rw [hc] at h2; cases h2; rfl
  subst this
  exact ⟨w, Stp.refl _ _, k, .str [c']⟩
theorem dIter_ok {d : D} {S S' : Sto} {sr : Src} (h : dIter d S = .ok sr S') : S' = S := by
  unfold dIter at h
  split at h <;> first | (cases h; rfl) | skip
  · split at h <;> first | (cases h; rfl) | cases h
  · cases h
theorem dIter_post {w : Wd} {H : Hp} {d : D} {S : Sto} {P : Wd → Hp → Sto → Src → Prop} {R : Wd → Hp → Sto → Exc → Prop} (k : WOk T w H S) (p : Post T w H P R (dIter d S)) : ∃ sr, dIter d S = .ok sr S ∧ P w H S sr := by
  cases q : dIter d S with
  | ok sr S' =>
    have := dIter_ok q
    subst this
    rw [q] at p
    exact ⟨sr, rfl, Post.ok p k⟩
  | er x S' =>
    unfold dIter at q
    split at q <;> first | cases q | skip
    split at q <;> cases q
  | no => rw [q] at p; exact p.elim
/-- for x in e: a list, a tuple, a text -/
theorem i_seq {f : EX} (he : PE X e (tB T W f)) (hK : X.K = T.K := by rfl) : PI X tg e (tIB T W (iIter f)) := by
  refine imI (PIor (pi_tup he) (PIor (pi_str he) (pi_list he))) fun σ H Q ⟨fr, w, r, S, R, p⟩ => ?_
  have p' := Post.bnd p
  rcases kind_of p' (fun d => isTup d = true) (fun d => isTup d = false) (dec2 isTup) with p1 | p1
  · refine .inl ⟨fr, w, r, S, R, p1.on (fun w1 H1 S1 d t k q v rv => ?_) fun _ _ _ _ z => z⟩
    obtain ⟨c, q⟩ := q
    cases d with
    | tup xs =>
      rcases rv with rv | ⟨_, _, _, z, _⟩
      · cases rv with
        | tup a b =>
          rw [hK]
          exact ⟨_, rfl, ⟨_, sqT_mono k.fz a⟩, Post.ok q k _ fun w' H' S' st kk _ => turn_tp kk (sqT_mono (fun b o e => kk.fz b o (st.le.F b o e)) a) (b.up st.le)⟩
      · cases z
    | _ => cases c
  · refine .inr ?_
    rcases kind_of p1 (fun d => isStr d = true) (fun d => isStr d = false) (dec2 isStr) with p2 | p2
    · refine .inl ⟨fr, w, r, S, R, p2.on (fun w1 H1 S1 d t k q v rv => ?_) fun _ _ _ _ z => z⟩
      obtain ⟨c, c2, q⟩ := q
      cases d with
      | str s =>
        cases rv.str
        exact ⟨_, rfl, Post.ok q k _ fun w' H' S' st kk _ => turn_st kk s⟩
      | _ => cases c
    · refine .inr ⟨fr, w, r, S, R, p2.on (fun w1 H1 S1 d t k q v rv => ?_) fun _ _ _ _ z => z⟩
      obtain ⟨c, c2, q⟩ := q
      obtain ⟨sr, h1, q1⟩ := dIter_post k q
      obtain ⟨a, rfl, h2, h3⟩ := itB_lst k rv c2 c h1
      rw [hK]
      exact ⟨a, rfl, h2, q1 _ h3⟩
theorem i_seqF {f : EX} (he : PE X e (tE T W f)) (hK : X.K = T.K := by rfl) : PI X tg e (tI T W (iIter f)) := by
  refine imI (PIor (pi_tup he) (PIor (pi_str he) (pi_list he))) fun σ H Q ⟨fr, w, r, S, R, p⟩ => ?_
  have p' := Post.bnd p
  rcases kind_of p' (fun d => isTup d = true) (fun d => isTup d = false) (dec2 isTup) with p1 | p1
  · refine .inl ⟨fr, w, r, S, R, p1.on (fun w1 H1 S1 d t k q v rv => ?_) fun _ _ _ _ z => z⟩
    obtain ⟨c, q⟩ := q
    cases d with
    | tup xs =>
      cases rv with
      | tup a b =>
        rw [hK]
        exact ⟨_, rfl, ⟨_, sqT_mono k.fz a⟩, Post.ok q k _ fun w' H' S' st kk _ => turn_tp kk (sqT_mono (fun b o e => kk.fz b o (st.F b o e)) a) (b.up st)⟩
    | _ => cases c
  · refine .inr ?_
    rcases kind_of p1 (fun d => isStr d = true) (fun d => isStr d = false) (dec2 isStr) with p2 | p2
    · refine .inl ⟨fr, w, r, S, R, p2.on (fun w1 H1 S1 d t k q v rv => ?_) fun _ _ _ _ z => z⟩
      obtain ⟨c, c2, q⟩ := q
      cases d with
      | str s =>
        cases rv
        exact ⟨_, rfl, Post.ok q k _ fun w' H' S' st kk _ => turn_st kk s⟩
      | _ => cases c
    · refine .inr ⟨fr, w, r, S, R, p2.on (fun w1 H1 S1 d t k q v rv => ?_) fun _ _ _ _ z => z⟩
      obtain ⟨c, c2, q⟩ := q
      obtain ⟨sr, h1, q1⟩ := dIter_post k q
      obtain ⟨a, rfl, h2, h3⟩ := itF_lst k rv c2 c h1
      rw [hK]
      exact ⟨a, rfl, h2, q1 _ h3⟩
/-! ranges -/
def rngD (lo : Int) (n : Nat) : Src := ⟨(List.range n).map fun i => .int (lo + (i : Nat)), fun _ => True⟩
def iRng1D (a : EX) : IX := fun r => bnd (a r) fun d => match d with
  | .int j => need (decide (-(2 ^ 62) ≤ j ∧ j < 2 ^ 62)) (pur (rngD 0 j.toNat))
  | _ => stk
def iRng2D (a b : EX) : IX := fun r => bnd (a r) fun d => bnd (b r) fun e => match d, e with
  | .int i, .int j => need (decide (-(2 ^ 62) ≤ i ∧ i < 2 ^ 62 ∧ -(2 ^ 62) ≤ j ∧ j < 2 ^ 62)) (pur (rngD i (j - i).toNat))
  | _, _ => stk
theorem turn_rng {w : Wd} {H : Hp} {S : Sto} (k : WOk T w H S) (lo : Int) (n : Nat) : TurnOk T w H S (Itr lo n) (rngD lo n).ds := by
  refine ⟨fun i hi => by simpa [Itr, rngD] using hi, fun i d e => ?_⟩
  unfold rngD at e
  rw [List.getElem?_map] at e
  obtain ⟨c, hc, rfl⟩ := Option.map_eq_some_iff.mp e
  obtain ⟨hl, hv⟩ := List.getElem?_eq_some_iff.mp hc
  simp at hv
  subst hv
  refine ⟨by simpa [Itr] using hl, fun x H' hy => ?_⟩
  obtain ⟨rfl, rfl⟩ := hy
  exact ⟨w, Stp.refl _ _, k, .int _⟩
theorem i_rng1 {f : EX} {a : Expr} (ha : PE X a (tE T W f)) (hm : X.mg "range" = none) (hg : Gl X "range" := by rfl) (hs : starEach [a] X.env = [(false, eval a X.env)] := by rfl) (hs1 : starEach (a :: []) X.env = (false, eval a X.env) :: starEach [] X.env := by rfl) : PI X tg (.Call (.Name "range" p) [a] [] pos) (tI T W (iRng1D f)) :=
  imI (pi_range1 hg hm (pa_cons ha pa_nil hs1) hs) fun σ H Q ⟨fr, w, r, S, R, q⟩ => ⟨fr, w, r, S, R, (Post.bnd q).on (fun w1 H1 S1 d t k p1 v rv => by
    cases rv with
    | int j =>
      obtain ⟨h, p2⟩ := Post.need p1
      have h' := of_decide_eq_true h
      exact ⟨j, rfl, h'.1, h'.2, Post.ok p2 k _ fun w' H' S' _ kk _ => turn_rng kk 0 j.toNat⟩
    | _ => exact p1.elim) fun _ _ _ _ z => z⟩
theorem i_rng2 {f g : EX} {a b : Expr} (ha : PE X a (tE T W f)) (hb : PE X b (tE T W g)) (hm : X.mg "range" = none) (hg : Gl X "range" := by rfl) (hs : starEach [a, b] X.env = [(false, eval a X.env), (false, eval b X.env)] := by rfl) (hs2 : starEach [b] X.env = [(false, eval b X.env)] := by rfl)
    (hs1 : starEach (a :: [b]) X.env = (false, eval a X.env) :: starEach [b] X.env := by rfl) (hs3 : starEach (b :: []) X.env = (false, eval b X.env) :: starEach [] X.env := by rfl) : PI X tg (.Call (.Name "range" p) [a, b] [] pos) (tI T W (iRng2D f g)) :=
  imI (pi_range2 hg hm (pa_cons ha (pa_cons hb pa_nil hs3) hs1) hs hs2) fun σ H Q ⟨fr, w, r, S, R, q⟩ => ⟨fr, w, r, S, R, (Post.bnd q).on (fun w1 H1 S1 d t k p1 v rv => ⟨fr, w1, r, S1, R.step t k, (Post.bnd p1).on (fun w2 H2 S2 e t2 k2 p2 u ru => by
    cases rv with
    | int i =>
      cases ru with
      | int j =>
        obtain ⟨h, p3⟩ := Post.need p2
        have h' := of_decide_eq_true h
        exact ⟨i, j, rfl, h', Post.ok p3 k2 _ fun w' H' S' _ kk _ => turn_rng kk i (j - i).toNat⟩
      | _ => exact p2.elim
    | _ => exact p2.elim) fun _ _ _ _ z => z⟩) fun _ _ _ _ z => z⟩
/-! enumerate -/
def enuD (i : Nat) : List D → List D
  | [] => []
  | d :: ds => .tup [.int i, d] :: enuD (i + 1) ds
theorem enu_at : ∀ (ds : List D) (k i : Nat), (enuD k ds)[i]? = ds[i]?.map fun d => .tup [.int ((k + i : Nat) : Int), d]
  | [], _, _ => rfl
  | d :: ds, k, 0 => rfl
  | d :: ds, k, i + 1 => by
    rw [enuD, List.getElem?_cons_succ, enu_at ds (k + 1) i, List.getElem?_cons_succ]
    have e : k + 1 + i = k + (i + 1) := by omega
    rw [e]
theorem enu_len : ∀ (ds : List D) (k : Nat), (enuD k ds).length = ds.length
  | [], _ => rfl
  | d :: ds, k => by rw [enuD, List.length_cons, enu_len ds, List.length_cons]
def iEnu (e : EX) : IX := fun r => bnd (e r) fun d => bnd (dIter d) fun s => match d with
  | .str _ => stk
  | _ => pur ⟨enuD 0 s.ds, s.ok⟩
theorem turn_enuL {w : Wd} {H : Hp} {S : Sto} {a : Addr} {vs : List V} {ds : List D} (k : WOk T w H S) (hs : SqL T.K H a vs) (r : Reps T w vs ds) : TurnOk T w H S (Ite T.K a) (enuD 0 ds) := by
  refine ⟨fun i hi => ⟨vs, hs, by rw [r.length, ← enu_len ds 0]; exact hi⟩, fun i d e => ?_⟩
  rw [enu_at] at e
  obtain ⟨c, hc, rfl⟩ := Option.map_eq_some_iff.mp e
  obtain ⟨v, e1, rv⟩ := r.get hc
  refine ⟨⟨vs, v, hs, e1⟩, fun x H' hy => ?_⟩
  obtain ⟨A, y, rfl, hA, rfl, hx⟩ := hy
  have hv := hx vs hs
  rw [e1] at hv; cases hv
  obtain ⟨s1, k1⟩ := laidF k (o := .tup [.int (i : Nat), v]) hA
  exact ⟨_, s1, k1, rep_tup (k.nF hA) (.cons (by rw [Nat.zero_add]; exact .int _) (.one rv))⟩
theorem turn_enuT {w : Wd} {H : Hp} {S : Sto} {a : Addr} {vs : List V} {ds : List D} (k : WOk T w H S) (hs : SqT T.K H a vs) (r : Reps T w vs ds) : TurnOk T w H S (IteT T.K a) (enuD 0 ds) := by
  refine ⟨fun i hi => ⟨vs, hs, by rw [r.length, ← enu_len ds 0]; exact hi⟩, fun i d e => ?_⟩
  rw [enu_at] at e
  obtain ⟨c, hc, rfl⟩ := Option.map_eq_some_iff.mp e
  obtain ⟨v, e1, rv⟩ := r.get hc
  refine ⟨⟨vs, v, hs, e1⟩, fun x H' hy => ?_⟩
  obtain ⟨A, y, rfl, hA, rfl, hx⟩ := hy
  have hv := hx vs hs
  rw [e1] at hv; cases hv
  obtain ⟨s1, k1⟩ := laidF k (o := .tup [.int (i : Nat), v]) hA
  exact ⟨_, s1, k1, rep_tup (k.nF hA) (.cons (by rw [Nat.zero_add]; exact .int _) (.one rv))⟩
theorem i_enu {f : EX} {elts : List Expr} {kk : Nat} {tpos : Pos} (he : PE X e (tE T W f)) (hm : X.mg "enumerate" = none) (hg : Gl X "enumerate" := by rfl) (hs : starEach [e] X.env = [(false, eval e X.env)] := by rfl) (hs1 : starEach (e :: []) X.env = (false, eval e X.env) :: starEach [] X.env := by rfl) (hK : X.K = T.K := by rfl) :
    PI X (.Tuple elts kk tpos) (.Call (.Name "enumerate" p) [e] [] pos) (tI T W (iEnu f)) :=
  imI (pi_enumA hg hm (pa_cons he pa_nil hs1) hs) fun σ H Q ⟨fr, w, r, S, R, q⟩ => ⟨fr, w, r, S, R, (Post.bnd q).on (fun w1 H1 S1 d t k p1 v rv => by
    obtain ⟨sr, h1, p2⟩ := dIter_post k (Post.bnd p1)
    rw [hK]
    cases rv with
    | tup a b =>
      cases h1
      exact ⟨_, _, rfl, .inr ⟨sqT_mono k.fz a, Post.ok p2 k _ fun w' H' S' st kk _ => turn_enuT kk (sqT_mono (fun b o e => kk.fz b o (st.F b o e)) a) (b.up st)⟩⟩
    | lst a b =>
      cases h1
      exact ⟨_, _, rfl, .inl ⟨SqL.of (k.fz _ _ a), Post.ok p2 k _ fun w' H' S' st kk _ => turn_enuL kk (SqL.of (kk.fz _ _ (st.F _ _ a))) (b.up st)⟩⟩
    | ro a b =>
      cases h1
      exact ⟨_, _, rfl, .inl ⟨sqL_mono k.fz a, Post.ok p2 k _ fun w' H' S' st kk _ => turn_enuL kk (sqL_mono (fun b o z => kk.fz b o (st.F b o z)) a) (b.up st)⟩⟩
    | @ref a n e =>
      unfold dIter at h1
      dsimp only at h1
      cases q2 : S1[n]? with
      | none => rw [q2] at h1; cases h1
      | some c =>
        rw [q2] at h1
        cases c with
        | obj _ _ => cases h1
        | lst xs =>
          cases h1
          obtain ⟨vs, h3, h2⟩ := k.cell n _ a q2 e
          exact ⟨a, vs, rfl, .inl ⟨SqL.of h3, Post.ok p2 k _ fun w' H' S' st kk ho => by
            obtain ⟨us, h5, h4⟩ := kk.cell n _ a ho (st.at_ e)
            exact turn_enuL kk (SqL.of h5) h4⟩⟩
    | str _ => cases h1; exact p2.elim
    | _ => cases h1) fun _ _ _ _ z => z⟩
end
end Dm
set_option maxRecDepth 100000
set_option maxHeartbeats 1000000
/-! Methods of texts and lists. -/
namespace Dm
set_option autoImplicit false
open PySem L2

/-- s.m(e), s a text -/
def eS1 (g : List Nat → D → M D) (o e : EX) : EX := fun r => bnd (o r) fun x => match x with
  | .str s => bnd (e r) fun y => g s y
  | _ => stk
def lS1 (g : List Nat → D → M (List D)) (o e : EX) : LX := fun r => bnd (o r) fun x => match x with
  | .str s => bnd (e r) fun y => g s y
  | _ => stk
def mJoin (s : List Nat) (y : D) : M D := fun S => match (itmS S y).bind asStrs with
  | some ys => if (ys.map List.length).sum + ys.length * s.length ≤ LIM then .ok (.str (TL.joinL s ys)) S else .no
  | none => .no
def mStarts (s : List Nat) (y : D) : M D := match y with
  | .str t => pur (.bl (TL.pre t s))
  | _ => stk
def mSplit (s : List Nat) (y : D) : M (List D) := match y with
  | .str t => need (decide (t ≠ []) && t.all (fun c => decide (c < 256)) && decide (s.length + 2 ≤ LIM)) (pur ((TL.spl t 0 [] s).map .str))
  | _ => stk
def mIdx (s : List Nat) (y : D) : M D := match y with
  | .str [c] => need (decide (c ∈ s)) (pur (.int (s.idxOf c)))
  | _ => stk
/-- the place of the first that is equal -/
def fstEq (x : D) : List D → Option Nat
  | [] => none
  | y :: ys => if eqD y x = true then some 0 else (fstEq x ys).map (· + 1)
def mLIdx (l y : D) : M D := fun S => match lstOf S l with
  | some xs => if flD y && xs.all flD then ofO (fstEq y xs) (fun j => .int (j : Nat)) S else .no
  | none => .no
section
variable {X : Cx} {T : Tb} {W : WX} {o e : Expr} {apos pos : Pos} {fo fe : EX} {id : String} {name : Str} {r : V → List V → Hp → VK → Prop}
theorem e_s1 {g : List Nat → D → M D} (slot : Slot "str" name id) (ty : typeOf (.builtin id) = pure (.type "method_descriptor")) (rule : MtR X id r) (hs : ∀ (w : Wd) (H : Hp) (S : Sto) (s : List Nat) (v : V) (d : D) (Q : VK) (R : Wd → Hp → Sto → Exc → Prop), WOk T w H S → RT T w H v d → Post T w H (fun w' H' _ d => ∀ v, Rep T w' v d → Q v H') R (g s d S) → r (sv s) [v] H Q)
    (ho : PE X o (tE T W fo)) (he : PE X e (tB T W fe)) (hst : starEach [e] X.env = [(false, eval e X.env)] := by rfl) (hbase : attributeBase o name X.env (eval o X.env) = eval o X.env := by rfl) (hline : (apos.endLine == pos.line) = true := by rfl) :
    PE X (.Call (.Attribute o name apos) [e] [] pos) (tE T W (eS1 g fo fe)) := imE (pe_m1 slot ty rule ho he hst hbase hline) fun σ H Q ⟨fr, w, rr, S, R, p⟩ => ⟨fr, w, rr, S, R, (Post.bnd p).on (fun w1 H1 S1 d t k p1 v rv => by
  cases rv with
  | str s => exact ⟨⟨_, rfl⟩, fr, w1, rr, S1, R.step t k, (Post.bnd p1).on (fun w2 H2 S2 d2 t2 k2 p2 v2 rv2 => hs w2 H2 S2 s v2 d2 Q (eW T W σ) k2 rv2 p2) fun _ _ _ _ z => z⟩
  | _ => exact p1.elim) fun _ _ _ _ z => z⟩
theorem l_s1 {g : List Nat → D → M (List D)} (slot : Slot "str" name id) (ty : typeOf (.builtin id) = pure (.type "method_descriptor")) (rule : MtR X id r) (hs : ∀ (w : Wd) (H : Hp) (S : Sto) (s : List Nat) (v : V) (d : D) (Q : VK) (R : Wd → Hp → Sto → Exc → Prop), WOk T w H S → RT T w H v d → Post T w H (fun w' H' _ xs => ∀ a, Made T H w' H' a xs → Q (.ref a) H') R (g s d S) → r (sv s) [v] H Q)
    (ho : PE X o (tE T W fo)) (he : PE X e (tB T W fe)) (hst : starEach [e] X.env = [(false, eval e X.env)] := by rfl) (hbase : attributeBase o name X.env (eval o X.env) = eval o X.env := by rfl) (hline : (apos.endLine == pos.line) = true := by rfl) :
    PE X (.Call (.Attribute o name apos) [e] [] pos) (tL T W (lS1 g fo fe)) := imE (pe_m1 slot ty rule ho he hst hbase hline) fun σ H Q ⟨fr, w, rr, S, R, p⟩ => ⟨fr, w, rr, S, R, (Post.bnd p).on (fun w1 H1 S1 d t k p1 v rv => by
  cases rv with
  | str s => exact ⟨⟨_, rfl⟩, fr, w1, rr, S1, R.step t k, (Post.bnd p1).on (fun w2 H2 S2 d2 t2 k2 p2 v2 rv2 => hs w2 H2 S2 s v2 d2 Q (eW T W σ) k2 rv2 (p2.on (fun w3 H3 S3 xs t3 k3 q a m => q a ⟨m.vs, m.nf, m.nl, t.live _ (t2.live _ m.new)⟩) fun _ _ _ _ z => z)) fun _ _ _ _ z => z⟩
  | _ => exact p1.elim) fun _ _ _ _ z => z⟩
theorem e_join (ho : PE X o (tE T W fo)) (he : PE X e (tB T W fe)) (hK : X.K = T.K := by rfl) (hst : starEach [e] X.env = [(false, eval e X.env)] := by rfl) (hbase : attributeBase o "join" X.env (eval o X.env) = eval o X.env := by rfl) (hline : (apos.endLine == pos.line) = true := by rfl) :
    PE X (.Call (.Attribute o "join" apos) [e] [] pos) (tE T W (eS1 mJoin fo fe)) := e_s1 PySem.F.slot_str_join PySem.F.type_str_join mt_join (fun w H S s v d Q R k rv p => by
  unfold mJoin at p
  split at p
  · rename_i ys e1
    split at p
    · rename_i hl
      obtain ⟨xs, e2, e3⟩ := Option.bind_eq_some_iff.mp e1
      obtain ⟨a, us, rfl, hs, rr⟩ := itm_view k rv e2
      rw [strs_vals rr e3] at hs
      rw [hK]
      refine ⟨⟨s.toArray⟩, a, ys.map SX.S, rfl, rfl, hs, ?_, ?_⟩
      · rw [SX.lens, List.length_map, len_sv]; exact hl
      · have ej : Txt.join (⟨s.toArray⟩ : Str) (ys.map SX.S) = ⟨(TL.joinL s ys).toArray⟩ := SX.join_S s ys
        rw [ej]
        exact Post.ok p k _ (.str _)
    · exact p.elim
  · exact p.elim) ho he hst hbase hline
theorem starts_S (s t : List Nat) : Txt.startswith (⟨s.toArray⟩ : Str) ⟨t.toArray⟩ = TL.pre t s := by
  unfold Txt.startswith TL.pre
  rw [StrLaws.subAt_eq, len_sv, len_sv, List.drop_zero]
  show (decide (0 + t.length ≤ s.length) && (s.take t.length == t)) = (s.take t.length == t)
  cases h : (s.take t.length == t) with
  | false => rw [Bool.and_false]
  | true =>
    have e := beq_iff_eq.mp h
    have := congrArg List.length e
    rw [List.length_take] at this
    rw [Bool.and_true]
    exact decide_eq_true (by omega)
theorem e_starts (ho : PE X o (tE T W fo)) (he : PE X e (tB T W fe)) (hst : starEach [e] X.env = [(false, eval e X.env)] := by rfl) (hbase : attributeBase o "startswith" X.env (eval o X.env) = eval o X.env := by rfl) (hline : (apos.endLine == pos.line) = true := by rfl) :
    PE X (.Call (.Attribute o "startswith" apos) [e] [] pos) (tE T W (eS1 mStarts fo fe)) := e_s1 PySem.F.slot_str_startswith PySem.F.type_str_startswith mt_startswith (fun w H S s v d Q R k rv p => by
  unfold mStarts at p
  split at p
  · cases rv.str
    exact ⟨_, _, rfl, rfl, by rw [starts_S]; exact Post.ok p k _ (.bl _)⟩
  · exact p.elim) ho he hst hbase hline
theorem reps_strs {w : Wd} : ∀ (ys : List (List Nat)), Reps T w ((ys.map SX.S).map V.str) (ys.map .str)
  | [] => .nil
  | y :: ys => .cons (.str y) (reps_strs ys)
theorem l_split (ho : PE X o (tE T W fo)) (he : PE X e (tB T W fe)) (hst : starEach [e] X.env = [(false, eval e X.env)] := by rfl) (hbase : attributeBase o "split" X.env (eval o X.env) = eval o X.env := by rfl) (hline : (apos.endLine == pos.line) = true := by rfl) :
    PE X (.Call (.Attribute o "split" apos) [e] [] pos) (tL T W (lS1 mSplit fo fe)) := l_s1 PySem.F.slot_str_split PySem.F.type_str_split mt_split (fun w H S s v d Q R k rv p => by
  unfold mSplit at p
  split at p
  · rename_i t
    cases rv.str
    obtain ⟨h, p'⟩ := Post.need p
    rw [Bool.and_eq_true, Bool.and_eq_true] at h
    obtain ⟨⟨h1, h2⟩, h3⟩ := h
    have h1' := of_decide_eq_true h1
    have h3' := of_decide_eq_true h3
    refine ⟨_, _, rfl, rfl, ?_, by rw [len_sv, limE]; exact h3', ?_⟩
    · rw [len_sv]
      exact beq_eq_false_iff_ne.mpr fun z => h1' (List.length_eq_zero_iff.mp z)
    · have es : Txt.split (⟨s.toArray⟩ : Str) ⟨t.toArray⟩ = (TL.spl t 0 [] s).map SX.S := SX.split_S h1' h2
      rw [es]
      intro a ha
      obtain ⟨q, m⟩ := new_made k (reps_strs _) p' a ha
      exact q a m
  · exact p.elim) ho he hst hbase hline
theorem idx_at {c : Nat} : ∀ {s : List Nat}, c ∈ s → s[s.idxOf c]? = some c ∧ ∀ j, j < s.idxOf c → s[j]? ≠ some c
  | [], h => by cases h
  | a :: s, h => by
    by_cases q : a = c
    · subst q; simp
    · have hm : c ∈ s := by
        rcases List.mem_cons.mp h with z | z
        · exact absurd z.symm q
        · exact z
      have e : (a :: s).idxOf c = s.idxOf c + 1 := by rw [List.idxOf_cons, beq_eq_false_iff_ne.mpr q]; rfl
      obtain ⟨h1, h2⟩ := idx_at hm
      rw [e]
      refine ⟨by simpa using h1, fun j hj => ?_⟩
      cases j with
      | zero => simpa using q
      | succ j => simpa using h2 j (by omega)
theorem e_sidx (ho : PE X o (tE T W fo)) (he : PE X e (tB T W fe)) (hst : starEach [e] X.env = [(false, eval e X.env)] := by rfl) (hbase : attributeBase o "index" X.env (eval o X.env) = eval o X.env := by rfl) (hline : (apos.endLine == pos.line) = true := by rfl) :
    PE X (.Call (.Attribute o "index" apos) [e] [] pos) (tE T W (eS1 mIdx fo fe)) := e_s1 PySem.F.slot_str_index PySem.F.type_str_index mt_sindex (fun w H S s v d Q R k rv p => by
  unfold mIdx at p
  split at p
  · rename_i c
    cases rv.str
    obtain ⟨h, p'⟩ := Post.need p
    obtain ⟨h1, h2⟩ := idx_at (of_decide_eq_true h)
    have one := StrLaws.subAt_one (⟨s.toArray⟩ : Str) c
    rcases StrLaws.occ_head (⟨s.toArray⟩ : Str) ⟨#[c]⟩ 1 (Nat.le_refl 1) with ⟨_, hn⟩ | ⟨i, rest, e1, e2, e3⟩
    · exact absurd ((one (s.idxOf c)).mpr (by simpa using h1)) (hn _)
    · have hi : i = s.idxOf c := by
        have a1 := (one i).mp e2
        rcases Nat.lt_trichotomy i (s.idxOf c) with z | z | z
        · exact absurd (by simpa using a1) (h2 i z)
        · exact z
        · exact absurd ((one (s.idxOf c)).mpr (by simpa using h1)) (e3 _ z)
      subst hi
      exact ⟨_, _, _, rest, rfl, rfl, e1, Post.ok p' k _ (.int _)⟩
  · exact p.elim) ho he hst hbase hline
theorem fst_at {w : Wd} {x : D} {v : V} (r0 : Rep T w v x) (h0 : flD x = true) : ∀ {ds : List D} {vs : List V} {j : Nat}, Reps T w vs ds → ds.all flD = true → fstEq x ds = some j → ∃ z, vs[j]? = some z ∧ eqV z v = true ∧ ∀ m z', m < j → vs[m]? = some z' → eqV z' v = false
  | [], _, _, _, _, h => by cases h
  | d :: ds, _, j, r, hf, h => by
    cases r with
    | cons a b =>
      rw [List.all_cons, Bool.and_eq_true] at hf
      unfold fstEq at h
      have e0 := fl_eqV a r0 hf.1 h0
      split at h
      · rename_i he
        cases h
        exact ⟨_, rfl, by rw [e0]; exact he, fun m z' hm _ => absurd hm (Nat.not_lt_zero m)⟩
      · rename_i he
        obtain ⟨i, hi, rfl⟩ := Option.map_eq_some_iff.mp h
        obtain ⟨z, h1, h2, h3⟩ := fst_at r0 h0 b hf.2 hi
        refine ⟨z, by simpa using h1, h2, fun m z' hm hz => ?_⟩
        cases m with
        | zero =>
          simp at hz
          subst hz
          rw [e0]; simpa using he
        | succ m => exact h3 m z' (by omega) (by simpa using hz)
/-- l.m(e), l a list -/
def isLst (x : D) : M Unit := fun S => match lstOf S x with
  | some _ => .ok () S
  | none => .no
def eL1 (g : D → D → M D) (o e : EX) : EX := fun r => bnd (o r) fun x => bnd (isLst x) fun _ => bnd (e r) fun y => g x y
theorem isLst_post {w : Wd} {H : Hp} {S : Sto} {x : D} {P : Wd → Hp → Sto → Unit → Prop} {R : Wd → Hp → Sto → Exc → Prop} (k : WOk T w H S) (p : Post T w H P R (isLst x S)) : (∃ xs, lstOf S x = some xs) ∧ P w H S () := by
  unfold isLst at p
  cases e : lstOf S x with
  | none => rw [e] at p; exact p.elim
  | some xs => rw [e] at p; exact ⟨⟨xs, rfl⟩, Post.ok p k⟩
theorem tyv_lst {w : Wd} {H : Hp} {S : Sto} {v : V} {x : D} {xs : List D} (k : WOk T w H S) (r : RT T w H v x) (h : lstOf S x = some xs) : tyV T.K "list" v H := by
  obtain ⟨a, vs, rfl, hs, _⟩ := lst_view k r h
  exact .inl ⟨rfl, vs, hs⟩
theorem e_lidx (ho : PE X o (tB T W fo)) (he : PE X e (tE T W fe)) (hK : X.K = T.K := by rfl) (hst : starEach (e :: []) X.env = (false, eval e X.env) :: starEach [] X.env := by rfl) (hbase : attributeBase o "index" X.env (eval o X.env) = eval o X.env := by rfl)
    (hfew : ((backTo pos (starEach (e :: []) X.env)).all (fun x => !x.1) && (backToKw pos (keywordEach [] X.env)).all (fun x => x.1.isSome) && decide ((e :: []).length + ([] : List Keyword).length + (if ([] : List Keyword).isEmpty then 0 else 1) < 30)) = true := by rfl)
    (hline : (apos.endLine == pos.line) = true := by rfl) (hplain : (backTo pos (starEach [] X.env)).any (·.1) = false := by rfl) : PE X (.Call (.Attribute o "index" apos) (e :: []) [] pos) (tE T W (eL1 mLIdx fo fe)) := by
  refine imE (pe_bm PySem.F.plainAttrs_list PySem.F.slot_list_index PySem.F.type_list_index mt_index ho (pa_cons he pa_nil hst) hbase hfew hline hst hplain) fun σ H Q ⟨fr, w, r, S, R, p⟩ => ⟨fr, w, r, S, R, (Post.bnd p).on (fun w1 H1 S1 x t k p1 v rv => ?_) fun _ _ _ _ z => z⟩
  obtain ⟨⟨xs0, h0⟩, p2⟩ := isLst_post k (Post.bnd p1)
  rw [hK]
  refine ⟨tyv_lst k rv h0, fr, w1, r, S1, R.step t k, (Post.bnd p2).on (fun w2 H2 S2 y t2 k2 p3 u ru => ?_) fun _ _ _ _ z => z⟩
  unfold mLIdx at p3
  split at p3
  · rename_i xs hx
    split at p3
    · rename_i hf
      rw [Bool.and_eq_true] at hf
      obtain ⟨j, hj, q⟩ := ofO_post k2 p3
      obtain ⟨a, vs, rfl, hs, rr⟩ := lst_view k2 (rv.step t2) hx
      obtain ⟨z, h1, h2, h3⟩ := fst_at ru hf.1 rr hf.2 hj
      exact ⟨a, vs, u, j, z, rfl, rfl, hs, fl_flatV ru hf.1, fls_all rr hf.2, h1, h2, h3, q _ (.int _)⟩
    · exact p3.elim
  · exact p3.elim
end
/-- o.append(e), o a list in a cell -/
def sAppR (o e : EX) : SX := fun r S => onS (bnd (o r) (fun x => bnd (isLst x) fun _ => bnd (e r) fun y => pur (x, y)) S) r fun p S' => match p.1 with
  | .ref n => match S'[n]? with
    | some (.lst xs) => if xs.length < LIM then .nx r (S'.set n (.lst (xs ++ [p.2]))) else .no
    | _ => .no
  | _ => .no
theorem s_appR {X : Cx} {T : Tb} {W : WX} {o e : Expr} {p2 p3 pos : Pos} {fo fe : EX} (ho : PE X o (tE T W fo)) (he : PE X e (tE T W fe)) (hK : X.K = T.K := by rfl) (hst : starEach [e] X.env = (false, eval e X.env) :: starEach [] X.env := by rfl) (hbase : attributeBase o "append" X.env (eval o X.env) = eval o X.env := by rfl)
    (hfew : ((backTo p3 (starEach [e] X.env)).all (fun x => !x.1) && (backToKw p3 (keywordEach [] X.env)).all (fun x => x.1.isSome) && decide (([e]).length + ([] : List Keyword).length + (if ([] : List Keyword).isEmpty then 0 else 1) < 30)) = true := by rfl)
    (hline : (p2.endLine == p3.line) = true := by rfl) (hplain : (backTo p3 (starEach [] X.env)).any (·.1) = false := by rfl) (hs : swapsWith (.Call (.Attribute o "append" p2) [e] [] p3) none pos.line X.env = pure false := by rfl) :
    PS X (.Expr (.Call (.Attribute o "append" p2) [e] [] p3) pos) (tS T W (sAppR fo fe)) := by
  refine imS (ps_expr (pe_bm PySem.F.plainAttrs_list PySem.F.slot_list_append PySem.F.type_list_append mt_append ho (pa_cons he pa_nil hst) hbase hfew hline hst hplain) hs) fun D σ H ⟨fr, w, r, S, R, p⟩ => ?_
  unfold sAppR at p
  rw [onS_bnd] at p
  refine ⟨fr, w, r, S, R, onS_post R p fun w1 H1 S1 x t1 k1 p1 v rv => ?_⟩
  have R1 := R.step t1 k1
  rw [onS_bnd] at p1
  cases e0 : lstOf S1 x with
  | none =>
    exfalso
    unfold isLst at p1
    rw [e0] at p1
    exact p1
  | some xs0 =>
    unfold isLst at p1
    rw [e0] at p1
    dsimp only [onS] at p1
    rw [hK]
    refine ⟨tyv_lst k1 (.inl rv) e0, fr, w1, r, S1, R1, ?_⟩
    have p1' : PostS T W fr w1 D (onS (bnd (fe r) (fun y => pur (x, y)) S1) r fun p S' => match p.1 with
      | .ref n => match S'[n]? with
        | some (.lst xs) => if xs.length < LIM then .nx r (S'.set n (.lst (xs ++ [p.2]))) else .no
        | _ => .no
      | _ => .no) := p1
    rw [onS_bnd] at p1'
    refine onS_post R1 p1' fun w2 H2 S2 y t2 k2 p2 u ru => ?_
    dsimp only [onS, Dm.pur] at p2
    cases rv with
    | @ref a n e =>
      dsimp only at p2
      cases q : S2[n]? with
      | none => rw [q] at p2; exact p2.elim
      | some c =>
        rw [q] at p2
        cases c with
        | obj _ _ => exact p2.elim
        | lst xs =>
          dsimp only at p2
          split at p2
          · rename_i hl
            have e2 := t2.le.at_ e
            obtain ⟨vs, h1, h2⟩ := k2.cell n _ a q e2
            have ma : a ∈ w2.L := List.mem_of_getElem? e2
            exact ⟨a, vs, u, rfl, rfl, h1, by rw [h2.length, limE]; exact hl, p2 w2 σ _ (Wd.Le.refl w2) ((R1.step t2 k2).step (Stp.wr ma) (k2.wr e2 ⟨_, upd_same, h2.append (.one ru)⟩))⟩
          · exact p2.elim
    | _ => exact p2.elim
end Dm
set_option maxRecDepth 100000
set_option maxHeartbeats 1000000
/-! Comparisons as tests, chains, two names at once. -/
namespace Dm
set_option autoImplicit false
open PySem L2

def asBl (d : D) : M Bool := match d with
  | .bl k => pur k
  | _ => stk
def cBl (e : EX) : CX := fun r => bnd (e r) asBl
def eChain (g h : D → D → M D) (a b c : EX) : EX := fun r => bnd (a r) fun x => bnd (b r) fun y => bnd (g x y) fun d => bnd (asBl d) fun k => if k = true then bnd (c r) fun z => h y z else pur (.bl false)
section
variable {X : Cx} {T : Tb} {W : WX} {a b c : Expr} {pos : Pos} {fa fb fc : EX} {op op' : CmpOp} {r r' : R2} {g h : D → D → M D}
theorem asBl_rep {w : Wd} {H : Hp} {S : Sto} {v : V} {d : D} {P : Wd → Hp → Sto → Bool → Prop} {R : Wd → Hp → Sto → Exc → Prop} (k : WOk T w H S) (rv : Rep T w v d) (p : Post T w H P R (asBl d S)) : ∃ b, v = .bl b ∧ P w H S b := by
  cases rv with
  | bl b => exact ⟨b, rfl, Post.ok p k⟩
  | _ => exact p.elim
theorem c_cmpB (hs : OpS T r g) (ho : OpR X (compareOp op) r) (hm : behindInMarks op b = false) (ha : PE X a (tB T W fa)) (hb : PE X b (tB T W fb)) : PT X (.Compare a [op] [b] pos) (tQ T W (cBl (eBin g fa fb))) :=
  imT (pt_cmpR ho ha hb hm) fun σ H Q ⟨fr, w, rr, S, R, p⟩ => op_bin hs σ H _ ⟨fr, w, rr, S, R, (Post.bnd p).on (fun w1 H1 S1 d t k p1 v rv => by
    obtain ⟨b, e, q⟩ := asBl_rep k rv p1
    exact ⟨b, e, q⟩) fun _ _ _ _ z => z⟩
theorem chain_sem (hs : OpS T r g) (hs' : OpS T r' h) (σ : L2.St) (H : Hp) (Q : VK) (p : tE T W (eChain g h fa fb fc) σ H Q) : tChain r r' (tB T W fa) (tB T W fb) (tB T W fc) σ H Q := by
  obtain ⟨fr, w, rr, S, R, p⟩ := p
  refine ⟨fr, w, rr, S, R, (Post.bnd p).on (fun w1 H1 S1 d1 t1 k1 p1 v1 r1 => ?_) fun _ _ _ _ q => q⟩
  refine ⟨fr, w1, rr, S1, R.step t1 k1, (Post.bnd p1).on (fun w2 H2 S2 d2 t2 k2 p2 v2 r2 => ?_) fun _ _ _ _ q => q⟩
  have R2 := (R.step t1 k1).step t2 k2
  refine hs w2 H2 S2 v1 v2 d1 d2 _ (eW T W σ) k2 (r1.step t2) r2 ((Post.bnd p2).on (fun w3 H3 S3 d t3 k3 p3 v rv => ?_) fun _ _ _ _ q => q)
  obtain ⟨b, e, q⟩ := asBl_rep k3 rv (Post.bnd p3)
  refine ⟨b, e, ?_⟩
  cases b with
  | true => exact ⟨fr, w3, rr, S3, R2.step t3 k3, (Post.bnd q).on (fun w4 H4 S4 z t4 k4 p4 u ru => hs' w4 H4 S4 v2 u d2 z Q (eW T W σ) k4 ((r2.step t3).step t4) ru p4) fun _ _ _ _ q => q⟩
  | false => exact Post.ok q k3 _ (.bl false)
theorem e_chain (hs : OpS T r g) (ho : OpR X (compareOp op) r) (hs' : OpS T r' h) (ho' : OpR X (compareOp op') r') (ha : PE X a (tB T W fa)) (hb : PE X b (tB T W fb)) (hc : PE X c (tB T W fc)) (hm : lastMarks [op, op'] [b, c] = false := by with_unfolding_all rfl) :
    PE X (.Compare a [op, op'] [b, c] pos) (tE T W (eChain g h fa fb fc)) := imE (pe_chain ho ho' ha hb hc hm) (chain_sem hs hs')
theorem c_chain (hs : OpS T r g) (ho : OpR X (compareOp op) r) (hs' : OpS T r' h) (ho' : OpR X (compareOp op') r') (ha : PE X a (tB T W fa)) (hb : PE X b (tB T W fb)) (hc : PE X c (tB T W fc)) (hm : lastMarks [op, op'] [b, c] = false := by with_unfolding_all rfl) :
    PT X (.Compare a [op, op'] [b, c] pos) (tQ T W (cBl (eChain g h fa fb fc))) := imT (pt_chain ho ho' ha hb hc hm) fun σ H Q ⟨fr, w, rr, S, R, p⟩ => chain_sem hs hs' σ H _ ⟨fr, w, rr, S, R, (Post.bnd p).on (fun w1 H1 S1 d t k p1 v rv => by
    obtain ⟨b, e, q⟩ := asBl_rep k rv p1
    exact ⟨b, e, q⟩) fun _ _ _ _ z => z⟩
end
/-- a, b = (a new list, e) -/
def sOwn2 (i j : Nat) (l : LX) (e : EX) : SX := fun r S => onS (l r S) r fun xs S' => onS (e r S') r fun d S2 => if i ≠ j then .nx ((r.set i (.ow xs)).set j (.sh d)) S2 else .no
section
variable {X : Cx} {T : Tb} {W : WX} {pos p1 p2 p3 p4 : Pos} {e1 e2 : Expr} {l : LX} {f : EX} {i j k1 k2 : Nat} {x y : Str}
theorem s_own2 (hN : X.N.Nodup) (hc : X.calm = true) (hl : PE X e1 (tL T W l)) (he : PE X e2 (tE T W f)) (hK : X.K = T.K := by rfl) (hi : X.N[i]? = some x := by rfl) (hj : X.N[j]? = some y := by rfl) (hx : Loc X.env.scope x := by first | exact Or.inl rfl | exact Or.inr rfl) (hy : Loc X.env.scope y := by first | exact Or.inl rfl | exact Or.inr rfl)
    (hfx : X.fn x = true ∨ X.env.scope.names.lookup x = some .local := by first | exact .inl rfl | exact .inr rfl) (hfy : X.fn y = true ∨ X.env.scope.names.lookup y = some .local := by first | exact .inl rfl | exact .inr rfl)
    (ht1 : starEach (e1 :: [e2]) X.env = (false, eval e1 X.env) :: starEach [e2] X.env := by rfl) (ht2 : starEach (e2 :: []) X.env = (false, eval e2 X.env) :: starEach [] X.env := by rfl)
    (ha1 : (assignEach (.Name x p1 :: [.Name y p2]) X.env).map (·.2) = assign (.Name x p1) X.env :: (assignEach [.Name y p2] X.env).map (·.2) := by rfl) (ha2 : (assignEach (.Name y p2 :: []) X.env).map (·.2) = assign (.Name y p2) X.env :: (assignEach [] X.env).map (·.2) := by rfl)
    (hn : (assignEach [.Name x p1, .Name y p2] X.env).length = 2 := by rfl) (hst : (assignEach [.Name x p1, .Name y p2] X.env).findIdx? (·.1) = none := by rfl)
    (hs : swapsWithSole [.Tuple [.Name x p1, .Name y p2] k1 p3] (.Tuple [e1, e2] k2 p4) pos.line X.env = pure false := by rfl) (hw : swappedStores [.Tuple [.Name x p1, .Name y p2] k1 p3] (.Tuple [e1, e2] k2 p4) X.env = pure none := by rfl)
    (h1 : (assignEach [.Tuple [.Name x p1, .Name y p2] k1 p3] X.env).map (·.2) = [assign (.Tuple [.Name x p1, .Name y p2] k1 p3) X.env] := by rfl) :
    PS X (.Assign [.Tuple [.Name x p1, .Name y p2] k1 p3] (.Tuple [e1, e2] k2 p4) pos) (tS T W (sOwn2 i j l f)) := by
  refine imS (ps_asg (pe_tup (pa_cons hl (pa_cons he pa_nil ht2) ht1)) (pg_tup (n := 2) hc (pgs_cons (pg_name hN hi hx hfx) (pgs_cons (pg_name hN hj hy hfy) pgs_nil ha2) ha1) hn hst) hs hw h1) fun D σ H ⟨fr, w, r, S, R, p⟩ => ?_
  unfold sOwn2 at p
  refine ⟨fr, w, r, S, R, onS_post R p fun w1 H1 S1 xs t1 k1 p1 a m => ⟨fr, w1, r, S1, R.step t1 k1, onS_post (R.step t1 k1) p1 fun w2 H2 S2 d t2 k2 p2 v rv => ?_⟩⟩
  split at p2
  · rename_i hij
    refine ⟨by show 2 ≤ sizeLine; decide, fun q hq => ?_⟩
    have R2 := (R.step t1 k1).step t2 k2
    have o1 : OwnAt T fr.H w1 H1 a xs := ⟨m.vs, m.nf, m.nl, R.stp.live _ m.new⟩
    have o2 := o1.step t2
    obtain ⟨s3, k3⟩ := laidF k2 (o := .tup [.ref a, v]) hq
    have o3 := o2.step s3
    have R3 := R2.step s3 k3
    rw [hK]
    refine ⟨q, [.ref a, v], rfl, SqT.of upd_same, rfl, .ref a, [v], rfl, ?_⟩
    refine ⟨v, [], rfl, rfl, ?_⟩
    refine p2 _ _ _ s3.le ((R3.setOw o3 fun j' ys hj' e3 e4 => ?_).setSh (rv.up s3.le))
    obtain ⟨c', e5, oc⟩ := R.ow j' ys e3
    rw [e4] at e5; cases e5
    obtain ⟨vs, e6, _⟩ := oc.vs
    rw [m.new] at e6; cases e6
  · exact p2.elim
end
end Dm
set_option maxRecDepth 100000
set_option maxHeartbeats 1000000
/-! Rules that the printer of derivations leans on. -/
namespace Dm
set_option autoImplicit false
open PySem L2
section
variable {T : Tb}
theorem tgs_nm {i : Nat} : TgS T (gName i) (tNm i) [i] := fun fr w r S σ H v d r' Q R rv e q => by
  cases e
  exact q _ (R.setSh rv) ⟨List.length_set, fun j hj => List.getElem?_set_ne (fun z => hj (by simp [z])), fun j xs h => by
    by_cases q : i = j
    · subst q
      by_cases z : i < r.length
      · rw [List.getElem?_set_self z] at h; cases h
      · rw [List.getElem?_eq_none (by rw [List.length_set]; omega)] at h; cases h
    · rw [List.getElem?_set_ne q] at h
      exact ⟨h, List.getElem?_set_ne q⟩⟩
theorem tgss_nil : TgsS T gNil (tTs []) [] := fun fr w r S σ H vs ds r' Q R rv e q => by
  cases rv with
  | nil => cases e; exact ⟨rfl, q σ R ⟨rfl, fun _ _ => rfl, fun _ _ h => ⟨h, rfl⟩⟩⟩
  | cons _ _ => cases e
theorem tgss_cons {g : TG} {gs : TGs} {t : TX} {ts : List TX} {is js : List Nat} (h2 : TgS T g t is) (h4 : TgsS T gs (tTs ts) js) : TgsS T (gCons g gs) (tTs (t :: ts)) (is ++ js) := fun fr w r S σ H vs ds r' Q R rv e q => by
  cases rv with
  | nil => cases e
  | cons ra rb =>
    rename_i v d vs ds
    dsimp only [tTs] at e
    cases q1 : t d r with
    | none => rw [q1] at e; cases e
    | some r1 =>
      rw [q1] at e
      exact ⟨v, vs, rfl, h2 fr w r S σ H v d r1 _ R ra q1 fun σ1 R1 n1 => h4 fr w r1 S σ1 H vs ds r' Q R1 rb e fun σ2 R2 n2 => q σ2 R2 ⟨n2.len.trans n1.len, fun j hj => (n2.at_ j fun z => hj (List.mem_append_right _ z)).trans (n1.at_ j fun z => hj (List.mem_append_left _ z)), fun j xs h => by
        obtain ⟨h1, h2⟩ := n2.ow j xs h
        obtain ⟨h3, h4⟩ := n1.ow j xs h1
        exact ⟨h3, h2.trans h4⟩⟩⟩
theorem tgs_tp {gs : TGs} {ts : List TX} {is : List Nat} (h2 : TgsS T gs (tTs ts) is) : TgS T (gTup T.K ts.length gs) (tTp ts) is := fun fr w r S σ H v d r' Q R rv e q => by
  cases d with
  | tup ds =>
    dsimp only [tTp] at e
    cases rv with
    | @tup c vs _ sq rs => exact ⟨c, vs, rfl, sqT_mono R.ok.fz sq, by rw [rs.length]; exact tTs_len ts ds r r' e, h2 fr w r S σ H vs ds r' Q R rs e q⟩
  | _ => cases e
end
section
variable {X : Cx} {T : Tb} {W : WX} {x : Str} {pos : Pos}
theorem e_gstr {l : List Nat} (h : ∃ s t, X.mg x = some (.str s t) ∧ s.cps.toList = l) (hg : Gl X x := by rfl) (hd : (x == ("__debug__" : Str)) = false := by decide) : PE X (.Name x pos) (tE T W (eC (.str l))) := by
  obtain ⟨s, t, ht, hl⟩ := h
  exact e_glob (u := .str s t) (v := .str s) hg ht ⟨t, rfl⟩ (fun _ => rep_str hl) hd
theorem e_gint {i : Int} (h : ∃ t, X.mg x = some (.int i t)) (hg : Gl X x := by rfl) (hd : (x == ("__debug__" : Str)) = false := by decide) : PE X (.Name x pos) (tE T W (eC (.int i))) := by
  obtain ⟨t, ht⟩ := h
  exact e_glob (u := .int i t) (v := .int i) hg ht ⟨t, rfl⟩ (fun _ => .int i) hd
end
section
variable {X : Cx} {T : Tb} {W : WX} {elt tg iter tg1 iter1 : Expr} {ifs ifs1 : List Expr} {scope : Scope} {own : List (Str × Nat)} {pos spos py : Pos} {src src1 : IX} {t t1 : TX} {is is1 own1 : List Nat} {c c1 : CX} {e : EX} {i : Nat} {y : Str}
theorem s_ownLc (hc : X.calm = true) (hN : X.N.Nodup) (hi : PI X tg iter (tIB T W src)) (ok : BlkOk X.N X.env.scope scope own) (hsub : ∀ i ∈ is, i ∈ own.map (·.2)) (hg : ∃ g, InBlk X scope (fun Y => PG Y tg g) ∧ TgS T g t is) (ht : InBlk X scope fun Y => PTs Y ifs (tQ T W0 c)) (he : InBlk X scope fun Y => PE Y elt (tE T W0 e))
    (hsw : swapsWith (.ListComp elt [⟨tg, iter, ifs, 0⟩] scope pos) (some (.Name y py)) spos.line X.env = pure true) (hy : X.N[i]? = some y := by rfl) (hyl : X.env.scope.names.lookup y = some .local := by rfl) (hs : ∀ x, foldedSetIterable iter X.env x = pure x := by intro _; rfl) :
    PS X (.Assign [.Name y py] (.ListComp elt [⟨tg, iter, ifs, 0⟩] scope pos) spos) (tS T W (sOwn i (lLc (own.map (·.2)) src t c e))) := by
  obtain ⟨g, h1, h2⟩ := hg
  exact imS (ps_setLc hc hN hy hyl hsw hi ok h1 ht he hs) (own_imp (lc_imp h2 hsub fun _ _ _ q => q))
theorem s_setLc (hc : X.calm = true) (hN : X.N.Nodup) (hi : PI X tg iter (tIB T W src)) (ok : BlkOk X.N X.env.scope scope own) (hsub : ∀ i ∈ is, i ∈ own.map (·.2)) (hg : ∃ g, InBlk X scope (fun Y => PG Y tg g) ∧ TgS T g t is) (ht : InBlk X scope fun Y => PTs Y ifs (tQ T W0 c)) (he : InBlk X scope fun Y => PE Y elt (tE T W0 e))
    (hsw : swapsWith (.ListComp elt [⟨tg, iter, ifs, 0⟩] scope pos) (some (.Name y py)) spos.line X.env = pure true) (hy : X.N[i]? = some y := by rfl) (hyl : X.env.scope.names.lookup y = some .local := by rfl) (hs : ∀ x, foldedSetIterable iter X.env x = pure x := by intro _; rfl) :
    PS X (.Assign [.Name y py] (.ListComp elt [⟨tg, iter, ifs, 0⟩] scope pos) spos) (tS T W (sAsg (eFz (lLc (own.map (·.2)) src t c e)) (tNm i))) := by
  obtain ⟨g, h1, h2⟩ := hg
  exact imS (ps_setLc hc hN hy hyl hsw hi ok h1 ht he hs) (set_imp (fz_imp (lc_imp h2 hsub fun _ _ _ q => q)))
theorem s_setLc2 (hc : X.calm = true) (hN : X.N.Nodup) (hi : PI X tg iter (tIB T W src)) (ok : BlkOk X.N X.env.scope scope own) (hsub : ∀ i ∈ is, i ∈ own.map (·.2)) (hown : ∀ i ∈ own1, i ∈ own.map (·.2)) (hsub1 : ∀ i ∈ is1, i ∈ own1) (hg : ∃ g, InBlk X scope (fun Y => PG Y tg g) ∧ TgS T g t is) (ht : InBlk X scope fun Y => PTs Y ifs (tQ T W0 c))
    (hi1 : InBlk X scope fun Y => PI Y tg1 iter1 (tI T W0 src1)) (hg1 : ∃ g, InBlk X scope (fun Y => PG Y tg1 g) ∧ TgS T g t1 is1) (ht1 : InBlk X scope fun Y => PTs Y ifs1 (tQ T W0 c1)) (he : InBlk X scope fun Y => PE Y elt (tE T W0 e))
    (hsw : swapsWith (.ListComp elt [⟨tg, iter, ifs, 0⟩, ⟨tg1, iter1, ifs1, 0⟩] scope pos) (some (.Name y py)) spos.line X.env = pure true) (hy : X.N[i]? = some y := by rfl) (hyl : X.env.scope.names.lookup y = some .local := by rfl) (hs : ∀ x, foldedSetIterable iter X.env x = pure x := by intro _; rfl) (hs1 : ∀ env x, foldedSetIterable iter1 env x = pure x := by intro _ _; rfl) :
    PS X (.Assign [.Name y py] (.ListComp elt [⟨tg, iter, ifs, 0⟩, ⟨tg1, iter1, ifs1, 0⟩] scope pos) spos) (tS T W (sAsg (eFz (lLc2 (own.map (·.2)) src t c own1 src1 t1 c1 e)) (tNm i))) := by
  obtain ⟨g, h1, h2⟩ := hg
  obtain ⟨g1, h3, h4⟩ := hg1
  exact imS (ps_setLc2 hc hN hy hyl hsw hi ok hown h1 ht hi1 h3 ht1 he hs hs1) (set_imp (fz_imp (lc2_imp h2 hsub (fun _ _ _ q => q) h4 hsub1 hown fun _ _ _ q => q)))
theorem tests_one {X : Cx} {c : Expr} {f : CX} (h : PT X c (tQ T W0 f)) : PTs X [c] (tQ T W0 f) := pts_one h
end
end Dm
set_option maxRecDepth 100000
set_option maxHeartbeats 1000000
/-! Words for a law's own defs and classes; own == in tests; the end. -/
namespace Dm
set_option autoImplicit false
open PySem L2 PyProof.Rows
section
variable {K : PySem.W.Frag} {mg : Str → Option Value} {h : Heap}
/-- a def of the module -/
structure DefG (K : PySem.W.Frag) (mg : Str → Option Value) (x : Str) (st : Stmt) (ps : List Str) where
  f : Addr
  fd : FuncData
  F : Fun K x x st f fd
  B : Binds K fd ps []
  g : mg x = some (.ref f)
/-- a method -/
structure DefM (K : PySem.W.Frag) (C : Addr) (x qual : Str) (st : Stmt) (ps : List Str) where
  f : Addr
  fd : FuncData
  F : Fun K x qual st f fd
  B : Binds K fd ps []
  m : Meth K C x f
/-- __init__ -/
structure DefI (K : PySem.W.Frag) (C : Addr) (qual : Str) (st : Stmt) (ps : List Str) where
  f : Addr
  fd : FuncData
  F : Fun K "__init__" qual st f fd
  B : Binds K fd ps []
  M : Mk K C f
/-- a property -/
structure DefP (K : PySem.W.Frag) (C : Addr) (x qual : Str) (st : Stmt) (ps : List Str) where
  p : Addr
  f : Addr
  fd : FuncData
  F : Fun K x qual st f fd
  B : Binds K fd ps []
  pr : PropOf K C x p f
/-- a static method -/
structure DefS (K : PySem.W.Frag) (C : Addr) (x qual : Str) (st : Stmt) (ps : List Str) where
  p : Addr
  f : Addr
  fd : FuncData
  F : Fun K x qual st f fd
  B : Binds K fd ps []
  s : SMet K C (.type "type") x p f
/-- __eq__ -/
structure DefQ (K : PySem.W.Frag) (C : Addr) (qual : Str) (st : Stmt) (ps : List Str) where
  f : Addr
  fd : FuncData
  F : Fun K "__eq__" qual st f fd
  B : Binds K fd ps []
  q : EqC K C f
abbrev BindE (x qual : Str) (st : Stmt) (ps : List Str) : Prop := ∀ (kV doc pm : Value) (an : Option Addr) (cdv ct : Value) (us : List Value), us.length = ps.length → bindArgs (PySem.W.fnOf x qual (defArgs st) (defBody st) (defScope st) .none kV doc pm an cdv ct) ⟨us, []⟩ = pure (ps.zip us)
abbrev fnObj (x qual : Str) (st : Stmt) (oc kV doc pm cdv ct : Value) (od an : Option Addr) (osl : Array (Option Value)) : Obj := ⟨oc, od, .func (PySem.W.fnOf x qual (defArgs st) (defBody st) (defScope st) .none kV doc pm an cdv ct), osl⟩
variable {x qual : Str} {st : Stmt} {ps : List Str} {C f p : Addr} {oc kV doc pm cdv ct : Value} {od an : Option Addr} {osl : Array (Option Value)}
def mkG (X : K.In h) (G : h.Ns mainGlobals mg) (hb : BindE x x st ps) (a : PySem.W.nsIn K mainGlobals x = some (some (.ref f))) (l : K.lookup f = some ⟨oc, od, .func (PySem.W.fnOf x x (defArgs st) (defBody st) (defScope st) .none kV doc pm an cdv ct), osl⟩) (c : PySem.W.codeIn K cdv x = true) (k : PySem.W.keepIn K (.ref f) = true) : DefG K mg x st ps :=
  ⟨f, _, fun_mk l c k, (fun_mk l c k).binds hb, PySem.W.mg_of X G a⟩
def mkM (hb : BindE x qual st ps) (a : PySem.W.findIn K (.ref C) x = some (some (.ref f))) (i : PySem.W.isFn K (.ref f) = true) (l : K.lookup f = some ⟨oc, od, .func (PySem.W.fnOf x qual (defArgs st) (defBody st) (defScope st) .none kV doc pm an cdv ct), osl⟩) (c : PySem.W.codeIn K cdv qual = true) (k : PySem.W.keepIn K (.ref f) = true) : DefM K C x qual st ps :=
  ⟨f, _, fun_mk l c k, (fun_mk l c k).binds hb, ⟨a, i, k⟩⟩
def mkI (hb : BindE "__init__" qual st ps) (a : PySem.W.findIn K (.ref C) "__init__" = some (some (.ref f))) (i : PySem.W.isFn K (.ref f) = true) (l : K.lookup f = some ⟨oc, od, .func (PySem.W.fnOf "__init__" qual (defArgs st) (defBody st) (defScope st) .none kV doc pm an cdv ct), osl⟩) (c : PySem.W.codeIn K cdv qual = true) (k : PySem.W.keepIn K (.ref f) = true)
    (mk : PySem.W.makesIn K C = true) (kc : PySem.W.keepIn K (.ref C) = true) : DefI K C qual st ps :=
  ⟨f, _, fun_mk l c k, (fun_mk l c k).binds hb, ⟨mk, a, i, kc⟩⟩
def mkP {rest : List Value} (hb : BindE x qual st ps) (a : PySem.W.findIn K (.ref C) x = some (some (.ref p))) (g1 : PySem.W.specialIn K (.ref p) "__get__" = some (some (.builtin "property.__get__"))) (t : PySem.W.takesIn K (.ref p) = some true) (r : PySem.W.recIn K p "property" = some (.ref f :: rest))
    (l : K.lookup f = some ⟨oc, od, .func (PySem.W.fnOf x qual (defArgs st) (defBody st) (defScope st) .none kV doc pm an cdv ct), osl⟩) (c : PySem.W.codeIn K cdv qual = true) (k : PySem.W.keepIn K (.ref f) = true) : DefP K C x qual st ps :=
  ⟨p, f, _, fun_mk l c k, (fun_mk l c k).binds hb, ⟨a, g1, t, rest, r⟩⟩
def mkS {rest : List Value} (hb : BindE x qual st ps) (a : PySem.W.findCls K (.ref C) (.type "type") x = some (.get (.builtin "staticmethod.__get__") (.ref p) .none (.ref C))) (rd : PySem.W.readsIn K C (.type "type") = true) (ga : PySem.W.specialIn K (.ref C) "__getattribute__" = some (some (.builtin "type.__getattribute__"))) (r : PySem.W.recIn K p "staticmethod" = some (.ref f :: rest))
    (l : K.lookup f = some ⟨oc, od, .func (PySem.W.fnOf x qual (defArgs st) (defBody st) (defScope st) .none kV doc pm an cdv ct), osl⟩) (c : PySem.W.codeIn K cdv qual = true) (k : PySem.W.keepIn K (.ref f) = true) : DefS K C x qual st ps :=
  ⟨p, f, _, fun_mk l c k, (fun_mk l c k).binds hb, ⟨rd, ga, a, ⟨rest, r⟩, k⟩⟩
def mkQ (hb : BindE "__eq__" qual st ps) (a : PySem.W.findIn K (.ref C) "__eq__" = some (some (.ref f))) (i : PySem.W.isFn K (.ref f) = true) (n : PySem.W.findIn K (.ref C) "__ne__" = some (some (.builtin "object.__ne__"))) (o : PySem.W.mroIn K C (.type "object") = some true)
    (l : K.lookup f = some ⟨oc, od, .func (PySem.W.fnOf "__eq__" qual (defArgs st) (defBody st) (defScope st) .none kV doc pm an cdv ct), osl⟩) (c : PySem.W.codeIn K cdv qual = true) (k : PySem.W.keepIn K (.ref f) = true) : DefQ K C qual st ps :=
  ⟨f, _, fun_mk l c k, (fun_mk l c k).binds hb, ⟨a, i, n, o⟩⟩
theorem mkCls (pg : PySem.W.plainGet K C Str.empty = true) (hd : PySem.W.hasDictIn K C = true) (po : PySem.W.plainOver K C = true) (sa : PySem.W.findIn K (.ref C) "__setattr__" = some (some (.builtin "object.__setattr__"))) (ha : PySem.W.findIn K (.ref C) "__class__" = some (some (.builtin "object.__class__")))
    (hn : PySem.W.specialIn K (.builtin "object.__class__") "__get__" = some (some (.builtin "getset_descriptor.__get__"))) (ht : PySem.W.takesIn K (.builtin "object.__class__") = some true) (hm : PySem.W.mroIn K C (.type "object") = some true) : KlsI K C := ⟨⟨pg, hd, po, sa⟩, ha, hn, ht, hm⟩
theorem mkCon {u : Value} (X : K.In h) (G : h.Ns mainGlobals mg) (a : PySem.W.nsIn K mainGlobals x = some (some u)) : mg x = some u := PySem.W.mg_of X G a
/-- kinds to truth -/
def fK (n b i s l t : Bool) (cs : List (Nat × Bool)) : Kd → Option Bool
  | .non => some n
  | .bl => some b
  | .int => some i
  | .str => some s
  | .lst => some l
  | .tup => some t
  | .cls c => cs.lookup c
structure FkOk (T : Tb) (g : Value → Option Bool) (n b i s l t : Bool) (cs : List (Nat × Bool)) : Prop where
  n : g (.type "NoneType") = some n
  b : g (.type "bool") = some b
  i : g (.type "int") = some i
  s : g (.type "str") = some s
  l : g (.type "list") = some l
  t : g (.type "tuple") = some t
  cs : ∀ c k, cs.lookup c = some k → KlsI T.K (T.C c) ∧ g (.ref (T.C c)) = some k
theorem FkOk.ok {T : Tb} {g : Value → Option Bool} {n b i s l t : Bool} {cs : List (Nat × Bool)} (F : FkOk T g n b i s l t cs) : ∀ kd k, fK n b i s l t cs kd = some k → (∀ c, kd = .cls c → KlsI T.K (T.C c)) ∧ g (kdV T kd) = some k := fun kd k e => by
  cases kd with
  | non => cases e; exact ⟨fun _ z => (by cases z), F.n⟩
  | bl => cases e; exact ⟨fun _ z => (by cases z), F.b⟩
  | int => cases e; exact ⟨fun _ z => (by cases z), F.i⟩
  | str => cases e; exact ⟨fun _ z => (by cases z), F.s⟩
  | lst => cases e; exact ⟨fun _ z => (by cases z), F.l⟩
  | tup => cases e; exact ⟨fun _ z => (by cases z), F.t⟩
  | cls c => exact ⟨fun _ z => (by cases z; exact (F.cs c k e).1), (F.cs c k e).2⟩
/-- kinds that may stand right of an own == -/
structure NfOk (T : Tb) (c : Nat) (ok : Kd → Bool) : Prop where
  h : ∀ kd, ok kd = true → (∀ c, kd = .cls c → KlsI T.K (T.C c)) ∧ PySem.W.notFirst T.K (T.C c) (kdV T kd) = true
def nfK (c : Nat) : Kd → Bool
  | .lst => true
  | .tup => true
  | .non => true
  | .str => true
  | .int => true
  | .bl => true
  | .cls k => k == c
theorem nfOk {T : Tb} {c : Nat} (k : KlsI T.K (T.C c)) (h0 : PySem.W.notFirst T.K (T.C c) (.type "NoneType") = true) (h1 : PySem.W.notFirst T.K (T.C c) (.type "bool") = true) (h2 : PySem.W.notFirst T.K (T.C c) (.type "int") = true) (h3 : PySem.W.notFirst T.K (T.C c) (.type "str") = true)
    (h4 : PySem.W.notFirst T.K (T.C c) (.type "list") = true) (h5 : PySem.W.notFirst T.K (T.C c) (.type "tuple") = true) (h6 : PySem.W.notFirst T.K (T.C c) (.ref (T.C c)) = true) : NfOk T c (nfK c) := ⟨fun kd e => by
  cases kd with
  | non => exact ⟨fun _ z => (by cases z), h0⟩
  | bl => exact ⟨fun _ z => (by cases z), h1⟩
  | int => exact ⟨fun _ z => (by cases z), h2⟩
  | str => exact ⟨fun _ z => (by cases z), h3⟩
  | lst => exact ⟨fun _ z => (by cases z), h4⟩
  | tup => exact ⟨fun _ z => (by cases z), h5⟩
  | cls d => 
    have e' : d = c := by simpa [nfK] using e
    subst e'
    exact ⟨fun _ z => (by cases z; exact k), h6⟩⟩
end
section
variable {X : Cx} {T : Tb} {W : WX} {k c : Nat} {f : Addr} {fd : FuncData} {ps : List Str} {a b : Expr} {pos : Pos} {ok : Kd → Bool} {g : List D → M D} {fa fb : EX}
theorem c_ownEq (E : EqC X.K (T.C c) f) (F : FnG X.prog X.w X.K X.mg X.base k f fd ps (spD T 2 g)) (ck : Cok X T W (k + 1)) (hb : Binds X.K fd ps []) (hok : NfOk T c ok) (hm : behindInMarks .Eq b = false) (ha : PE X a (tE T W fa)) (hb' : PE X b (tE T W fb)) :
    PT X (.Compare a [.Eq] [b] pos) (tQ T W (cBl (eBin (gOE c ok g) fa fb))) := imT (pt_cmpR (op_ownEq E F ck hb) ha hb' hm) fun σ H Q ⟨fr, w, rr, S, R, p⟩ => own_bin (fun w H S v1 v2 d1 d2 Q R k r1 r2 p => by
  obtain ⟨a, dx, ws, tb, h1, h2, h3, h4, h5⟩ := oe_sem k r1 r2 hok.h p
  rw [ck.K]
  exact ⟨a, dx, ws, tb, h1, h2, h3, h4, w, S, [d1, d2], k, .cons r1 (.cons r2 .nil), rfl, h5.on (fun _ _ _ _ _ _ z => z) fun _ _ _ _ z => z.elim⟩) σ H _ ⟨fr, w, rr, S, R, (Post.bnd p).on (fun w1 H1 S1 d t k p1 v rv => asBl_rep k rv p1) fun _ _ _ _ z => z⟩
theorem c_ownNe (E : EqC X.K (T.C c) f) (F : FnG X.prog X.w X.K X.mg X.base k f fd ps (spD T 2 g)) (ck : Cok X T W (k + 1)) (hb : Binds X.K fd ps []) (hok : NfOk T c ok) (hm : behindInMarks .NotEq b = false) (ha : PE X a (tE T W fa)) (hb' : PE X b (tE T W fb)) :
    PT X (.Compare a [.NotEq] [b] pos) (tQ T W (cBl (eBin (gONe c ok g) fa fb))) := imT (pt_cmpR (op_ownNe E F ck hb) ha hb' hm) fun σ H Q ⟨fr, w, rr, S, R, p⟩ => own_bin (fun w H S v1 v2 d1 d2 Q R k r1 r2 p => by
  unfold gONe at p
  obtain ⟨a, dx, ws, tb, h1, h2, h3, h4, h5⟩ := oe_sem k r1 r2 hok.h (Post.bnd p)
  rw [ck.K]
  refine ⟨a, dx, ws, tb, h1, h2, h3, h4, w, S, [d1, d2], k, .cons r1 (.cons r2 .nil), rfl, h5.on (fun w' H' S' d t kk z v rv => ?_) fun _ _ _ _ z => z.elim⟩
  cases rv with
  | bl b => exact ⟨b, rfl, Post.ok z kk _ (.bl _)⟩
  | _ => exact z.elim) σ H _ ⟨fr, w, rr, S, R, (Post.bnd p).on (fun w1 H1 S1 d t k p1 v rv => asBl_rep k rv p1) fun _ _ _ _ z => z⟩
end
/-- the script as the law's def sees it -/
theorem reps_ints {T : Tb} {w : Wd} : ∀ ns : List Int, Reps T w (ns.map V.int) (ns.map D.int)
  | [] => .nil
  | n :: ns => .cons (.int n) (reps_ints ns)
/-- the end: the law's def at the script -/
theorem run_end {P : Program} {w : World} {K : PySem.W.Frag} {mg mb : Str → Option Value} {C : Nat → Addr} {names : List Str} {k : Nat} {fa a : Addr} {fd : FuncData} {x : Str} {g : List D → M D} {s : Shared} {vs : List Value} {ns : List Int} {Sz : Sto}
    (X : K.In s.heap) (hg : s.heap.Ns mainGlobals mg) (hb : s.heap.Ns builtinsNs mb) (hbb : ∀ x : Str, x ≠ "__name__" → mb x = bootBuiltins x) (lim : s.heap.NoLimit) (hgn : s.gens = #[])
    (ha : s.heap.get? a = some { cls := .type "list", data := .seq vs.toArray }) (hi : IntsAre vs ns) (hl : ns.length ≤ sizeLine) (hr : Room k callerA)
    (F : ∀ base : Heap, K.In base → base.Ns mainGlobals mg → FnG P w K mg base k fa fd [x] (spD ⟨K, C, names, none⟩ 1 g)) (hbind : Binds K fd [x] [])
    (hd : g [.ro (ns.map D.int)] [] = .ok (.bl true) Sz) :
    codeAny (model P w) callerA (.call (.ref fa) ⟨[.ref a], []⟩) (fun r s' => r = .ok (.ret (.bool true)) ∧ OldK s.heap s'.heap ∧ s'.os = s.os ∧ AllBare s'.gens) s := by
  have key : ∃ H : Hp, Only H ∧ SqL K H a (ns.map V.int) ∧ HOk P w H s.heap ∧ (∀ b, H b ≠ none → b = a) ∧ (H a ≠ none → K.lookup a = none) := by
    cases hk : K.lookup a with
    | some o =>
      have e := X a o hk
      rw [ha] at e
      cases e
      exact ⟨fun _ => none, fun _ => .inl rfl, .inr ⟨_, vs.toArray, _, hk, rfl, rfl, rfl, by rw [List.size_toArray, hi.length]; exact hl, by simpa using vals_ints hi⟩, (by intro b u z; have z' : (none : Option HO) = some u := z; cases z'), fun b z => absurd rfl z, fun z => absurd rfl z⟩
    | none =>
      refine ⟨fun b => if b = a then some (.frz { cls := .type "list", data := .seq vs.toArray } (.lst (ns.map V.int))) else none, fun b => ?_, .inl (.inr ⟨_, if_pos rfl⟩), fun b u z => ?_, fun b z => ?_, fun _ => rfl⟩
      · by_cases q : b = a
        · exact .inr ⟨_, _, if_pos q⟩
        · exact .inl (if_neg q)
      · by_cases q : b = a
        · have z' := (if_pos q).symm.trans z
          cases z'
          subst q
          exact ⟨ha, by rw [List.length_map]; exact hl, vs, _, vals_ints hi, ha⟩
        · have z' := (if_neg q).symm.trans z
          cases z'
      · by_cases q : b = a
        · exact q
        · exact absurd (if_neg q) z
  obtain ⟨H, hO, hS, hok, hA, hK⟩ := key
  have free : ∀ {b : Addr} {o : Obj} {es : Array DictEntry} {ep : Nat}, s.heap.get? b = some o → o.data = .dict es ep → H b = none := fun {b o es ep} e d => by
    cases q : H b with
    | none => rfl
    | some u =>
      have e' : b = a := hA b (by rw [q]; simp)
      subst e'
      rw [ha] at e; cases e
      cases (show Data.seq vs.toArray _ = Data.dict es ep from d)
  have ns_ : ∀ {b : Addr} {m : Str → Option Value}, s.heap.Ns b m → (hidT s.heap H).Ns b m := fun {b m} ⟨o, es, ep, e, d, r⟩ => ⟨o, es, ep, hidT_get e (free e d), d, r⟩
  have kb : K.In (hidT s.heap H) := fun b o e => hidT_get (X b o e) (by
    cases q : H b with
    | none => rfl
    | some u =>
      have e' : b = a := hA b (by rw [q]; simp)
      subst e'
      rw [hK (by rw [q]; simp)] at e; cases e)
  have e0 : Env0 P w K mg (hidT s.heap H) callerA [] s H := ⟨rfl, ⟨kb, ns_ hg, ⟨mb, ns_ hb, hbb⟩, let ⟨mc, h1, h2⟩ := lim; ⟨mc, ns_ h1, h2⟩⟩, fun b o e => of_hidT e, Nat.le_of_eq (hidT_size _ _), trivial, fun b hb => (by cases hb), hok, .of_eq hgn⟩
  have wk : WOk ⟨K, C, names, none⟩ ⟨H, []⟩ H [] := ⟨fun _ _ e => e, List.nodup_nil, fun _ z => (by cases z), rfl, fun n c b e => by simp at e⟩
  have sp : spD ⟨K, C, names, none⟩ 1 g [.ref a] H (fun v _ => v = .bl true) (fun _ _ _ => False) := by
    refine ⟨⟨H, []⟩, [], [.ro (ns.map D.int)], wk, .cons (.ro hS (reps_ints ns)) .nil, rfl, ?_⟩
    rw [hd]
    intro w' H' _ _ v rv
    cases rv
    rfl
  have bd : BindsTo s fd ⟨[.ref a], []⟩ ([x].zip [.ref a]) := by
    have := hbind s [.ref a] X rfl
    exact this
  refine codeAny_mono ((F _ kb (ns_ hg)).run callerA [] s H ⟨[.ref a], []⟩ [.ref a] [.ref a] _ _ hr rfl e0 bd (.cons rfl .nil) sp) fun r s' z => ?_
  cases r with
  | error e =>
    obtain ⟨_, _, _, _, _, _, _, _, _, _, _, _, z⟩ := z
    exact z.elim
  | ok fl =>
    cases fl with
    | next => exact False.elim z
    | brk => exact False.elim z
    | cont => exact False.elim z
    | ret u =>
      obtain ⟨v, H', os, bare, un, hok', r', q⟩ := z
      have q' : v = .bl true := q
      subst q'
      obtain rfl : u = Value.bool true := r'
      refine ⟨rfl, OldK.of_keep fun b o e => ?_, os, bare⟩
      cases q : H b with
      | none => exact un.keep b o e q (by intro z; cases z) (by simp)
      | some u =>
        rcases hO b with z | ⟨ob, xs, z⟩
        · rw [q] at z; cases z
        · have z2 := un.frzs b ob _ z
          obtain ⟨e1, _⟩ := hok b _ z
          obtain ⟨e2, _⟩ := hok' b _ z2
          rw [e] at e1; cases e1
          exact e2
/-- the walk's end -/
theorem walk_end {l : PySem.W.OpenLaw} {n k : Nat} {q : Program} {loose : List Str} {XP : (Str → Option Value) → Heap → Prop} {YP : World → Heap → Prop} {d : DefRec} {K : Params → PySem.W.Frag} {x : Str}
    (hn : l.most = some n) (hn2 : n ≤ sizeLine) (hdf : d.params.defaults = []) (hr : Room k callerA) (hY : ∀ (w : World) (h : Heap), YP w h → (K w.params).In h)
    (F : ∀ (w : World) (mg : Str → Option Value) (fa : Addr) (h : Heap), (K w.params).In h → h.Ns mainGlobals mg → mg d.name = some (.ref fa) →
      ∃ (fd : FuncData) (C : Nat → Addr) (names : List Str) (g : List D → M D), Binds (K w.params) fd [x] [] ∧ (∀ ns : List Int, ns.length ≤ n → ∃ S, g [.ro (ns.map D.int)] [] = .ok (.bl true) S) ∧
        ∀ base : Heap, (K w.params).In base → base.Ns mainGlobals mg → FnG l.prog w (K w.params) mg base k fa fd [x] (spD ⟨K w.params, C, names, none⟩ 1 g)) :
    PySem.W.WalkO q loose XP YP l.row.toRowW d [] (fun f vs => PySem.call f vs) := by
  refine Att.attach_call hn hdf fun w s₀ s₁ mg mb fa o pm cd doc a vs ns G Y ho hd hcd hmg hobj hints hlen hg => ?_
  have KX := hY w _ Y
  obtain ⟨fd, C, names, g, hb, hgood, hF⟩ := F w mg fa _ KX G.T.g hmg
  obtain ⟨S, hS⟩ := hgood ns hlen
  exact run_end KX G.T.g G.T.b G.T.builtins G.T.nolimit hg hobj hints (Nat.le_trans hlen hn2) hr hF hb hS
end Dm
set_option maxRecDepth 100000
set_option maxHeartbeats 1000000
/-! Own errors' words. -/
namespace Dm
set_option autoImplicit false
open PySem L2 PyProof.Rows
theorem forall_c1 {P : Nat → Prop} {a : Nat} (h : P a) : ∀ c ∈ [a], P c := fun c hc => by
  rw [List.mem_singleton] at hc
  subst hc; exact h
theorem forall_c2 {P : Nat → Prop} {a b : Nat} (h : P a) (h2 : P b) : ∀ c ∈ [a, b], P c := fun c hc => by
  rcases List.mem_cons.mp hc with rfl | hc
  · exact h
  · exact forall_c1 h2 c hc
theorem forall_c3 {P : Nat → Prop} {a b d : Nat} (h : P a) (h2 : P b) (h3 : P d) : ∀ c ∈ [a, b, d], P c := fun c hc => by
  rcases List.mem_cons.mp hc with rfl | hc
  · exact h
  · exact forall_c2 h2 h3 c hc
theorem forall_s1 {P : Str → Prop} {a : Str} (h : P a) : ∀ c ∈ [a], P c := fun c hc => by
  rw [List.mem_singleton] at hc
  subst hc; exact h
theorem forall_s2 {P : Str → Prop} {a b : Str} (h : P a) (h2 : P b) : ∀ c ∈ [a, b], P c := fun c hc => by
  rcases List.mem_cons.mp hc with rfl | hc
  · exact h
  · exact forall_s1 h2 c hc
def ksC (ns : List Str) : List Nat → List Str → Bool
  | [], [] => true
  | k :: ks, f :: fs => decide (ns[k]? = some f) && ksC ns ks fs
  | _, _ => false
theorem ks_ok {ns : List Str} : ∀ {ks : List Nat} {fs : List Str}, ksC ns ks fs = true → ∀ (i : Nat) (j : Nat) (f : Str), ks[i]? = some j → fs[i]? = some f → ns[j]? = some f
  | [], [], _, _, _, _, h, _ => by simp at h
  | [], _ :: _, h, _, _, _, _, _ => by simp [ksC] at h
  | _ :: _, [], h, _, _, _, _, _ => by simp [ksC] at h
  | k :: ks, g :: fs, h, i, j, f, h1, h2 => by
    rw [ksC, Bool.and_eq_true] at h
    cases i with
    | zero => simp at h1 h2; subst h1; subst h2; simpa using h.1
    | succ i => exact ks_ok h.2 i j f (by simpa using h1) (by simpa using h2)
theorem lkC0 {P : Nat → Bool → Prop} : ∀ c k, ([] : List (Nat × Bool)).lookup c = some k → P c k := fun _ _ e => by cases e
theorem lkC {P : Nat → Bool → Prop} {a : Nat} {b : Bool} {l : List (Nat × Bool)} (h : P a b) (r : ∀ c k, l.lookup c = some k → P c k) : ∀ c k, ((a, b) :: l).lookup c = some k → P c k := fun c k e => by
  rw [List.lookup_cons] at e
  cases q : c == a with
  | true =>
    rw [q] at e
    cases e
    have : c = a := by simpa using q
    subst this; exact h
  | false => rw [q] at e; exact r c k e
structure ErrD (P : Program) (K : PySem.W.Frag) (mg : Str → Option Value) (cn : Str) (fs : List Str) (mb : List Value) (b i : String) (c : Addr) where
  fi : Addr
  E : ErrT P K mg cn fs mb b i c fi
section
variable {P : Program} {K : PySem.W.Frag} {mg : Str → Option Value} {h : Heap} {cn : Str} {fs : List Str} {mb : List Value} {b i : String} {c fi : Addr} {st : Stmt} {x qual : Str} {nb nn ni : String} {nl : List Value}
def mkErr {dV kV doc pm ct oc : Value} {an od : Option Addr} {osl : Array (Option Value)} {cc cda : Addr} {vs : Array Value} {file : Str} {tf : Tok} {ccl cv : Value} {cdd cld : Option Addr} {ccs csl : Array (Option Value)}
    (X : K.In h) (G : h.Ns mainGlobals mg) (N : NewF mb nb nn ni nl) (I : IniF b i) (kF : PySem.W.KxsFacts b i) (sF : StoreFacts b mb "object.__setattr__" "object") (sm : (P.main.scope.names.lookup ("super" : Str)).isSome = false) (nd : fs.Nodup) (ns : ("self" : Str) ∉ fs) (few : fs.length ≤ 100)
    (bd : ∃ (text : Str) (j : Nat) (p0 p1 p2 p3 p4 p5 : Pos) (r : List Stmt) (ar : Arg), defBody st = .Expr (.Call (.Attribute (.Call (.Name "super" p0) [] [] p1) "__init__" p2) [.Constant (.str text) j p3] [] p4) p5 :: r ∧ StoreL fs r ∧
      ((defArgs st).posonlyargs ++ (defArgs st).args).head? = some ar ∧ ar.arg = "self" ∧ (p2.endLine == p4.line) = true)
    (sc : ((defScope st).names.lookup ("super" : Str) = some .globalImplicit ∧ (defScope st).names.lookup ("__class__" : Str) = some .free ∧ (∀ y ∈ ("self" : Str) :: fs, (defScope st).names.lookup y = some .local) ∧ (∀ y ∈ ("self" : Str) :: fs, (y == ("__debug__" : Str)) = false) ∧
      (defScope st).kind = .function ∧ (defScope st).isCoroutine = false ∧ (defScope st).isGenerator = false ∧ (∀ y ∈ (defScope st).names, y.2 ≠ .cell)))
    (gC : PySem.W.nsIn K mainGlobals cn = some (some (.ref c))) (kC : PySem.W.keepIn K (.ref c) = true) (ini : PySem.W.excInitIn K c mb nn = true) (ov : PySem.W.excOver K c mb = true)
    (sa : PySem.W.findIn K (.ref c) "__setattr__" = some (some (.builtin "object.__setattr__"))) (ic : PySem.W.findIn K (.ref c) "__init__" = some (some (.ref fi))) (ti : PySem.W.isFn K (.ref fi) = true) (tk : ∀ f ∈ fs, PySem.W.takerIn K c f = some none) (hd : PySem.W.hasDictIn K c = true)
    (bs : PySem.W.subIn K (.ref c) (.type b) = some true) (xs : PySem.W.subIn K (.ref c) (.type "BaseException") = some true) (ty : PySem.W.typeIn K (.ref c) = some (.type "type")) (mr : PySem.W.mroIn K c (.ref c) = some true)
    (sup : PySem.W.ks_superIn K c c "__init__" = some (some (.builtin i))) (opq : PySem.W.nsIn K cStatics "thirdparty.any" = some none) (sg : PySem.W.nsIn K mainGlobals "super" = some none)
    (l : K.lookup fi = some ⟨oc, od, .func (PySem.W.ksFn x qual (defArgs st) (defBody st) (defScope st) dV kV doc pm an (.ref cda) ct cc), osl⟩) (co : PySem.W.codeIn K (.ref cda) qual = true) (lc : K.lookup cda = some ⟨ccl, cdd, .fields vs, ccs⟩) (v2 : vs[2]? = some (.str file tf)) (fl : ((P.main.file : Str) == file) = true)
    (lx : K.lookup cc = some ⟨cv, cld, .cell (some (.ref c)), csl⟩)
    (hb : ∀ (s : Shared) (us : List Value), us.length = fs.length + 1 → BindsTo s (PySem.W.ksFn x qual (defArgs st) (defBody st) (defScope st) dV kV doc pm an (.ref cda) ct cc) ⟨us, []⟩ ((("self" : Str) :: fs).zip us)) : ErrD P K mg cn fs mb b i c :=
  ⟨fi, by
    obtain ⟨text, j, p0, p1, p2, p3, p4, p5, r, ar, b1, b2, b3, b4, b5⟩ := bd
    exact { gC := PySem.W.mg_of X G gC, kC := kC, ini := ⟨_, _, _, _, N, ini⟩, iF := I, kF := kF, sF := sF, ov := ov, sa := sa, ic := ic, ti := ti, tk := tk, hd := hd, bs := bs, xs := xs, ty := ty, mr := mr, cl := (PySem.W.any_some hd).imp fun _ z => z.1, sup := sup, opq := opq, sg := PySem.W.mg_none_of X G sg, sm := sm, nd := nd, ns := ns, few := few,
            fn := ⟨x, qual, defScope st, dV, kV, doc, pm, ct, oc, an, od, osl, cc, cda, defArgs st, defBody st, text, j, p0, p1, p2, p3, p4, p5, r, ar, vs, file, tf, ccl, cv, cdd, cld, ccs, csl, l, co, b1, b2, b3, b4, lc, v2, fl, b5, lx, sc.1, sc.2.1, sc.2.2.1, sc.2.2.2.1, sc.2.2.2.2.1, sc.2.2.2.2.2.1, sc.2.2.2.2.2.2.1, sc.2.2.2.2.2.2.2, hb⟩ }⟩
end
section
variable {K : PySem.W.Frag} {mg : Str → Option Value} {h : Heap} {x : Str} {u : Value} {l : List Nat} {i : Int} {t c : Value} {C : Addr} {b : Bool}
theorem cstr_mk (X : K.In h) (G : h.Ns mainGlobals mg) (a : PySem.W.nsIn K mainGlobals x = some (some u)) (q : ∃ s t, u = .str s t ∧ s.cps.toList = l) : ∃ s t, mg x = some (.str s t) ∧ s.cps.toList = l := by
  obtain ⟨s, t, rfl, e⟩ := q
  exact ⟨s, t, PySem.W.mg_of X G a, e⟩
theorem cint_mk (X : K.In h) (G : h.Ns mainGlobals mg) (a : PySem.W.nsIn K mainGlobals x = some (some u)) (q : ∃ t, u = .int i t) : ∃ t, mg x = some (.int i t) := by
  obtain ⟨t, rfl⟩ := q
  exact ⟨t, PySem.W.mg_of X G a⟩
theorem kit_ref (hd : PySem.W.hasDictIn K C = true) (ht : PySem.W.typeIn K (.ref C) = some (.type "type")) (hs : PySem.W.subIn K t (.ref C) = some b) (hne : (t == .ref C) = false ∨ b = true) : PySem.W.kitOne K t (.ref C) = some b := by
  obtain ⟨cd, hc, _⟩ := PySem.W.any_some hd
  unfold PySem.W.kitOne
  cases q : (t == Value.ref C) with
  | true =>
    rw [if_pos rfl]
    rcases hne with z | z
    · rw [q] at z; cases z
    · rw [z]
  | false =>
    rw [if_neg (by decide)]
    show (if ((PySem.W.clsIn K C).isSome && PySem.W.typeIn K (.ref C) == some (.type "type")) = true then PySem.W.subIn K t (.ref C) else none) = _
    rw [if_pos (by rw [hc, ht]; rfl), hs]
theorem exm_KErr (hs : PySem.W.subIn K t (.type "KeyError") = some b) : PySem.W.exmOne K t (.type "KeyError") = some b := by
  have e1 : (PySem.W.subIn K (.type "KeyError") (.type "BaseException") == some true) = true := by kernel_rfl
  have e2 : PySem.W.kitMeta "KeyError" = true := by decide +kernel
  unfold PySem.W.exmOne
  rw [if_pos e1]
  show (if PySem.W.kitMeta "KeyError" = true then PySem.W.subIn K t (.type "KeyError") else none) = _
  rw [if_pos e2, hs]
end
end Dm
set_option maxRecDepth 100000
set_option maxHeartbeats 1000000
/-! a, b = x, y with plain local names: stored from the right, no pair. -/
namespace Dm
set_option autoImplicit false
open PySem L2
def sPar2 (i j : Nat) (e1 e2 : EX) : SX := fun r S => onS (e1 r S) r fun a S' => onS (e2 r S') r fun d S2 => if i ≠ j then .nx ((r.set i (.sh a)).set j (.sh d)) S2 else .no
section
variable {X : Cx} {T : Tb} {W : WX} {pos p1 p2 p3 p4 : Pos} {e1 e2 : Expr} {l : LX} {f g : EX} {i j k1 k2 : Nat} {x y : Str}
theorem s_par2 (hN : X.N.Nodup) (hc : X.calm = true) (he1 : PE X e1 (tE T W f)) (he : PE X e2 (tE T W g)) (hij : i ≠ j) (hi : X.N[i]? = some x := by rfl) (hj : X.N[j]? = some y := by rfl)
    (hx : X.env.scope.names.lookup x = some .local := by rfl) (hy : X.env.scope.names.lookup y = some .local := by rfl)
    (ht1 : starEach (e1 :: [e2]) X.env = (false, eval e1 X.env) :: starEach [e2] X.env := by rfl) (ht2 : starEach (e2 :: []) X.env = (false, eval e2 X.env) :: starEach [] X.env := by rfl)
    (hs : swapsWithSole [.Tuple [.Name x p1, .Name y p2] k1 p3] (.Tuple [e1, e2] k2 p4) pos.line X.env = pure false := by rfl) (hw : swappedStores [.Tuple [.Name x p1, .Name y p2] k1 p3] (.Tuple [e1, e2] k2 p4) X.env = pure (some [x, y]) := by rfl) :
    PS X (.Assign [.Tuple [.Name x p1, .Name y p2] k1 p3] (.Tuple [e1, e2] k2 p4) pos) (tS T W (sPar2 i j f g)) := by
  refine imS (ps_par hc hN hi hj hij hx hy (pa_cons he1 (pa_cons he pa_nil ht2) ht1) hw hs) fun D σ H ⟨fr, w, r, S, R, p⟩ => ?_
  unfold sPar2 at p
  refine ⟨fr, w, r, S, R, onS_post R p fun w1 H1 S1 d1 t1 k1 p1 v1 rv1 => ⟨fr, w1, r, S1, R.step t1 k1, onS_post (R.step t1 k1) p1 fun w2 H2 S2 d t2 k2 p2 v rv => ?_⟩⟩
  rw [if_pos hij] at p2
  refine ⟨v1, v, rfl, p2 _ _ _ (Wd.Le.refl w2) ((((R.step t1 k1).step t2 k2).setSh (rv1.up t2.le)).setSh rv)⟩
theorem s_par2o (hN : X.N.Nodup) (hc : X.calm = true) (hl : PE X e1 (tL T W l)) (he : PE X e2 (tE T W f)) (hij : i ≠ j) (hi : X.N[i]? = some x := by rfl) (hj : X.N[j]? = some y := by rfl)
    (hx : X.env.scope.names.lookup x = some .local := by rfl) (hy : X.env.scope.names.lookup y = some .local := by rfl)
    (ht1 : starEach (e1 :: [e2]) X.env = (false, eval e1 X.env) :: starEach [e2] X.env := by rfl) (ht2 : starEach (e2 :: []) X.env = (false, eval e2 X.env) :: starEach [] X.env := by rfl)
    (hs : swapsWithSole [.Tuple [.Name x p1, .Name y p2] k1 p3] (.Tuple [e1, e2] k2 p4) pos.line X.env = pure false := by rfl) (hw : swappedStores [.Tuple [.Name x p1, .Name y p2] k1 p3] (.Tuple [e1, e2] k2 p4) X.env = pure (some [x, y]) := by rfl) :
    PS X (.Assign [.Tuple [.Name x p1, .Name y p2] k1 p3] (.Tuple [e1, e2] k2 p4) pos) (tS T W (sOwn2 i j l f)) := by
  refine imS (ps_par hc hN hi hj hij hx hy (pa_cons hl (pa_cons he pa_nil ht2) ht1) hw hs) fun D σ H ⟨fr, w, r, S, R, p⟩ => ?_
  unfold sOwn2 at p
  refine ⟨fr, w, r, S, R, onS_post R p fun w1 H1 S1 xs t1 k1 p1 a m => ⟨fr, w1, r, S1, R.step t1 k1, onS_post (R.step t1 k1) p1 fun w2 H2 S2 d t2 k2 p2 v rv => ?_⟩⟩
  rw [if_pos hij] at p2
  have R2 := (R.step t1 k1).step t2 k2
  have o1 : OwnAt T fr.H w1 H1 a xs := ⟨m.vs, m.nf, m.nl, R.stp.live _ m.new⟩
  refine ⟨.ref a, v, rfl, p2 _ _ _ (Wd.Le.refl w2) ((R2.setOw (o1.step t2) fun j' ys hj' e3 e4 => ?_).setSh rv)⟩
  obtain ⟨c', e5, oc⟩ := R.ow j' ys e3
  rw [e4] at e5; cases e5
  obtain ⟨vs, e6, _⟩ := oc.vs
  rw [m.new] at e6; cases e6
end
end Dm
set_option maxRecDepth 100000
set_option maxHeartbeats 1000000
/-! sum(lists, []). -/
namespace Dm
set_option autoImplicit false
open PySem L2 PyProof.Rows
theorem args_sum2 (a b : Value) : argsOk "sum" ⟨[a, b], []⟩ := by unfold argsOk; kernel_rfl
theorem sub_list_str : isSubtype (.type "list") (.type "str") = pure false := by rw [isSubtype_type]; kernel_rfl
theorem sub_list_bytes : isSubtype (.type "list") (.type "bytes") = pure false := by rw [isSubtype_type]; kernel_rfl
theorem sub_list_bytearray : isSubtype (.type "list") (.type "bytearray") = pure false := by rw [isSubtype_type]; kernel_rfl
inductive Lsts (h : Heap) : List Addr → List (List Value) → Prop where
  | nil : Lsts h [] []
  | cons {b : Addr} {us : List Value} {bs : List Addr} {uss : List (List Value)} : (∃ n, IsL h b us.toArray n) → Lsts h bs uss → Lsts h (b :: bs) (us :: uss)
theorem Lsts.len {h : Heap} : ∀ {bs : List Addr} {uss : List (List Value)}, Lsts h bs uss → bs.length = uss.length
  | _, _, .nil => rfl
  | _, _, .cons _ t => by simp [t.len]
theorem Lsts.at_ {h : Heap} : ∀ {bs : List Addr} {uss : List (List Value)} {i : Nat}, Lsts h bs uss → i < bs.length → ∃ b us n, bs[i]? = some b ∧ uss.drop i = us :: uss.drop (i + 1) ∧ IsL h b us.toArray n
  | _, _, i, .nil, hi => by simp at hi
  | b :: bs, us :: uss, 0, .cons ⟨n, e⟩ t, _ => ⟨b, us, n, rfl, rfl, e⟩
  | _ :: bs, _ :: uss, i + 1, .cons _ t, hi => by
    obtain ⟨b, us, n, h1, h2, h3⟩ := t.at_ (i := i) (by simpa using hi)
    exact ⟨b, us, n, by simpa using h1, by simpa using h2, h3⟩
section
variable {prog : Program} {w : World} {A : Around} {R : Result → Shared → Prop} {h0 : Heap} {l it S : Addr} {bs : List Addr} {uss : List (List Value)}
theorem sum_loopL (hh : A.handled = none) (hl : h0.IsList l (bs.map Value.ref).toArray) (hu : Lsts h0 bs uss) (nit : h0.objs.size ≤ it) (nS : h0.objs.size ≤ S) (ne : it ≠ S) :
    ∀ (k i : Nat) (s : Shared) (t : Addr) (acc : List Value) (nt c : Nat), bs.length - i = k → i ≤ bs.length → (∀ b o, h0.get? b = some o → s.heap.get? b = some o) → h0.objs.size ≤ s.heap.objs.size → s.heap.IsListIter it l i →
      s.heap.get? S = some { cls := .type "list", dict := none, data := .seq #[.ref t] c, slots := #[] } → IsL s.heap t acc.toArray nt → t ≠ it → t ≠ S → acc.length + (uss.drop i).flatten.length ≤ sizeLine →
      (∀ h' tk t' n', (∀ b o, h0.get? b = some o → h'.get? b = some o) → IsL h' t' (acc ++ (uss.drop i).flatten).toArray n' → (t' = t ∧ i = bs.length) ∨ (h0.objs.size ≤ t' ∧ i < bs.length) → R (.ok (.ret (.ref t'))) { s with heap := h', toks := tk }) →
      codeAny (model prog w) A (.builtin "sum.loop" ⟨[.ref it, .ref S, rawInt 2, rawInt 0], []⟩) R s := by
  have hold : ∀ {b : Addr} {o : Obj}, h0.get? b = some o → b ≠ it ∧ b ≠ S := fun {b o} e => by
    have h1 := Heap.lt_size e
    exact ⟨Nat.ne_of_lt (Nat.lt_of_lt_of_le h1 nit), Nat.ne_of_lt (Nat.lt_of_lt_of_le h1 nS)⟩
  intro k
  induction k with
  | zero =>
    intro i s t acc nt c hk hi hkeep hsz hit hS ht n1 n2 hlen hR
    have hin : i = bs.length := by omega
    have hdrop : uss.drop i = [] := by rw [hin, hu.len]; simp
    refine codeAny_builtin F.entry_sum_loop ?_
    rw [Around.under_plainId F.plain_sum_loop _]
    show wpAny _ A.in1 (seqItems? (.ref S) >>= _) _ _ s
    refine wpAny_bind (wpAny_seqItems hS rfl ?_)
    show wpAny _ A.in1 (tryCatch (pyNext (.ref it)) _ >>= _) _ _ s
    have hls : s.heap.IsList l (bs.map Value.ref).toArray := by
      obtain ⟨o, e, c1, n, d⟩ := hl
      exact ⟨o, hkeep _ _ e, c1, n, d⟩
    refine wpAny_bind (wpAny_tryCatch (wpAny_pyNext_list_end hh hit hls (by simp [hin]) fun h' he => ?_))
    refine wpAny_pure (hR h' s.toks t nt (fun b o e => ?_) ?_ (.inl ⟨rfl, hin⟩))
    · exact he b o (hold e).1 (hkeep b o e)
    · rw [hdrop]; simpa using he t _ n1 ht
  | succ k ih =>
    intro i s t acc nt c hk hi hkeep hsz hit hS ht n1 n2 hlen hR
    have hlt : i < bs.length := by omega
    obtain ⟨b, us, nb, e1, e2, e3⟩ := hu.at_ hlt
    refine codeAny_builtin F.entry_sum_loop ?_
    rw [Around.under_plainId F.plain_sum_loop _]
    show wpAny _ A.in1 (seqItems? (.ref S) >>= _) _ _ s
    refine wpAny_bind (wpAny_seqItems hS rfl ?_)
    show wpAny _ A.in1 (tryCatch (pyNext (.ref it)) _ >>= _) _ _ s
    have hls : s.heap.IsList l (bs.map Value.ref).toArray := by
      obtain ⟨o, e, c1, n, d⟩ := hl
      exact ⟨o, hkeep _ _ e, c1, n, d⟩
    refine wpAny_bind (wpAny_tryCatch (wpAny_pyNext_list_item (x := .ref b) hit hls (by simp [e1]) fun h' hit' he => ?_))
    have ht' : IsL h' t acc.toArray nt := (he.2 t n1).trans ht
    have hS' : h'.get? S = some { cls := .type "list", dict := none, data := .seq #[.ref t] c, slots := #[] } := (he.2 S (Ne.symm ne)).trans hS
    have hb' : IsL h' b us.toArray nb := (he.2 b (hold e3).1).trans (hkeep _ _ e3)
    have hlen2 : acc.length + us.length + (uss.drop (i + 1)).flatten.length ≤ sizeLine := by
      rw [e2, List.flatten_cons, List.length_append] at hlen; omega
    show wpAny _ A.in1 ((holding [Value.ref b] (binaryOp .Add (.ref t) (.ref b))).attempt >>= _) _ _ _
    refine wpAny_bind (wpAny_attempt (wpAny_holding (PySem.P.add_list ht' hb' ?_ (by rw [List.size_toArray, List.size_toArray]; omega))))
    have ea : acc.toArray ++ us.toArray = (acc ++ us).toArray := by simp
    rw [ea]
    have sz' : s.heap.objs.size = h'.objs.size := he.1.symm
    have lS : S < h'.objs.size := Heap.lt_size hS'
    have lit : it < h'.objs.size := by
      obtain ⟨o, e, _⟩ := hit'
      exact Heap.lt_size e
    have hS2 := Heap.get?_push_of_some { cls := .type "list", data := .seq (acc ++ us).toArray } hS'
    show wpAny (model prog w) A.in1 (updateSeq S (fun _ => #[.ref h'.objs.size]) >>= _) _ _ _
    refine wpAny_bind (wpAny_updateSeq hS2 rfl ?_)
    have hS3 := Heap.get?_update_self (Obj.mapSeq fun _ => #[Value.ref h'.objs.size]) hS2 rfl
    refine wpAny_bind (wpAny_letGo ?_)
    refine wpAny_bind (wpAny_updateSeq hS3 rfl (wpAny_pure ⟨plainId_quiet F.plain_sum_loop _, ?_⟩))
    have hS4 := Heap.get?_update_self (Obj.mapSeq fun _ => #[Value.ref h'.objs.size]) hS3 rfl
    have oth : ∀ x o, x ≠ S → (h'.push { cls := .type "list", data := .seq (acc ++ us).toArray }).get? x = some o → (((h'.push { cls := .type "list", data := .seq (acc ++ us).toArray }).update S (Obj.mapSeq fun _ => #[Value.ref h'.objs.size])).update S (Obj.mapSeq fun _ => #[Value.ref h'.objs.size])).get? x = some o := fun x o hx e =>
      (Heap.get?_update_other _ _ (fun h : S = x => hx h.symm)).trans ((Heap.get?_update_other _ _ (fun h : S = x => hx h.symm)).trans e)
    have old2 : ∀ x o, h0.get? x = some o → (((h'.push { cls := .type "list", data := .seq (acc ++ us).toArray }).update S (Obj.mapSeq fun _ => #[Value.ref h'.objs.size])).update S (Obj.mapSeq fun _ => #[Value.ref h'.objs.size])).get? x = some o := fun x o e =>
      oth x o (hold e).2 (Heap.get?_push_of_some _ ((he.2 x (hold e).1).trans (hkeep x o e)))
    refine ih (i + 1) _ h'.objs.size (acc ++ us) 0 _ (by omega) hlt old2 ?_ ?_ hS4 ?_ ?_ ?_ ?_ fun h2 tk t' n' k2 r2 r3 => ?_
    · rw [Heap.size_update, Heap.size_update, Heap.size_push, ← sz']; omega
    · obtain ⟨o, e, c1, d1⟩ := hit'
      exact ⟨o, oth it o ne (Heap.get?_push_of_some _ e), c1, d1⟩
    · exact oth _ _ (Nat.ne_of_gt lS) (Heap.get?_push_size _ rfl)
    · exact Nat.ne_of_gt lit
    · exact Nat.ne_of_gt lS
    · rw [List.length_append]; omega
    · have ef : acc ++ (uss.drop i).flatten = (acc ++ us) ++ (uss.drop (i + 1)).flatten := by rw [e2]; simp
      have := hR h2 tk t' n' k2 (by rw [ef]; exact r2) (.inr ⟨?_, hlt⟩)
      · exact this
      · rcases r3 with ⟨rfl, _⟩ | ⟨z, _⟩
        · rw [← sz']; exact hsz
        · exact z
end
section
variable {prog : Program} {w : World} {A : Around} {E : Value → Shared → Prop} {s : Shared} {l st : Addr} {bs : List Addr} {uss : List (List Value)} {Q : Value → Shared → Prop}
theorem sum_lists (hh : A.handled = none) (hl : s.heap.IsList l (bs.map Value.ref).toArray) {n0 : Nat} (hst : IsL s.heap st #[] n0) (hu : Lsts s.heap bs uss) (hlen : uss.flatten.length ≤ sizeLine)
    (hQ : ∀ h' tk t' n', (∀ b o, s.heap.get? b = some o → h'.get? b = some o) → IsL h' t' uss.flatten.toArray n' → (t' = st ∧ 0 = bs.length) ∨ (s.heap.objs.size ≤ t' ∧ 0 < bs.length) → Q (.ref t') { s with heap := h', toks := tk }) :
    wpAny (model prog w) A (call (.builtin "sum") [.ref l, .ref st]) Q E s := by
  refine call_function_tree F.kind_sum F.plain_sum F.entry_sum (args_sum2 _ _) ?_
  unfold Builtin.«sum»
  simp only [List.length_cons, List.length_nil]
  rw [if_neg (by decide)]
  refine wpAny_bind (wpAny_of_eq (show Builtin.Builtins.bindParams "sum" ["start"] 0 ⟨[.ref st], []⟩ = pure [some (.ref st)] from rfl) ?_)
  refine wpAny_bind (wpAny_pyIter_list hl ?_)
  refine wpAny_bind (wpAny_pure ?_)
  have hst2 := Heap.get?_push_of_some { cls := .type "list_iterator", data := .fields #[.ref l, .int 0 0] } hst
  have ty : ({ s with heap := s.heap.push { cls := .type "list_iterator", data := .fields #[.ref l, .int 0 0] } } : Shared).TypeIs (.ref st) "list" := ⟨_, hst2, rfl⟩
  simp only [List.forIn_cons, List.forIn_nil]
  refine wpAny_bind (wpAny_bind (wpAny_bind (wpAny_isInstance (T := "list") (b := false) ty sub_list_str ?_)))
  simp only [Bool.false_eq_true, if_false]
  refine wpAny_pure (wpAny_bind (wpAny_bind (wpAny_isInstance (T := "list") (b := false) ty sub_list_bytes ?_)))
  simp only [Bool.false_eq_true, if_false]
  refine wpAny_pure (wpAny_bind (wpAny_bind (wpAny_isInstance (T := "list") (b := false) ty sub_list_bytearray ?_)))
  simp only [Bool.false_eq_true, if_false]
  refine wpAny_pure (wpAny_pure ?_)
  refine wpAny_bind (wpAny_newObj_type ?_)
  have lst : st < s.heap.objs.size := Heap.lt_size hst
  refine wpAny_pure ⟨plainId_quiet F.plain_sum_loop _, sum_loopL (A := A) (l := l) (S := (s.heap.push { cls := .type "list_iterator", data := .fields #[.ref l, .int 0 0] }).objs.size) hh hl hu (Nat.le_refl _) (by rw [Heap.size_push]; exact Nat.le_succ _) (by rw [Heap.size_push]; exact Nat.ne_of_lt (Nat.lt_succ_self _))
    bs.length 0 _ st [] n0 0 rfl (Nat.zero_le _) (fun b o e => Heap.get?_push_of_some _ (Heap.get?_push_of_some _ e)) (by rw [Heap.size_push, Heap.size_push]; omega) ⟨_, Heap.get?_push_of_some _ (Heap.get?_push_size _ rfl), rfl, rfl⟩ (Heap.get?_push_size _ rfl) (Heap.get?_push_of_some _ hst2) (Nat.ne_of_lt lst)
    (by rw [Heap.size_push]; exact Nat.ne_of_lt (Nat.lt_succ_of_lt lst)) (by simpa using hlen) fun h' tk t' n' k r z => ?_⟩
  exact hQ h' tk t' n' k (by simpa using r) z
end
/-- lists of the heap, by values -/
inductive LstsV (H : Hp) : List Addr → List (List V) → Prop where
  | nil : LstsV H [] []
  | cons {b : Addr} {ys : List V} {bs : List Addr} {yss : List (List V)} : H b = some (.lst ys) → LstsV H bs yss → LstsV H (b :: bs) (ys :: yss)
abbrev rSumL (K : PySem.W.Frag) : List V → Hp → VK → Prop := fun xs H Q => ∃ a st bs yss, xs = [.ref a, .ref st] ∧ SqL K H a (bs.map V.ref) ∧ H st = some (.lst []) ∧ LstsV H bs yss ∧ yss.flatten.length ≤ sizeLine ∧ (bs = [] → Q (.ref st) H) ∧ ∀ p, H p = none → Q (.ref p) (upd H p (.lst yss.flatten))
theorem refs_vals : ∀ {bs : List Addr} {us : List Value}, Vals (bs.map V.ref) us → us = bs.map Value.ref
  | [], _, r => by cases r; rfl
  | b :: bs, _, r => by
    cases r with
    | cons p q =>
      cases p
      rw [refs_vals q]; rfl
theorem lstsV_in {X : Cx} {pins : List (Addr × Obj)} {σ : L2.St} {H : Hp} {s : Shared} (I : Inv X pins σ H s) : ∀ {bs : List Addr} {yss : List (List V)}, LstsV H bs yss → ∃ uss, Lsts s.heap bs uss ∧ Vals yss.flatten uss.flatten
  | _, _, .nil => ⟨[], .nil, .nil⟩
  | _, _, .cons e t => by
    obtain ⟨uss, h1, h2⟩ := lstsV_in I t
    obtain ⟨_, its, n, r, _, q⟩ := I.lstM e
    exact ⟨its :: uss, .cons ⟨n, q⟩ h1, by rw [List.flatten_cons, List.flatten_cons]; exact r.append h2⟩
theorem cr_sumLD {X : Cx} {T : Tb} (hK : X.K = T.K) (hc : X.calm = true) : CallR X (.builtin "sum") (rSumL T.K) := by
  intro pins s σ H xs us Q I r h
  obtain ⟨a, st, bs, yss, rfl, hs, h1, h2, h3, q1, q2⟩ := h
  rw [← hK] at hs
  obtain ⟨its, rv, hl, _⟩ := I.list hs
  obtain ⟨u1, u2, rfl, r1, r2⟩ := vals2 r
  cases r1; cases r2
  rw [refs_vals rv] at hl
  obtain ⟨_, i0, n0, r0, l0, e0⟩ := I.lstM h1
  have : i0 = [] := by cases i0 with
    | nil => rfl
    | cons _ _ => simp at l0
  subst this
  obtain ⟨uss, g1, g2⟩ := lstsV_in I h2
  refine sum_lists (I.ok.hd hc) hl.isList e0 g1 (by rw [← g2.length]; exact h3) fun h' tk t' n' k rl z => ?_
  rcases z with ⟨rfl, z⟩ | ⟨z, _⟩
  · exact ⟨.ref _, H, I.kept k, rfl, q1 (List.length_eq_zero_iff.mp z.symm)⟩
  · exact ⟨.ref _, _, I.laid (o := .lst yss.flatten) k z ⟨h3, _, n', g2, rl⟩, rfl, q2 _ (I.hok.fresh z)⟩
def catD : List D → Option (List D)
  | [] => some []
  | .lst ys :: ds => (catD ds).map (ys ++ ·)
  | _ => none
def fSumL (a : List D) : M D := fun S => match a with
  | [x, .lst []] => match (lstOf S x).bind (fun xs => if xs.isEmpty then none else catD xs) with
    | some zs => if zs.length ≤ LIM then .ok (.lst zs) S else .no
    | none => .no
  | _ => .no
section
variable {T : Tb} {w : Wd} {H : Hp} {S : Sto}
theorem cat_view (k : WOk T w H S) : ∀ {ds : List D} {vs : List V} {zs : List D}, Reps T w vs ds → catD ds = some zs → ∃ bs yss, vs = bs.map V.ref ∧ LstsV H bs yss ∧ Reps T w yss.flatten zs ∧ (bs = [] → zs = [])
  | [], _, zs, r, h => by cases r; cases h; exact ⟨[], [], rfl, .nil, .nil, fun _ => rfl⟩
  | d :: ds, _, zs, r, h => by
    cases r with
    | cons p q =>
      cases d with
      | lst ys =>
        obtain ⟨z0, e, rfl⟩ := Option.map_eq_some_iff.mp (show (catD ds).map (ys ++ ·) = some zs from h)
        obtain ⟨bs, yss, rfl, h2, h3, _⟩ := cat_view k q e
        cases p with
        | lst e1 e2 => exact ⟨_ :: bs, _ :: yss, rfl, .cons (k.fz _ _ e1) h2, by rw [List.flatten_cons]; exact e2.append h3, fun z => by cases z⟩
      | _ => cases h
theorem b_sumL : CaS T (rSumL T.K) fSumL := fun w H S vs ds Q R k rs p => by
  unfold fSumL at p
  split at p
  · obtain ⟨v, u, rfl, r1, r2⟩ := rts2 rs
    split at p
    · rename_i zs e
      split at p
      · rename_i hl
        obtain ⟨xs, e1, e2⟩ := Option.bind_eq_some_iff.mp e
        obtain ⟨a, us, rfl, hs, rr⟩ := lst_view k r1 e1
        obtain ⟨b, us2, rfl, hs2, rr2⟩ := lstM_view k r2 rfl
        cases rr2
        have e3 : catD xs = some zs := by
          split at e2
          · cases e2
          · exact e2
        obtain ⟨bs, yss, rfl, h2, h3, h4⟩ := cat_view k rr e3
        refine ⟨a, b, bs, yss, rfl, hs, hs2, h2, by rw [h3.length, limE]; exact hl, fun z => ?_, fun q hq => ?_⟩
        · subst z
          cases rr
          simp at e2
        · obtain ⟨z1, z2⟩ := new_lst k h3 p q hq
          exact z1 _ z2
      · exact p.elim
    · exact p.elim
  · exact p.elim
end
end Dm
set_option maxRecDepth 100000
set_option maxHeartbeats 0
namespace K75
set_option autoImplicit false
open PySem L2 Dm
/-! ### the mirrors, printed by gen.py -/
noncomputable def m__law_box : SX :=
  (sSeq (sAsg (eBin gAdd (eBin gMul (eC (.int 6151)) (eVar 1)) (eC (.int 419))) (tNm 2))
  (sSeq (sIf (cBl (eBin gLt (eVar 1) (eArgs fLen (aCons (eVar 0) aNil))))
  (sAsg (eArgs fAbs (aCons (eArgs fInt (aCons (eBin gIx (eVar 0) (eVar 1)) aNil)) aNil)) (tNm 2))
  (sIf (cBl (eBin gGt (eArgs fLen (aCons (eVar 0) aNil)) (eC (.int 0))))
  (sAsg (eBin gAdd (eVar 2) (eBin gMul (eBin gMod (eArgs fInt (aCons (eArgs fAbs (aCons (eArgs fInt (aCons (eBin gIx (eVar 0) (eBin gMod (eArgs fInt (aCons (eVar 1) aNil)) (eArgs fLen (aCons (eVar 0) aNil)))) aNil)) aNil)) aNil)) (eC (.int 2147483587))) (eC (.int 50021)))) (tNm 2))
  sPass))
  (sSeq (sAsg (eIf (cBl (eBin gGe (eVar 2) (eBin gPow (eC (.int 10)) (eC (.int 18))))) (eVar 2) (eC (.int 0))) (tNm 3))
  (sRet (eCell (lLst (aCons (eVar 3) (aCons (eBin gAdd (eBin gMod (eArgs fInt (aCons (eBin gAdd (eBin gAdd (eBin gMul (eBin gMod (eArgs fInt (aCons (eVar 2) aNil)) (eC (.int 2147483587))) (eC (.int 40692))) (eBin gMul (eC (.int 31337)) (eVar 1))) (eC (.int 11))) aNil)) (eC (.int 2147483587))) (eC (.int 1))) aNil))))))))
noncomputable def d__law_box : List D → M D := fnM 4 m__law_box
noncomputable def m_Wants___eq__ : SX :=
  (sRet (eAnd (eUn (gIsi (fK false false false false false false [(0, true)])) (eVar 1)) (eBin gEq (eUn (dFld [0] 2) (eVar 0)) (eUn (dFld [0] 2) (eVar 1)))))
noncomputable def d_Wants___eq__ : List D → M D := fnM 2 m_Wants___eq__
noncomputable def m_Wants_take_ways : SX :=
  (sSeq (sFld [0] 2 (eVar 0) (eArgs fTup (aCons (eFz (lLc [3] (iIter (eVar 1)) (tNm 3) cYes (eArgs fTup (aCons (eFz (lLc [4, 5] (iIter (eVar 3)) (tTp [(tNm 4), (tNm 5)]) cYes (eTup (aCons (eVar 4) (aCons (eVar 5) aNil))))) aNil)))) aNil)))
  (sSeq (sFld [0] 3 (eVar 0) (eArgs fLen (aCons (eUn (dFld [0] 2) (eVar 0)) aNil)))
  (sSeq (sAsg (eFz (lLc2 [3, 4, 5] (iIter (eUn (dFld [0] 2) (eVar 0))) (tNm 3) cYes [4, 5] (iIter (eVar 3)) (tTp [(tNm 4), (tNm 5)]) cYes (eVar 4))) (tNm 2))
  (sFld [0] 4 (eVar 0) (eS1 mJoin (eC (.str [])) (eFz (lLc [4] (iIter (eC (.str [97, 98, 99, 100, 48, 49]))) (tNm 4) (cBl (eBin gIn (eVar 4) (eVar 2))) (eVar 4))))))))
noncomputable def d_Wants_take_ways : List D → M D := fnM 6 m_Wants_take_ways
noncomputable def m_is_text : SX :=
  (sRet (eUn (gIsi (fK false false false true false false [])) (eVar 0)))
noncomputable def d_is_text : List D → M D := fnM 1 m_is_text
noncomputable def m_is_letter_of : SX :=
  (sRet (eAnd (eCall 1 d_is_text (aCons (eVar 0) aNil)) (eAnd (eBin gEq (eArgs fLen (aCons (eVar 0) aNil)) (eC (.int 1))) (eBin gIn (eVar 0) (eVar 1)))))
noncomputable def d_is_letter_of : List D → M D := fnM 2 m_is_letter_of
noncomputable def m_is_integer : SX :=
  (sRet (eAnd (eUn (gIsi (fK false true true false false false [])) (eVar 0)) (eNot (eUn (gIsi (fK false true false false false false [])) (eVar 0)))))
noncomputable def d_is_integer : List D → M D := fnM 1 m_is_integer
noncomputable def m_is_number : SX :=
  (sRet (eAnd (eCall 1 d_is_integer (aCons (eVar 0) aNil)) (eBin gGe (eVar 0) (eC (.int 0)))))
noncomputable def d_is_number : List D → M D := fnM 1 m_is_number
noncomputable def m_is_number_below : SX :=
  (sRet (eAnd (eCall 1 d_is_number (aCons (eVar 0) aNil)) (eBin gLt (eVar 0) (eVar 1))))
noncomputable def d_is_number_below : List D → M D := fnM 2 m_is_number_below
noncomputable def m_is_sequence : SX :=
  (sRet (eUn (gIsi (fK false false false false true true [])) (eVar 0)))
noncomputable def d_is_sequence : List D → M D := fnM 1 m_is_sequence
noncomputable def m_is_room : SX :=
  (sSeq (sIf (cNot (cTru (eCall 1 d_is_sequence (aCons (eVar 0) aNil))))
  (sRet (eC (.bl false)))
  sPass)
  (sSeq (sOwn 2 (lLst aNil))
  (sSeq (sFor (iIter (eVar 0)) (tNm 3)
  (sSeq (sIf (cOr (cNot (cTru (eCall 1 d_is_sequence (aCons (eVar 3) aNil)))) (cBl (eBin gNe (eArgs fLen (aCons (eVar 3) aNil)) (eC (.int 2)))))
  (sRet (eC (.bl false)))
  sPass)
  (sSeq (sIf (cOr (cNot (cTru (eCall 2 d_is_letter_of (aCons (eBin gIx (eVar 3) (eC (.int 0))) (aCons (eC (.str [97, 98, 99, 100, 48, 49])) aNil))))) (cNot (cTru (eCall 2 d_is_number_below (aCons (eBin gIx (eVar 3) (eC (.int 1))) (aCons (eVar 1) aNil))))))
  (sRet (eC (.bl false)))
  sPass)
  (sApp 2 (eS1 mIdx (eC (.str [97, 98, 99, 100, 48, 49])) (eBin gIx (eVar 3) (eC (.int 0))))))))
  (sRet (eArgs fAll (aCons (eFz (lLc [4] (iRng1D (eBin gSub (eArgs fLen (aCons (eVarB 2) aNil)) (eC (.int 1)))) (tNm 4) cYes (eBin gLt (eBin gIx (eVarB 2) (eVar 4)) (eBin gIx (eVarB 2) (eBin gAdd (eVar 4) (eC (.int 1))))))) aNil))))))
noncomputable def d_is_room : List D → M D := fnM 5 m_is_room
noncomputable def m_Wants___init__ : SX :=
  (sSeq (sIf (cOr (cNot (cTru (eCall 1 d_is_sequence (aCons (eVar 1) aNil)))) (cNot (cBl (eChain gLt gLe (eC (.int 0)) (eArgs fLen (aCons (eVar 1) aNil)) (eC (.int 6))))))
  (sRaise 4 [0] (aCons (eUn gNeg (eC (.int 1))) aNil))
  sPass)
  (sSeq (sFor (iEnu (eVar 1)) (tTp [(tNm 2), (tNm 3)])
  (sIf (cNot (cTru (eCall 2 d_is_room (aCons (eVar 3) (aCons (eArgs fLen (aCons (eVar 1) aNil)) aNil)))))
  (sRaise 4 [0] (aCons (eVar 2) aNil))
  sPass))
  (sExp (eMeth 0 1 2 d_Wants_take_ways (eVar 0) (aCons (eVar 1) aNil)))))
noncomputable def d_Wants___init__ : List D → M D := fnM 4 m_Wants___init__
noncomputable def m_Wants_after : SX :=
  (sSeq (sIf (cNot (cTru (eCall 2 d_is_number_below (aCons (eVar 1) (aCons (eUn (dFld [0] 3) (eVar 0)) aNil)))))
  (sRaise 6 [5] (aCons (eVar 1) aNil))
  sPass)
  (sSeq (sFor (iIter (eBin gIx (eUn (dFld [0] 2) (eVar 0)) (eVar 1))) (tTp [(tNm 3), (tNm 4)])
  (sIf (cBl (eBin gEq (eVar 3) (eVar 2)))
  (sRet (eVar 4))
  sPass))
  (sRet (eC .non))))
noncomputable def d_Wants_after : List D → M D := fnM 5 m_Wants_after
noncomputable def m_Wants_letters_at : SX :=
  (sSeq (sIf (cNot (cTru (eCall 2 d_is_number_below (aCons (eVar 1) (aCons (eUn (dFld [0] 3) (eVar 0)) aNil)))))
  (sRaise 6 [5] (aCons (eVar 1) aNil))
  sPass)
  (sRet (eS1 mJoin (eC (.str [])) (eFz (lLc [2, 3] (iIter (eBin gIx (eUn (dFld [0] 2) (eVar 0)) (eVar 1))) (tTp [(tNm 2), (tNm 3)]) cYes (eVar 2))))))
noncomputable def d_Wants_letters_at : List D → M D := fnM 4 m_Wants_letters_at
noncomputable def m_read_pairs : SX :=
  (sSeq (sIf (cBl (eBin gEq (eVar 0) (eC (.str [110, 111, 110, 101]))))
  (sRet (eTup aNil))
  sPass)
  (sSeq (sOwn2 2 3 (lLst aNil) (eFz (lLc [5] (iRng1D (eC (.int 6))) (tNm 5) cYes (eArgs fStr (aCons (eVar 5) aNil)))))
  (sSeq (sFor (iIter (eFz (lS1 mSplit (eVar 0) (eC (.str [32, 44, 32]))))) (tNm 1)
  (sSeq (sAsg (eFz (lS1 mSplit (eVar 1) (eC (.str [32])))) (tNm 4))
  (sSeq (sIf (cOr (cBl (eBin gNe (eArgs fLen (aCons (eVar 4) aNil)) (eC (.int 2)))) (cBl (eBin gNin (eBin gIx (eVar 4) (eC (.int 1))) (eVar 3))))
  (sRet (eC .non))
  sPass)
  (sApp 2 (eTup (aCons (eBin gIx (eVar 4) (eC (.int 0))) (aCons (eL1 mLIdx (eVar 3) (eBin gIx (eVar 4) (eC (.int 1)))) aNil)))))))
  (sRet (eArgs fTup (aCons (eVarB 2) aNil))))))
noncomputable def d_read_pairs : List D → M D := fnM 6 m_read_pairs
noncomputable def m_Wants_parse : SX :=
  (sSeq (sIf (cNot (cTru (eCall 1 d_is_text (aCons (eVar 0) aNil))))
  (sRaise 3 [0] (aCons (eC (.int 0)) aNil))
  sPass)
  (sSeq (sAsg (eFz (lS1 mSplit (eVar 0) (eC (.str [10])))) (tNm 1))
  (sSeq (sOwn 2 (lLst aNil))
  (sSeq (sFor (iEnu (eVar 1)) (tTp [(tNm 3), (tNm 4)])
  (sSeq (sAsg (eBin gAdd (eArgs fStr (aCons (eVar 3) aNil)) (eC (.str [58, 32]))) (tNm 5))
  (sSeq (sIf (cOr (cNot (cTru (eS1 mStarts (eVar 4) (eVar 5)))) (cBl (eBin gGe (eVar 3) (eC (.int 6)))))
  (sRaise 3 [0] (aCons (eBin gAdd (eVar 3) (eC (.int 1))) aNil))
  sPass)
  (sSeq (sAsg (eCall 1 d_read_pairs (aCons (eSl (oSome (eArgs fLen (aCons (eVar 5) aNil))) oNone (eVar 4)) aNil)) (tNm 6))
  (sSeq (sIf (cOr (cBl (eBin gIs (eVar 6) (eC .non))) (cNot (cTru (eCall 2 d_is_room (aCons (eVar 6) (aCons (eArgs fLen (aCons (eVar 1) aNil)) aNil))))))
  (sRaise 3 [0] (aCons (eBin gAdd (eVar 3) (eC (.int 1))) aNil))
  sPass)
  (sApp 2 (eVar 6)))))))
  (sFrz 2 (sRet (eMake 2 (mkD 0 d_Wants___init__) (aCons (eVar 2) aNil))))))))
noncomputable def d_Wants_parse : List D → M D := fnM 7 m_Wants_parse
noncomputable def m_Wants_text : SX :=
  (sSeq (sOwn 1 (lLst aNil))
  (sSeq (sFor (iEnu (eUn (dFld [0] 2) (eVar 0))) (tTp [(tNm 2), (tNm 3)])
  (sSeq (sAsg (eS1 mJoin (eC (.str [32, 44, 32])) (eFz (lLc [5, 6] (iIter (eVar 3)) (tTp [(tNm 5), (tNm 6)]) cYes (eBin gAdd (eBin gAdd (eVar 5) (eC (.str [32]))) (eArgs fStr (aCons (eVar 6) aNil)))))) (tNm 4))
  (sApp 1 (eBin gAdd (eBin gAdd (eArgs fStr (aCons (eVar 2) aNil)) (eC (.str [58, 32]))) (eIf (cTru (eVar 3)) (eVar 4) (eC (.str [110, 111, 110, 101])))))))
  (sRet (eS1 mJoin (eC (.str [10])) (eVarB 1)))))
noncomputable def d_Wants_text : List D → M D := fnM 7 m_Wants_text
noncomputable def m__law_take : SX :=
  (sSeq (sIf (cBl (eBin gGt (eBin gIx (eVar 0) (eC (.int 0))) (eC (.int 0))))
  (sSeq (sAsg (eBin gMod (eArgs fInt (aCons (eBin gIx (eVar 0) (eC (.int 0))) aNil)) (eVar 1)) (tNm 3))
  (sSeq (sIxR (eVar 0) (eC (.int 0)) (eBin gFdv (eBin gIx (eVar 0) (eC (.int 0))) (eVar 1)))
  (sRet (eVar 3))))
  sPass)
  (sSeq (sAsg (eBin gMod (eArgs fInt (aCons (eBin gAdd (eBin gMul (eBin gIx (eVar 0) (eC (.int 1))) (eC (.int 58111))) (eC (.int 29))) aNil)) (eC (.int 2147483543))) (tNm 2))
  (sSeq (sIxR (eVar 0) (eC (.int 1)) (eBin gAdd (eBin gMod (eArgs fInt (aCons (eBin gAdd (eBin gMul (eVar 2) (eC (.int 41143))) (eC (.int 19391))) aNil)) (eC (.int 2147483587))) (eC (.int 1))))
  (sRet (eBin gMod (eArgs fInt (aCons (eBin gFdv (eBin gAdd (eBin gMul (eVar 2) (eC (.int 2147483647))) (eBin gIx (eVar 0) (eC (.int 1)))) (eC (.int 8191))) aNil)) (eVar 1))))))
noncomputable def d__law_take : List D → M D := fnM 4 m__law_take
noncomputable def m__law_pick : SX :=
  (sRet (eBin gIx (eVar 1) (eCall 2 d__law_take (aCons (eVar 0) (aCons (eArgs fLen (aCons (eVar 1) aNil)) aNil)))))
noncomputable def d__law_pick : List D → M D := fnM 2 m__law_pick
noncomputable def m__law_bent : SX :=
  (sSeq (sAsg (eArgs fLen (aCons (eVar 1) aNil)) (tNm 3))
  (sSeq (sAsg (eBin gIx (eVar 1) (eVar 2)) (tNm 4))
  (sSeq (sAsg (eCall 2 d__law_take (aCons (eVar 0) (aCons (eC (.int 7)) aNil))) (tNm 5))
  (sSeq (sIf (cBl (eBin gEq (eVar 5) (eC (.int 0))))
  (sRet (eBin gAdd (eBin gAdd (eSl oNone (oSome (eVar 2)) (eVar 1)) (eFz (lLst (aCons (eBin gAdd (eVar 4) (eFz (lLst (aCons (eTup (aCons (eC (.str [49])) (aCons (eVar 3) aNil))) aNil)))) aNil)))) (eSl (oSome (eBin gAdd (eVar 2) (eC (.int 1)))) oNone (eVar 1))))
  sPass)
  (sSeq (sIf (cBl (eBin gEq (eVar 5) (eC (.int 1))))
  (sRet (eBin gAdd (eBin gAdd (eSl oNone (oSome (eVar 2)) (eVar 1)) (eFz (lLst (aCons (eBin gAdd (eFz (lLst (aCons (eTup (aCons (eC (.str [49])) (aCons (eC (.int 0)) aNil))) aNil))) (eFz (lLst (aCons (eTup (aCons (eC (.str [48])) (aCons (eC (.int 0)) aNil))) aNil)))) aNil)))) (eSl (oSome (eBin gAdd (eVar 2) (eC (.int 1)))) oNone (eVar 1))))
  sPass)
  (sSeq (sIf (cBl (eBin gEq (eVar 5) (eC (.int 2))))
  (sRet (eBin gAdd (eBin gAdd (eSl oNone (oSome (eVar 2)) (eVar 1)) (eFz (lLst (aCons (eFz (lLst (aCons (eTup (aCons (eC (.str [100])) (aCons (eC (.int 0)) aNil))) (aCons (eTup (aCons (eC (.str [100])) (aCons (eBin gSub (eVar 3) (eC (.int 1))) aNil))) aNil)))) aNil)))) (eSl (oSome (eBin gAdd (eVar 2) (eC (.int 1)))) oNone (eVar 1))))
  sPass)
  (sSeq (sIf (cBl (eBin gEq (eVar 5) (eC (.int 3))))
  (sRet (eBin gAdd (eBin gAdd (eSl oNone (oSome (eVar 2)) (eVar 1)) (eFz (lLst (aCons (eFz (lLst (aCons (eTup (aCons (eC (.str [48])) (aCons (eC (.int 0)) aNil))) (aCons (eTup (aCons (eC (.str [97])) (aCons (eC (.int 0)) aNil))) aNil)))) aNil)))) (eSl (oSome (eBin gAdd (eVar 2) (eC (.int 1)))) oNone (eVar 1))))
  sPass)
  (sSeq (sIf (cBl (eBin gEq (eVar 5) (eC (.int 4))))
  (sRet (eBin gAdd (eBin gAdd (eSl oNone (oSome (eVar 2)) (eVar 1)) (eFz (lLst (aCons (eCall 2 d__law_pick (aCons (eVar 0) (aCons (eFz (lLst (aCons (eC .non) (aCons (eC (.str [97, 48])) (aCons (eC (.int 0)) (aCons (eFz (lLst (aCons (eTup (aCons (eC (.str [97])) aNil)) aNil))) (aCons (eFz (lLst (aCons (eTup (aCons (eC (.str [97, 98])) (aCons (eC (.int 0)) aNil))) aNil))) (aCons (eFz (lLst (aCons (eTup (aCons (eC (.str [101])) (aCons (eC (.int 0)) aNil))) aNil))) (aCons (eFz (lLst (aCons (eTup (aCons (eC (.int 0)) (aCons (eC (.int 0)) aNil))) aNil))) (aCons (eFz (lLst (aCons (eTup (aCons (eC (.str [97])) (aCons (eC (.bl true)) aNil))) aNil))) aNil)))))))))) aNil))) aNil)))) (eSl (oSome (eBin gAdd (eVar 2) (eC (.int 1)))) oNone (eVar 1))))
  sPass)
  (sSeq (sIf (cBl (eBin gEq (eVar 5) (eC (.int 5))))
  (sRet (eBin gAdd (eBin gAdd (eSl oNone (oSome (eVar 2)) (eVar 1)) (eFz (lLst (aCons (eFz (lLst (aCons (eTup (aCons (eC (.str [97])) (aCons (eBin gSub (eC (.int 0)) (eC (.int 1))) aNil))) aNil))) aNil)))) (eSl (oSome (eBin gAdd (eVar 2) (eC (.int 1)))) oNone (eVar 1))))
  sPass)
  (sRet (eBin gAdd (eBin gAdd (eSl oNone (oSome (eVar 2)) (eVar 1)) (eFz (lLst (aCons (eFz (lLst (aCons (eTup (aCons (eC (.str [97])) (aCons (eC (.str [48])) aNil))) aNil))) aNil)))) (eSl (oSome (eBin gAdd (eVar 2) (eC (.int 1)))) oNone (eVar 1)))))))))))))
noncomputable def d__law_bent : List D → M D := fnM 6 m__law_bent
noncomputable def m_is_any_row : SX :=
  (sRet (eAnd (eCall 1 d_is_text (aCons (eVar 0) aNil)) (eAnd (eBin gLe (eArgs fLen (aCons (eVar 0) aNil)) (eC (.int 200))) (eArgs fAll (aCons (eFz (lLc [1] (iIter (eVar 0)) (tNm 1) cYes (eBin gIn (eVar 1) (eC (.str [97, 98, 99, 100, 48, 49]))))) aNil)))))
noncomputable def d_is_any_row : List D → M D := fnM 2 m_is_any_row
noncomputable def m_Wants_room_of : SX :=
  (sSeq (sIf (cNot (cTru (eCall 1 d_is_any_row (aCons (eVar 1) aNil))))
  (sRaise 2 [0] (aCons (eC (.int 0)) aNil))
  sPass)
  (sSeq (sAsg (eC (.int 0)) (tNm 2))
  (sSeq (sFor (iIter (eVar 1)) (tNm 3)
  (sSeq (sAsg (eMeth 0 6 3 d_Wants_after (eVar 0) (aCons (eVar 2) (aCons (eVar 3) aNil))) (tNm 2))
  (sIf (cBl (eBin gIs (eVar 2) (eC .non)))
  (sRet (eC .non))
  sPass)))
  (sRet (eVar 2)))))
noncomputable def d_Wants_room_of : List D → M D := fnM 4 m_Wants_room_of
noncomputable def m_Wants_wants_row : SX :=
  (sRet (eAnd (eCall 1 d_is_any_row (aCons (eVar 1) aNil)) (eBin gNis (eMeth 0 7 2 d_Wants_room_of (eVar 0) (aCons (eVar 1) aNil)) (eC .non))))
noncomputable def d_Wants_wants_row : List D → M D := fnM 2 m_Wants_wants_row
noncomputable def m_Wants_row_count : SX :=
  (sSeq (sIf (cNot (cTru (eCall 2 d_is_number_below (aCons (eVar 1) (aCons (eBin gAdd (eC (.int 200)) (eC (.int 1))) aNil)))))
  (sRaise 5 [0] (aCons (eVar 1) aNil))
  sPass)
  (sSeq (sAsg (eBin gMul (eFz (lLst (aCons (eC (.int 1)) aNil))) (eUn (dFld [0] 3) (eVar 0))) (tNm 2))
  (sSeq (sFor (iRng1D (eVar 1)) (tNm 3)
  (sAsg (eFz (lLc [4] (iIter (eUn (dFld [0] 2) (eVar 0))) (tNm 4) cYes (eArgs fSum (aCons (eFz (lLc [5, 6] (iIter (eVar 4)) (tTp [(tNm 5), (tNm 6)]) cYes (eBin gIx (eVar 2) (eVar 6)))) aNil)))) (tNm 2)))
  (sRet (eBin gIx (eVar 2) (eC (.int 0)))))))
noncomputable def d_Wants_row_count : List D → M D := fnM 7 m_Wants_row_count
noncomputable def m__law_length_fault : SX :=
  (sSeq (sTryAs [(1, false), (2, false), (3, false), (4, false), (5, true), (6, false)] 2
  (sExp (eMeth 0 9 2 d_Wants_row_count (eVar 0) (aCons (eVar 1) aNil)))
  (sRet (eBin gEq (eArgs fRepr (aCons (eExF 2 5 0) aNil)) (eArgs fRepr (aCons (eVar 1) aNil)))))
  (sRet (eC (.bl false))))
noncomputable def d__law_length_fault : List D → M D := fnM 3 m__law_length_fault
noncomputable def m__law_room_fault : SX :=
  (sSeq (sTryAs [(1, false), (2, false), (3, false), (4, false), (5, false), (6, true)] 2
  (sSeq (sExp (eMeth 0 6 3 d_Wants_after (eVar 0) (aCons (eVar 1) (aCons (eC (.str [97])) aNil))))
  (sRet (eC (.bl false))))
  (sIf (cOr (cBl (eBin gNe (eArgs fRepr (aCons (eExF 2 6 5) aNil)) (eArgs fRepr (aCons (eVar 1) aNil)))) (cTru (eExIs 2 [(6, false)])))
  (sRet (eC (.bl false)))
  sPass))
  (sSeq (sTry [(1, false), (2, false), (3, false), (4, false), (5, false), (6, true)]
  (sExp (eMeth 0 8 2 d_Wants_letters_at (eVar 0) (aCons (eVar 1) aNil)))
  (sRet (eC (.bl true))))
  (sRet (eC (.bl false)))))
noncomputable def d__law_room_fault : List D → M D := fnM 3 m__law_room_fault
noncomputable def m__law_row_fault : SX :=
  (sSeq (sTryAs [(1, false), (2, true), (3, false), (4, false), (5, false), (6, false)] 2
  (sExp (eMeth 0 7 2 d_Wants_room_of (eVar 0) (aCons (eVar 1) aNil)))
  (sRet (eBin gEq (eExF 2 2 0) (eC (.int 0)))))
  (sRet (eC (.bl false))))
noncomputable def d__law_row_fault : List D → M D := fnM 3 m__law_row_fault
noncomputable def m__law_text_fault : SX :=
  (sSeq (sTryAs [(1, false), (2, false), (3, true), (4, false), (5, false), (6, false)] 1
  (sExp (eCall 1 d_Wants_parse (aCons (eVar 0) aNil)))
  (sRet (eExF 1 3 0)))
  (sRet (eC .non)))
noncomputable def d__law_text_fault : List D → M D := fnM 2 m__law_text_fault
noncomputable def m__law_faults_right : SX :=
  (sSeq (sFor (iIter (eTup (aCons (eC (.str [101])) (aCons (eBin gMul (eC (.str [97])) (eC (.int 201))) (aCons (eC (.int 0)) (aCons (eC .non) (aCons (eFz (lLst (aCons (eC (.str [97])) aNil))) (aCons (eTup (aCons (eC (.str [97])) aNil)) (aCons (eC (.str [65])) (aCons (eC (.str [32])) aNil)))))))))) (tNm 2)
  (sIf (cOr (cBl (eBin gNis (eMeth 0 10 2 d_Wants_wants_row (eVar 1) (aCons (eVar 2) aNil)) (eC (.bl false)))) (cNot (cTru (eCall 2 d__law_row_fault (aCons (eVar 1) (aCons (eVar 2) aNil))))))
  (sRet (eC (.bl false)))
  sPass))
  (sSeq (sFor (iIter (eTup (aCons (eBin gSub (eC (.int 0)) (eC (.int 1))) (aCons (eC (.int 201)) (aCons (eC .non) (aCons (eC (.str [50])) (aCons (eC (.bl true)) aNil))))))) (tNm 2)
  (sIf (cNot (cTru (eCall 2 d__law_length_fault (aCons (eVar 1) (aCons (eVar 2) aNil)))))
  (sRet (eC (.bl false)))
  sPass))
  (sSeq (sFor (iIter (eTup (aCons (eArgs fLen (aCons (eVar 0) aNil)) (aCons (eBin gSub (eC (.int 0)) (eC (.int 1))) (aCons (eC .non) (aCons (eC (.str [48])) (aCons (eC (.bl false)) aNil))))))) (tNm 2)
  (sIf (cNot (cTru (eCall 2 d__law_room_fault (aCons (eVar 1) (aCons (eVar 2) aNil)))))
  (sRet (eC (.bl false)))
  sPass))
  (sSeq (sAsg (eS1 mJoin (eC (.str [10])) (eFz (lLc [4] (iRng1D (eC (.int 7))) (tNm 4) cYes (eBin gAdd (eArgs fStr (aCons (eVar 4) aNil)) (eC (.str [58, 32, 110, 111, 110, 101])))))) (tNm 3))
  (sRet (eAnd (eBin gEq (eCall 1 d__law_text_fault (aCons (eVar 3) aNil)) (eC (.int 7))) (eAnd (eBin gIs (eCall 1 d__law_text_fault (aCons (eSl oNone (oSome (eBin gSub (eArgs fLen (aCons (eVar 3) aNil)) (eC (.int 8)))) (eVar 3)) aNil)) (eC .non)) (eBin gEq (eCall 1 d__law_text_fault (aCons (eC .non) aNil)) (eC (.int 0))))))))))
noncomputable def d__law_faults_right : List D → M D := fnM 5 m__law_faults_right
noncomputable def m__law_steps : SX :=
  (sSeq (sOwn2 4 5 (lLst aNil) (eBin gAdd (eC (.int 1)) (eCall 2 d__law_take (aCons (eVar 0) (aCons (eVar 2) aNil)))))
  (sSeq (sFor (iRng1D (eVar 5)) (tNm 3)
  (sSeq (sOwn 6 (lLst aNil))
  (sSeq (sFor (iIter (eVar 1)) (tNm 7)
  (sIf (cBl (eBin gGt (eCall 2 d__law_take (aCons (eVar 0) (aCons (eC (.int 2)) aNil))) (eC (.int 0))))
  (sApp 6 (eTup (aCons (eVar 7) (aCons (eCall 2 d__law_take (aCons (eVar 0) (aCons (eVar 5) aNil))) aNil))))
  sPass))
  (sFrz 6 (sApp 4 (eVar 6))))))
  (sFrz 4 (sRet (eVar 4)))))
noncomputable def d__law_steps : List D → M D := fnM 8 m__law_steps
noncomputable def m__law_text : SX :=
  (sSeq (sOwn 1 (lLst aNil))
  (sSeq (sFor (iEnu (eVar 0)) (tTp [(tNm 2), (tNm 3)])
  (sSeq (sAsg (eS1 mJoin (eC (.str [32, 44, 32])) (eFz (lLc [5, 6] (iIter (eVar 3)) (tTp [(tNm 5), (tNm 6)]) cYes (eBin gAdd (eBin gAdd (eVar 5) (eC (.str [32]))) (eArgs fStr (aCons (eVar 6) aNil)))))) (tNm 4))
  (sApp 1 (eBin gAdd (eBin gAdd (eArgs fStr (aCons (eVar 2) aNil)) (eC (.str [58, 32]))) (eIf (cBl (eBin gNe (eVar 3) (eFz (lLst aNil)))) (eVar 4) (eC (.str [110, 111, 110, 101])))))))
  (sRet (eS1 mJoin (eC (.str [10])) (eVarB 1)))))
noncomputable def d__law_text : List D → M D := fnM 7 m__law_text
noncomputable def m__law_count : SX :=
  (sSeq (sAsg (eBin gMul (eFz (lLst (aCons (eC (.int 1)) aNil))) (eArgs fLen (aCons (eVar 0) aNil))) (tNm 2))
  (sSeq (sFor (iRng1D (eVar 1)) (tNm 3)
  (sAsg (eFz (lLc [4] (iIter (eVar 0)) (tNm 4) cYes (eArgs fSum (aCons (eFz (lLc [5, 6] (iIter (eVar 4)) (tTp [(tNm 5), (tNm 6)]) cYes (eBin gIx (eVar 2) (eVar 6)))) aNil)))) (tNm 2)))
  (sRet (eBin gIx (eVar 2) (eC (.int 0))))))
noncomputable def d__law_count : List D → M D := fnM 7 m__law_count
noncomputable def m__law_walk : SX :=
  (sSeq (sAsg (eC (.int 0)) (tNm 2))
  (sSeq (sFor (iIter (eVar 1)) (tNm 3)
  (sSeq (sAsg (eFz (lLc [5, 6] (iIter (eBin gIx (eVar 0) (eVar 2))) (tTp [(tNm 5), (tNm 6)]) (cBl (eBin gEq (eVar 5) (eVar 3))) (eVar 6))) (tNm 4))
  (sSeq (sIf (cBl (eBin gEq (eVar 4) (eFz (lLst aNil))))
  (sRet (eC .non))
  sPass)
  (sAsg (eBin gIx (eVar 4) (eC (.int 0))) (tNm 2)))))
  (sRet (eVar 2))))
noncomputable def d__law_walk : List D → M D := fnM 7 m__law_walk
noncomputable def m__law_walked_right : SX :=
  (sSeq (sAsg (eC (.str [])) (tNm 3))
  (sSeq (sFor (iRng1D (eC (.int 8))) (tNm 4)
  (sSeq (sAsg (eCall 2 d__law_walk (aCons (eVar 1) (aCons (eVar 3) aNil))) (tNm 6))
  (sSeq (sIf (cOr (cBl (eBin gNe (eArgs fRepr (aCons (eMeth 0 7 2 d_Wants_room_of (eVar 2) (aCons (eVar 3) aNil)) aNil)) (eArgs fRepr (aCons (eVar 6) aNil)))) (cBl (eBin gNe (eArgs fRepr (aCons (eMeth 0 10 2 d_Wants_wants_row (eVar 2) (aCons (eVar 3) aNil)) aNil)) (eArgs fRepr (aCons (eBin gNis (eVar 6) (eC .non)) aNil)))))
  (sRet (eC (.bl false)))
  sPass)
  (sSeq (sAsg (eIf (cBl (eBin gIs (eVar 6) (eC .non))) (eC (.str [])) (eMeth 0 8 2 d_Wants_letters_at (eVar 2) (aCons (eVar 6) aNil))) (tNm 7))
  (sAsg (eBin gAdd (eVar 3) (eIf (cAnd (cBl (eBin gNe (eVar 7) (eC (.str [])))) (cBl (eBin gGt (eCall 2 d__law_take (aCons (eVar 0) (aCons (eC (.int 6)) aNil))) (eC (.int 0))))) (eCall 2 d__law_pick (aCons (eVar 0) (aCons (eVar 7) aNil))) (eCall 2 d__law_pick (aCons (eVar 0) (aCons (eC (.str [97, 98, 99, 100, 48, 49])) aNil))))) (tNm 3))))))
  (sSeq (sAsg (eBin gMul (eCall 2 d__law_pick (aCons (eVar 0) (aCons (eC (.str [97, 98, 99, 100, 48, 49])) aNil))) (eCall 2 d__law_pick (aCons (eVar 0) (aCons (eFz (lLst (aCons (eC (.int 200)) (aCons (eC (.int 199)) (aCons (eC (.int 7)) aNil))))) aNil)))) (tNm 3))
  (sSeq (sAsg (eCall 2 d__law_pick (aCons (eVar 0) (aCons (eFz (lLst (aCons (eC (.int 0)) (aCons (eC (.int 1)) (aCons (eC (.int 2)) (aCons (eC (.int 3)) (aCons (eC (.int 200)) (aCons (eCall 2 d__law_take (aCons (eVar 0) (aCons (eC (.int 40)) aNil))) aNil)))))))) aNil))) (tNm 5))
  (sSeq (sIf (cBl (eBin gNe (eArgs fRepr (aCons (eMeth 0 7 2 d_Wants_room_of (eVar 2) (aCons (eVar 3) aNil)) aNil)) (eArgs fRepr (aCons (eCall 2 d__law_walk (aCons (eVar 1) (aCons (eVar 3) aNil))) aNil))))
  (sRet (eC (.bl false)))
  sPass)
  (sRet (eBin gEq (eArgs fRepr (aCons (eMeth 0 9 2 d_Wants_row_count (eVar 2) (aCons (eVar 5) aNil)) aNil)) (eArgs fRepr (aCons (eCall 2 d__law_count (aCons (eVar 1) (aCons (eVar 5) aNil))) aNil)))))))))
noncomputable def d__law_walked_right : List D → M D := fnM 8 m__law_walked_right
noncomputable def m__law_wants_fault : SX :=
  (sSeq (sTryAs [(1, false), (2, false), (3, false), (4, true), (5, false), (6, false)] 1
  (sExp (eMake 2 (mkD 0 d_Wants___init__) (aCons (eVar 0) aNil)))
  (sRet (eIf (cAnd (cTru (eExIs 1 [(4, true)])) (cNot (cTru (eExIs 1 [(4, false)])))) (eExF 1 4 0) (eC (.str [119, 114, 111, 110, 103])))))
  (sRet (eC .non)))
noncomputable def d__law_wants_fault : List D → M D := fnM 2 m__law_wants_fault
noncomputable def m__law_case_right : SX :=
  (sSeq (sAsg (eCall 2 d__law_pick (aCons (eVar 0) (aCons (eFz (lLst (aCons (eC (.str [97, 98, 99, 100, 48, 49])) (aCons (eC (.str [97, 98])) (aCons (eC (.str [98, 48])) (aCons (eC (.str [97, 99, 100, 49])) (aCons (eC (.str [100])) aNil))))))) aNil))) (tNm 1))
  (sSeq (sAsg (eCall 3 d__law_steps (aCons (eVar 0) (aCons (eVar 1) (aCons (eC (.int 6)) aNil)))) (tNm 2))
  (sSeq (sPar2 9 10 (eArgs fRepr (aCons (eVar 2) aNil)) (eCell (lLc [14] (iIter (eVar 2)) (tNm 14) cYes (eCell (lArgs lList (aCons (eVar 14) aNil))))))
  (sSeq (sPar2 11 12 (eMake 2 (mkD 0 d_Wants___init__) (aCons (eVar 10) aNil)) (eMake 2 (mkD 0 d_Wants___init__) (aCons (eArgs fTup (aCons (eFz (lLc [14] (iIter (eVar 2)) (tNm 14) cYes (eArgs fTup (aCons (eVar 14) aNil)))) aNil)) aNil)))
  (sSeq (sAppR (eBin gIx (eVar 10) (eC (.int 0))) (eTup (aCons (eC (.str [49])) (aCons (eC (.int 0)) aNil))))
  (sSeq (sAppR (eVar 10) (eCell (lLst aNil)))
  (sSeq (sAsg (eFz (lLc [15, 17] (iIter (eArgs fSumL (aCons (eVar 2) (aCons (eFz (lLst aNil)) aNil)))) (tTp [(tNm 15), (tNm 17)]) cYes (eVar 15))) (tNm 3))
  (sSeq (sIf (cOr (cBl (eBin gNe (eArgs fRepr (aCons (eUn (dFld [0] 2) (eVar 11)) aNil)) (eArgs fRepr (aCons (eArgs fTup (aCons (eFz (lLc [14] (iIter (eVar 2)) (tNm 14) cYes (eArgs fTup (aCons (eVar 14) aNil)))) aNil)) aNil)))) (cBl (eBin gNe (eArgs fRepr (aCons (eUn (dFld [0] 3) (eVar 11)) aNil)) (eArgs fRepr (aCons (eArgs fLen (aCons (eVar 2) aNil)) aNil)))))
  (sRet (eC (.bl false)))
  sPass)
  (sSeq (sIf (cOr (cBl (eBin gNe (eUn (dFld [0] 4) (eVar 11)) (eS1 mJoin (eC (.str [])) (eFz (lLc [15] (iIter (eC (.str [97, 98, 99, 100, 48, 49]))) (tNm 15) (cBl (eBin gIn (eVar 15) (eVar 3))) (eVar 15)))))) (cOr (cBl (eBin (gONe 0 (nfK 0) d_Wants___eq__) (eVar 11) (eVar 12))) (cBl (eBin gNe (eArgs fRepr (aCons (eVar 2) aNil)) (eVar 9)))))
  (sRet (eC (.bl false)))
  sPass)
  (sSeq (sFor (iEnu (eVar 2)) (tTp [(tNm 13), (tNm 14)])
  (sSeq (sIf (cBl (eBin gNe (eMeth 0 8 2 d_Wants_letters_at (eVar 11) (aCons (eVar 13) aNil)) (eS1 mJoin (eC (.str [])) (eFz (lLc [15, 17] (iIter (eVar 14)) (tTp [(tNm 15), (tNm 17)]) cYes (eVar 15))))))
  (sRet (eC (.bl false)))
  sPass)
  (sFor (iIter (eC (.str [97, 98, 99, 100, 48, 49]))) (tNm 15)
  (sSeq (sAsg (eFz (lLc [19, 17] (iIter (eVar 14)) (tTp [(tNm 19), (tNm 17)]) (cBl (eBin gEq (eVar 19) (eVar 15))) (eVar 17))) (tNm 16))
  (sIf (cBl (eBin gNe (eArgs fRepr (aCons (eMeth 0 6 3 d_Wants_after (eVar 11) (aCons (eVar 13) (aCons (eVar 15) aNil))) aNil)) (eArgs fRepr (aCons (eIf (cBl (eBin gNe (eVar 16) (eFz (lLst aNil)))) (eBin gIx (eVar 16) (eC (.int 0))) (eC .non)) aNil))))
  (sRet (eC (.bl false)))
  sPass)))))
  (sSeq (sIf (cOr (cBl (eBin gNis (eMeth 0 6 3 d_Wants_after (eVar 11) (aCons (eC (.int 0)) (aCons (eC (.str [97, 98])) aNil))) (eC .non))) (cBl (eBin gNis (eMeth 0 6 3 d_Wants_after (eVar 11) (aCons (eC (.int 0)) (aCons (eC .non) aNil))) (eC .non))))
  (sRet (eC (.bl false)))
  sPass)
  (sSeq (sIf (cOr (cNot (cTru (eCall 3 d__law_walked_right (aCons (eVar 0) (aCons (eVar 2) (aCons (eVar 11) aNil)))))) (cNot (cTru (eCall 2 d__law_faults_right (aCons (eVar 2) (aCons (eVar 11) aNil))))))
  (sRet (eC (.bl false)))
  sPass)
  (sSeq (sAsg (eCall 1 d__law_text (aCons (eVar 2) aNil)) (tNm 4))
  (sSeq (sIf (cOr (cBl (eBin gNe (eProp 0 1 d_Wants_text (eVar 11)) (eVar 4))) (cOr (cBl (eBin (gONe 0 (nfK 0) d_Wants___eq__) (eCall 1 d_Wants_parse (aCons (eVar 4) aNil)) (eVar 11))) (cBl (eBin gNe (eUn (dFld [0] 2) (eCall 1 d_Wants_parse (aCons (eVar 4) aNil))) (eUn (dFld [0] 2) (eVar 11))))))
  (sRet (eC (.bl false)))
  sPass)
  (sSeq (sAsg (eCall 2 d__law_take (aCons (eVar 0) (aCons (eArgs fLen (aCons (eVar 2) aNil)) aNil))) (tNm 5))
  (sSeq (sAsg (eFz (lS1 mSplit (eVar 4) (eC (.str [10])))) (tNm 6))
  (sSeq (sAsg (eCall 2 d__law_pick (aCons (eVar 0) (aCons (eFz (lLst (aCons (eBin gAdd (eBin gIx (eVar 6) (eVar 5)) (eC (.str [32]))) (aCons (eSl (oSome (eC (.int 1))) oNone (eBin gIx (eVar 6) (eVar 5))) (aCons (eBin gAdd (eArgs fStr (aCons (eVar 5) aNil)) (eC (.str [58, 32]))) (aCons (eBin gAdd (eArgs fStr (aCons (eVar 5) aNil)) (eC (.str [58, 32, 101, 32, 48]))) (aCons (eBin gAdd (eArgs fStr (aCons (eVar 5) aNil)) (eC (.str [58, 32, 97, 32, 57]))) (aCons (eBin gAdd (eArgs fStr (aCons (eVar 5) aNil)) (eC (.str [58, 32, 97, 32, 48, 48]))) (aCons (eC (.str [])) aNil))))))))) aNil))) (tNm 7))
  (sSeq (sIf (cBl (eBin gNe (eCall 1 d__law_text_fault (aCons (eS1 mJoin (eC (.str [10])) (eBin gAdd (eBin gAdd (eSl oNone (oSome (eVar 5)) (eVar 6)) (eFz (lLst (aCons (eVar 7) aNil)))) (eSl (oSome (eBin gAdd (eVar 5) (eC (.int 1)))) oNone (eVar 6)))) aNil)) (eBin gAdd (eVar 5) (eC (.int 1)))))
  (sRet (eC (.bl false)))
  sPass)
  (sSeq (sIf (cOr (cBl (eBin gNe (eCall 1 d__law_wants_fault (aCons (eCall 3 d__law_bent (aCons (eVar 0) (aCons (eVar 2) (aCons (eVar 5) aNil)))) aNil)) (eVar 5))) (cBl (eBin gNis (eCall 1 d__law_wants_fault (aCons (eVar 2) aNil)) (eC .non))))
  (sRet (eC (.bl false)))
  sPass)
  (sSeq (sAsg (eBin gAdd (eBin gAdd (eSl oNone (oSome (eVar 5)) (eVar 2)) (eFz (lLst (aCons (eBin gAdd (eFz (lLc [20] (iIter (eBin gIx (eVar 2) (eVar 5))) (tNm 20) (cBl (eBin gNe (eBin gIx (eVar 20) (eC (.int 0))) (eC (.str [97])))) (eVar 20))) (eFz (lLst aNil))) aNil)))) (eSl (oSome (eBin gAdd (eVar 5) (eC (.int 1)))) oNone (eVar 2))) (tNm 8))
  (sSeq (sIf (cOr (cBl (eBin gNe (eBin (gOE 0 (nfK 0) d_Wants___eq__) (eMake 2 (mkD 0 d_Wants___init__) (aCons (eVar 8) aNil)) (eVar 11)) (eBin gEq (eArgs fRepr (aCons (eVar 8) aNil)) (eArgs fRepr (aCons (eVar 2) aNil))))) (cBl (eBin (gOE 0 (nfK 0) d_Wants___eq__) (eVar 11) (eUn (dFld [0] 2) (eVar 11)))))
  (sRet (eC (.bl false)))
  sPass)
  (sRet (eBin gEq (eFz (lLc [18] (iIter (eTup (aCons (eFz (lLst aNil)) (aCons (eTup aNil) (aCons (eC .non) (aCons (eC (.int 0)) (aCons (eC (.str [97, 98])) (aCons (eBin gMul (eFz (lLst (aCons (eFz (lLst aNil)) aNil))) (eC (.int 7))) aNil)))))))) (tNm 18) cYes (eCall 1 d__law_wants_fault (aCons (eVar 18) aNil)))) (eBin gMul (eFz (lLst (aCons (eBin gSub (eC (.int 0)) (eC (.int 1))) aNil))) (eC (.int 6))))))))))))))))))))))))))
noncomputable def d__law_case_right : List D → M D := fnM 21 m__law_case_right
noncomputable def m_law : SX :=
  (sSeq (sFor (iRng1D (eC (.int 2))) (tNm 1)
  (sIf (cNot (cTru (eCall 1 d__law_case_right (aCons (eCall 2 d__law_box (aCons (eVar 0) (aCons (eVar 1) aNil))) aNil))))
  (sRet (eC (.bl false)))
  sPass))
  (sRet (eC (.bl true))))
noncomputable def d_law : List D → M D := fnM 2 m_law
end K75
set_option maxRecDepth 100000
set_option maxHeartbeats 2000000
/-! Plain: how a mirror is run by rewriting. -/
namespace Dm
set_option autoImplicit false
section
variable {α β : Type}
theorem bnd_ap {m : M α} {k : α → M β} {S : Sto} : bnd m k S = match m S with
  | .ok a S' => k a S'
  | .er x S' => .er x S'
  | .no => .no := rfl
theorem onS_ok {a : α} {S : Sto} {r : Ev} {k : α → Sto → SO} : onS (.ok a S) r k = k a S := rfl
theorem onS_er {x : Exc} {S : Sto} {r : Ev} {k : α → Sto → SO} : onS (.er x S) r k = .er x r S := rfl
theorem need_t {m : M α} : need true m = m := rfl
end
/-- a draw's cell -/
def Bx (n : Nat) (S : Sto) : Prop := ∃ g s : Int, S[n]? = some (.lst [.int g, .int s]) ∧ 0 ≤ s ∧ s ≤ 4294967296
/-- what runs leave of the other cells -/
structure Kp (n : Nat) (S S' : Sto) : Prop where
  len : S'.length = S.length
  oth : ∀ j, j ≠ n → S'[j]? = S[j]?
theorem Kp.refl (n : Nat) (S : Sto) : Kp n S S := ⟨rfl, fun _ _ => rfl⟩
theorem Kp.trans {n : Nat} {S S1 S2 : Sto} (a : Kp n S S1) (b : Kp n S1 S2) : Kp n S S2 := ⟨b.len.trans a.len, fun j h => (b.oth j h).trans (a.oth j h)⟩
theorem Kp.set {n : Nat} {S : Sto} {c : Cell} : Kp n S (S.set n c) := ⟨List.length_set, fun j h => List.getElem?_set_ne (Ne.symm h)⟩
theorem set_at {n : Nat} {S : Sto} {c c' : Cell} (h : S[n]? = some c) : (S.set n c')[n]? = some c' := List.getElem?_set_self (List.getElem?_eq_some_iff.mp h).1
/-- a def's end -/
def outS (o : SO) : Out D := match o with
  | .nx _ S' => .ok .non S'
  | .rt d S' => .ok d S'
  | .er x _ S' => .er x S'
  | _ => .no
theorem fnM_ap {N : Nat} {g : SX} {ds : List D} {S : Sto} : fnM N g ds S = outS (g (ds.map Sl.sh ++ List.replicate (N - ds.length) Sl.un) S) := rfl
section
variable {a b : SX} {r r' : Ev} {S S' : Sto} {d : D} {x : Exc}
theorem seq_nx (h : a r S = .nx r' S') : sSeq a b r S = b r' S' := by unfold sSeq; rw [h]
theorem seq_rt (h : a r S = .rt d S') : sSeq a b r S = .rt d S' := by unfold sSeq; rw [h]
theorem seq_er (h : a r S = .er x r' S') : sSeq a b r S = .er x r' S' := by unfold sSeq; rw [h]
theorem if_t {c : CX} (h : c r S = .ok true S') : sIf c a b r S = a r S' := by unfold sIf; rw [h]; rfl
theorem if_f {c : CX} (h : c r S = .ok false S') : sIf c a b r S = b r S' := by unfold sIf; rw [h]; rfl
theorem asg_nm {e : EX} {i : Nat} (h : e r S = .ok d S') : sAsg e (tNm i) r S = .nx (r.set i (.sh d)) S' := by unfold sAsg; rw [h]; rfl
theorem ret_e {e : EX} (h : e r S = .ok d S') : sRet e r S = .rt d S' := by unfold sRet; rw [h]; rfl
theorem ret_er {e : EX} (h : e r S = .er x S') : sRet e r S = .er x r S' := by unfold sRet; rw [h]; rfl
end
/-! ### comprehensions -/
section
variable {ok : Sto → Prop} {S : Sto} {src : IX} {t : TX} {c : CX} {e : EX} {r : Ev} {own : List Nat} {α : Type}
theorem fil_all {xs : List α} : xs.filter (fun _ => true) = xs := List.filter_eq_self.mpr fun _ _ => rfl
theorem lcF_fil (hok : ok S) {g : α → D} {p : α → Bool} {f : α → D} : ∀ xs : List α, (∀ x ∈ xs, ∃ r1, t (g x) r = some r1 ∧ c r1 S = .ok (p x) S ∧ (p x = true → e r1 S = .ok (f x) S)) → lcF ok t c e r (xs.map g) S = .ok ((xs.filter p).map f) S
  | [], _ => by simp [lcF, hok]
  | x :: xs, h => by
    obtain ⟨r1, h1, h2, h3⟩ := h x List.mem_cons_self
    have ih := lcF_fil hok xs fun d hd => h d (List.mem_cons_of_mem _ hd)
    cases q : p x with
    | true =>
      rw [q] at h2
      have h3 := h3 q
      simp [lcF, hok, h1, bnd_ap, h2, h3, ih, q, pur]
    | false =>
      rw [q] at h2
      simp [lcF, hok, h1, bnd_ap, h2, ih, q]
theorem lc_fil {g : α → D} {p : α → Bool} {f : α → D} {xs : List α} (hs : src r S = .ok ⟨xs.map g, ok⟩ S) (hok : ok S) (hl : xs.length ≤ LIM) (h : ∀ x ∈ xs, ∃ r1, t (g x) (wipeD r own) = some r1 ∧ c r1 S = .ok (p x) S ∧ (p x = true → e r1 S = .ok (f x) S)) :
    lLc own src t c e r S = .ok ((xs.filter p).map f) S := by
  have e1 := lcF_fil (r := wipeD r own) (c := c) (e := e) hok xs h
  have e2 : ((xs.filter p).map f).length ≤ LIM := by rw [List.length_map]; exact Nat.le_trans (List.length_filter_le _ _) hl
  unfold lLc
  rw [bnd_ap, hs]
  simp only []
  rw [bnd_ap]
  unfold noE
  rw [e1]
  simp only [need, e2, decide_true, if_true, pur]
theorem lc_map {g f : α → D} {xs : List α} (hs : src r S = .ok ⟨xs.map g, ok⟩ S) (hok : ok S) (hl : xs.length ≤ LIM) (h : ∀ x ∈ xs, ∃ r1, t (g x) (wipeD r own) = some r1 ∧ e r1 S = .ok (f x) S) :
    lLc own src t cYes e r S = .ok (xs.map f) S := by
  have := lc_fil (c := cYes) (p := fun _ => true) (f := f) hs hok hl fun x hx => by
    obtain ⟨r1, h1, h2⟩ := h x hx
    exact ⟨r1, h1, rfl, fun _ => h2⟩
  rw [fil_all] at this
  exact this
theorem lcF2_map {src1 : IX} {t1 : TX} {own1 : List Nat} (hok : ok S) {g : α → D} {β : Type} {ys : α → List β} {g1 f : β → D} : ∀ xs : List α, (∀ x ∈ xs, ∃ r1 ok1, t (g x) r = some r1 ∧ src1 r1 S = .ok ⟨(ys x).map g1, ok1⟩ S ∧ ok1 S ∧ ∀ y ∈ ys x, ∃ r2, t1 (g1 y) (wipeD r1 own1) = some r2 ∧ e r2 S = .ok (f y) S) →
    lcF2 ok t cYes own1 src1 t1 cYes e r (xs.map g) S = .ok ((xs.flatMap ys).map f) S
  | [], _ => by simp [lcF2, hok]
  | x :: xs, h => by
    obtain ⟨r1, ok1, h1, h2, h3, h4⟩ := h x List.mem_cons_self
    have ih := lcF2_map (own1 := own1) hok xs fun d hd => h d (List.mem_cons_of_mem _ hd)
    have e1 := lcF_fil (t := t1) (c := cYes) (e := e) (r := wipeD r1 own1) (p := fun _ => true) (f := f) h3 (ys x) fun y hy => by
      obtain ⟨r2, q1, q2⟩ := h4 y hy
      exact ⟨r2, q1, rfl, fun _ => q2⟩
    rw [fil_all] at e1
    simp [lcF2, hok, h1, bnd_ap, cYes, pur, h2] at e1 ih ⊢
    rw [e1]
    simp only []
    rw [ih]
theorem lc2_map {src1 : IX} {t1 : TX} {own1 : List Nat} {g : α → D} {β : Type} {ys : α → List β} {g1 f : β → D} {xs : List α} (hs : src r S = .ok ⟨xs.map g, ok⟩ S) (hok : ok S) (hl : (xs.flatMap ys).length ≤ LIM) (h : ∀ x ∈ xs, ∃ r1 ok1, t (g x) (wipeD r own) = some r1 ∧ src1 r1 S = .ok ⟨(ys x).map g1, ok1⟩ S ∧ ok1 S ∧ ∀ y ∈ ys x, ∃ r2, t1 (g1 y) (wipeD r1 own1) = some r2 ∧ e r2 S = .ok (f y) S) :
    lLc2 own src t cYes own1 src1 t1 cYes e r S = .ok ((xs.flatMap ys).map f) S := by
  have e1 := lcF2_map (r := wipeD r own) (own1 := own1) hok xs h
  have e2 : ((xs.flatMap ys).map f).length ≤ LIM := by rw [List.length_map]; exact hl
  unfold lLc2
  rw [bnd_ap, hs]
  simp only []
  rw [bnd_ap]
  unfold noE
  rw [e1]
  simp only [need, e2, decide_true, if_true, pur]
end
end Dm
set_option maxRecDepth 100000
set_option maxHeartbeats 2000000
/-! Plain: the combinators as rules of rewriting. -/
namespace Dm
set_option autoImplicit false
section
variable {r r' : Ev} {S S' : Sto} {a b c : EX} {d x y : D} {i j k m n : Nat} {α β : Type}
@[simp] theorem a_pur {a : α} : pur a S = .ok a S := rfl
@[simp] theorem a_stk : (stk : M α) S = .no := rfl
@[simp] theorem a_bnd {m : M α} {k : α → M β} : bnd m k S = match m S with
  | .ok a S' => k a S'
  | .er x S' => .er x S'
  | .no => .no := rfl
@[simp] theorem a_eVar : eVar i r S = match r[i]? with
  | some (.sh d) => .ok d S
  | _ => .no := by
  unfold eVar; generalize r[i]? = o
  match o with
  | none => rfl
  | some .un => rfl
  | some (.sh _) => rfl
  | some (.ow _) => rfl
  | some (.ex _) => rfl
@[simp] theorem a_eVarB : eVarB i r S = match r[i]? with
  | some (.sh d) => .ok d S
  | some (.ow xs) => .ok (.lst xs) S
  | _ => .no := by
  unfold eVarB; generalize r[i]? = o
  match o with
  | none => rfl
  | some .un => rfl
  | some (.sh _) => rfl
  | some (.ow _) => rfl
  | some (.ex _) => rfl
@[simp] theorem a_eC : eC d r S = .ok d S := rfl
@[simp] theorem a_eUn {g : D → M D} : eUn g a r S = bnd (a r) g S := rfl
@[simp] theorem a_eBin {g : D → D → M D} : eBin g a b r S = bnd (a r) (fun x => bnd (b r) fun y => g x y) S := rfl
@[simp] theorem a_aNil : aNil r S = .ok [] S := rfl
@[simp] theorem a_aCons {t : AX} : aCons a t r S = bnd (a r) (fun x => bnd (t r) fun xs => pur (x :: xs)) S := rfl
@[simp] theorem a_eArgs {f : List D → M D} {t : AX} : eArgs f t r S = bnd (t r) f S := rfl
@[simp] theorem a_lArgs {f : List D → M (List D)} {t : AX} : lArgs f t r S = bnd (t r) f S := rfl
@[simp] theorem a_eTup {t : AX} : eTup t r S = bnd (t r) (fun xs => need (decide (xs.length ≤ LIM)) (pur (.tup xs))) S := rfl
@[simp] theorem a_lLst {t : AX} : lLst t r S = bnd (t r) (fun xs => need (decide (xs.length ≤ LIM)) (pur xs)) S := rfl
@[simp] theorem a_eFz {l : LX} : eFz l r S = bnd (l r) (fun xs => pur (.lst xs)) S := rfl
@[simp] theorem a_eCell {l : LX} : eCell l r S = bnd (l r) (fun xs S => .ok (.ref S.length) (S ++ [.lst xs])) S := rfl
@[simp] theorem a_cTru {e : EX} : cTru e r S = bnd (e r) dTru S := rfl
@[simp] theorem a_cNot {c : CX} : cNot c r S = bnd (c r) (fun b => pur (!b)) S := rfl
@[simp] theorem a_cAnd {c d : CX} : cAnd c d r S = bnd (c r) (fun b => if b = true then d r else pur false) S := rfl
@[simp] theorem a_cOr {c d : CX} : cOr c d r S = bnd (c r) (fun b => if b = true then pur true else d r) S := rfl
@[simp] theorem a_eAnd : eAnd a b r S = bnd (a r) (fun x => bnd (dTru x) fun t => if t = true then b r else pur x) S := rfl
@[simp] theorem a_eOr : eOr a b r S = bnd (a r) (fun x => bnd (dTru x) fun t => if t = true then pur x else b r) S := rfl
@[simp] theorem a_eNot : eNot a r S = bnd (a r) (fun x => bnd (dTru x) fun t => pur (.bl (!t))) S := rfl
@[simp] theorem a_eIf {c : CX} : eIf c a b r S = bnd (c r) (fun t => if t = true then a r else b r) S := rfl
@[simp] theorem a_cYes : cYes r S = .ok true S := rfl
@[simp] theorem a_cBl : cBl a r S = bnd (a r) asBl S := rfl
@[simp] theorem a_asBl {b : Bool} : asBl (.bl b) S = .ok b S := rfl
@[simp] theorem a_ite {p : Prop} [Decidable p] {m m' : M α} : (if p then m else m') S = if p then m S else m' S := by split <;> rfl
@[simp] theorem a_eCall {f : List D → M D} {t : AX} : eCall n f t r S = bnd (t r) (fun ds => need (ds.length == n) (f ds)) S := rfl
@[simp] theorem a_eMake {f : List D → M D} {t : AX} : eMake n f t r S = bnd (t r) (fun ds => need (ds.length + 1 == n) (f ds)) S := rfl
@[simp] theorem a_iIter : iIter a r S = bnd (a r) dIter S := rfl
@[simp] theorem a_tNm : tNm i d r = some (r.set i (.sh d)) := rfl
@[simp] theorem a_needf {m : M α} : need false m S = .no := rfl
@[simp] theorem a_need1 {l : List D} {m : M α} {S : Sto} (h : l.length ≤ LIM) : need (decide (l.length ≤ LIM)) m S = m S := by simp [need, h]
@[simp] theorem lim1 : (0 ≤ LIM) = True := by simp
@[simp] theorem lim2 : ((n + 1 ≤ LIM) = (n < LIM)) := rfl
/-- statements -/
@[simp] theorem x_seq {a b : SX} : sSeq a b r S = match a r S with
  | .nx r' S' => b r' S'
  | .rt d S' => .rt d S'
  | .bk r' S' => .bk r' S'
  | .ct r' S' => .ct r' S'
  | .er x r' S' => .er x r' S'
  | .no => .no := by
  unfold sSeq; cases a r S <;> rfl
end
/-! ### steps in a fixed store -/
section
variable {r r' : Ev} {S S' S1 S2 S3 : Sto} {a b c e : EX} {d x y z : D} {i j k m n : Nat} {α β : Type}
theorem bnd_k {m : M α} {k : α → M β} {a : α} {o : Out β} (h : m S = .ok a S1) (h2 : k a S1 = o) : bnd m k S = o := by unfold bnd; rw [h]; exact h2
theorem c_args1 {f : List D → M D} {o : Out D} (h : a r S = .ok x S1) (hf : f [x] S1 = o) : eArgs f (aCons a aNil) r S = o := bnd_k (bnd_k h rfl) hf
theorem c_args2 {f : List D → M D} {o : Out D} (h : a r S = .ok x S1) (h2 : b r S1 = .ok y S2) (hf : f [x, y] S2 = o) : eArgs f (aCons a (aCons b aNil)) r S = o := bnd_k (bnd_k h (bnd_k (bnd_k h2 rfl) rfl)) hf
theorem c_bin {g : D → D → M D} {o : Out D} (h1 : a r S = .ok x S1) (h2 : b r S1 = .ok y S2) (h : g x y S2 = o) : eBin g a b r S = o := bnd_k h1 (bnd_k h2 h)
theorem c_un {g : D → M D} {o : Out D} (h1 : a r S = .ok x S1) (h : g x S1 = o) : eUn g a r S = o := bnd_k h1 h
theorem c_call1 {f : List D → M D} {o : Out D} (h : a r S = .ok x S1) (hf : f [x] S1 = o) : eCall 1 f (aCons a aNil) r S = o := bnd_k (bnd_k h rfl) hf
theorem c_call2 {f : List D → M D} {o : Out D} (h : a r S = .ok x S1) (h2 : b r S1 = .ok y S2) (hf : f [x, y] S2 = o) : eCall 2 f (aCons a (aCons b aNil)) r S = o := bnd_k (bnd_k h (bnd_k (bnd_k h2 rfl) rfl)) hf
theorem c_call3 {f : List D → M D} {o : Out D} (h : a r S = .ok x S1) (h2 : b r S1 = .ok y S2) (h3 : c r S2 = .ok z S3) (hf : f [x, y, z] S3 = o) : eCall 3 f (aCons a (aCons b (aCons c aNil))) r S = o := bnd_k (bnd_k h (bnd_k (bnd_k h2 (bnd_k (bnd_k h3 rfl) rfl)) rfl)) hf
theorem c_make1 {f : List D → M D} {o : Out D} (h : a r S = .ok x S1) (hf : f [x] S1 = o) : eMake 2 f (aCons a aNil) r S = o := bnd_k (bnd_k h rfl) hf
theorem c_meth0 {f : List D → M D} {o : Out D} {cc km : Nat} (h0 : e r S = .ok d S1) (ho : isObj cc km d S1 = .ok true S1) (hf : f [d] S1 = o) : eMeth cc km 1 f e aNil r S = o := bnd_k h0 (bnd_k ho (bnd_k rfl hf))
theorem c_meth1 {f : List D → M D} {o : Out D} {cc km : Nat} (h0 : e r S = .ok d S1) (ho : isObj cc km d S1 = .ok true S1) (h : a r S1 = .ok x S2) (hf : f [d, x] S2 = o) : eMeth cc km 2 f e (aCons a aNil) r S = o := bnd_k h0 (bnd_k ho (bnd_k (bnd_k h rfl) hf))
theorem c_meth2 {f : List D → M D} {o : Out D} {cc km : Nat} (h0 : e r S = .ok d S1) (ho : isObj cc km d S1 = .ok true S1) (h : a r S1 = .ok x S2) (h2 : b r S2 = .ok y S3) (hf : f [d, x, y] S3 = o) : eMeth cc km 3 f e (aCons a (aCons b aNil)) r S = o := bnd_k h0 (bnd_k ho (bnd_k (bnd_k h (bnd_k (bnd_k h2 rfl) rfl)) hf))
theorem c_some {i : Int} (h : a r S = .ok (.int i) S1) : oSome a r S = .ok (some i) S1 := bnd_k h rfl
theorem c_none : oNone r S = .ok none S := rfl
theorem c_sl {l h : Ev → M (Option Int)} {lo hi : Option Int} {o : Out D} (h1 : e r S = .ok x S1) (h2 : l r S1 = .ok lo S2) (h3 : h r S2 = .ok hi S3) (hf : gCut lo hi x S3 = o) : eSl l h e r S = o := bnd_k h1 (bnd_k h2 (bnd_k h3 hf))
theorem c_s1 {g : List Nat → D → M D} {w : List Nat} {o : Out D} (h : a r S = .ok (.str w) S1) (h2 : b r S1 = .ok y S2) (hf : g w y S2 = o) : eS1 g a b r S = o := bnd_k h (bnd_k h2 hf)
theorem c_v (h : r[i]? = some (.sh d)) : eVar i r S = .ok d S := by rw [a_eVar, h]
theorem c_bl {t : Bool} (h : e r S = .ok (.bl t) S1) : cBl e r S = .ok t S1 := bnd_k h rfl
theorem c_tr {t : Bool} (h : e r S = .ok (.bl t) S1) : cTru e r S = .ok t S1 := bnd_k h rfl
theorem c_nt {p : CX} {t : Bool} (h : p r S = .ok t S1) : cNot p r S = .ok (!t) S1 := bnd_k h rfl
theorem c_or_t {p q : CX} (h : p r S = .ok true S1) : cOr p q r S = .ok true S1 := bnd_k h rfl
theorem c_or_f {p q : CX} {o : Out Bool} (h : p r S = .ok false S1) (h2 : q r S1 = o) : cOr p q r S = o := bnd_k h h2
theorem c_and_f {p q : CX} (h : p r S = .ok false S1) : cAnd p q r S = .ok false S1 := bnd_k h rfl
theorem c_and_t {p q : CX} {o : Out Bool} (h : p r S = .ok true S1) (h2 : q r S1 = o) : cAnd p q r S = o := bnd_k h h2
theorem e_and_t {o : Out D} (h : a r S = .ok (.bl true) S1) (h2 : b r S1 = o) : eAnd a b r S = o := bnd_k h (bnd_k rfl h2)
theorem e_and_f (h : a r S = .ok (.bl false) S1) : eAnd a b r S = .ok (.bl false) S1 := bnd_k h (bnd_k rfl rfl)
theorem c_fz {l : LX} {xs : List D} (h : l r S = .ok xs S1) : eFz l r S = .ok (.lst xs) S1 := bnd_k h rfl
theorem fn_run {N : Nat} {g : SX} {ds : List D} {S : Sto} {env : Ev} {o : Out D} (he : ds.map Sl.sh ++ List.replicate (N - ds.length) Sl.un = env) (h : outS (g env S) = o) : fnM N g ds S = o := by subst he; exact h
/-- statements in a row, inside a def -/
theorem o_nx {a b : SX} {o : Out D} (h : a r S = .nx r' S') (h2 : outS (b r' S') = o) : outS (sSeq a b r S) = o := (congrArg outS (seq_nx h)).trans h2
theorem o_rt {a b : SX} (h : a r S = .rt d S') : outS (sSeq a b r S) = .ok d S' := congrArg outS (seq_rt h)
theorem o_er {a b : SX} {x : Exc} (h : a r S = .er x r' S') : outS (sSeq a b r S) = .er x S' := congrArg outS (seq_er h)
theorem o_ret {e : EX} (h : e r S = .ok d S') : outS (sRet e r S) = .ok d S' := congrArg outS (ret_e h)
theorem x_asg {e : EX} {i : Nat} (h : e r S = .ok d S') (hr : r.set i (.sh d) = r') : sAsg e (tNm i) r S = .nx r' S' := by subst hr; exact asg_nm h
theorem x_pass {c : CX} {a : SX} (h : c r S = .ok false S') : sIf c a sPass r S = .nx r S' := (if_f h).trans rfl
theorem x_ret {c : CX} {e : EX} {b : SX} (h : c r S = .ok true S') (h2 : e r S' = .ok d S1) : sIf c (sRet e) b r S = .rt d S1 := (if_t h).trans (ret_e h2)
theorem x_for {src : IX} {t : TX} {b : SX} {s : Src} {o : SO} (h : src r S = .ok s S1) (h2 : forL s.ok t b s.ds r S1 = o) : sFor src t b r S = o := by unfold sFor; rw [h]; exact h2
end
end Dm
set_option maxRecDepth 100000
set_option maxHeartbeats 2000000
namespace K75
set_option autoImplicit false
open Dm
theorem log2_lt {i : Int} (h : i.natAbs < 2 ^ 64) : i.natAbs.log2 < 64 := by
  by_cases z : i.natAbs = 0
  · rw [z]; decide
  · exact (Nat.log2_lt z).mpr h
theorem take_ok {n : Nat} {S : Sto} {m : Int} (b : Bx n S) (h0 : 0 < m) (h1 : m < 1000000) : ∃ i S', d__law_take [.ref n, .int m] S = .ok (.int i) S' ∧ 0 ≤ i ∧ i < m ∧ Bx n S' ∧ Kp n S S' := by
  obtain ⟨g, s, hS, s0, s1⟩ := b
  have lm : m.natAbs.log2 < 9000 := Nat.lt_trans (log2_lt (by omega)) (by decide)
  by_cases hg : 0 < g
  · refine ⟨g % m, S.set n (.lst [.int (g / m), .int s]), ?_, Int.emod_nonneg _ (by omega), Int.emod_lt_of_pos _ h0, ⟨_, _, set_at hS, s0, s1⟩, .set⟩
    simp [d__law_take, fnM, m__law_take, sSeq, sIf, onS, cBl, eBin, eVar, eC, bnd_ap, gIx, itmS, lstOf, hS, ofO, atD, plc, gGt, asBl, sAsg, eArgs, aCons, aNil, fInt, gMod, tNm, sIxR, gFdv, L2.ixN, sRet, Dm.pur, need, hg, h0, lm]
  · have q1 : (s * 58111 + 29).natAbs < 2 ^ 64 := by omega
    obtain ⟨raw, hraw⟩ : ∃ raw : Int, raw = (s * 58111 + 29) % 2147483543 := ⟨_, rfl⟩
    have r0 : 0 ≤ raw := by omega
    have r1 : raw < 2147483543 := by omega
    obtain ⟨s2, hs2⟩ : ∃ s2 : Int, s2 = (raw * 41143 + 19391) % 2147483587 + 1 := ⟨_, rfl⟩
    have t0 : 0 ≤ s2 := by omega
    have t1 : s2 ≤ 4294967296 := by omega
    have l1 : s.natAbs.log2 + 15 < 1000000 := by have := log2_lt (i := s) (by omega); omega
    have l2 : raw.natAbs.log2 + 15 < 1000000 := by have := log2_lt (i := raw) (by omega); omega
    have l3 : raw.natAbs.log2 + 30 < 1000000 := by have := log2_lt (i := raw) (by omega); omega
    refine ⟨(raw * 2147483647 + s2) / 8191 % m, S.set n (.lst [.int g, .int s2]), ?_, Int.emod_nonneg _ (by omega), Int.emod_lt_of_pos _ h0, ⟨_, _, set_at hS, t0, t1⟩, .set⟩
    have e1 : Nat.log2 58111 = 15 := by decide
    have e2 : Nat.log2 41143 = 15 := by decide
    have e3 : Nat.log2 2147483647 = 30 := by decide
    have e4 : Nat.log2 8191 < 9000 := by decide
    have e5 : Nat.log2 2147483543 < 9000 := by decide
    simp [d__law_take, fnM, m__law_take, sSeq, sIf, onS, cBl, eBin, eVar, eC, bnd_ap, gIx, itmS, lstOf, hS, ofO, atD, plc, gGt, asBl, sAsg, eArgs, aCons, aNil, fInt, gMod, gMul, gAdd, tNm, sIxR, gFdv, L2.ixN, sRet, Dm.pur, need, hg, h0, lm, sPass, e1, e2, e3, e4, e5, l1, l2, l3, ← hraw, ← hs2, set_at hS]
theorem atD_nat {α : Type} {xs : List α} {i : Nat} {x : α} (h : xs[i]? = some x) : atD xs (i : Int) = some x := by
  have hi := (List.getElem?_eq_some_iff.mp h).1
  unfold atD plc
  rw [if_pos (Int.natCast_nonneg i), if_pos (by omega)]
  simpa using h
theorem atD_int {α : Type} {xs : List α} {i : Int} (h0 : 0 ≤ i) (h1 : i < xs.length) : ∃ x, xs[i.toNat]? = some x ∧ atD xs i = some x := by
  have hi : i.toNat < xs.length := by omega
  refine ⟨xs[i.toNat], List.getElem?_eq_getElem hi, ?_⟩
  have e : ((i.toNat : Nat) : Int) = i := by omega
  have q := atD_nat (List.getElem?_eq_getElem hi)
  rw [e] at q
  exact q
theorem pick_lst {n : Nat} {S : Sto} {xs : List D} (b : Bx n S) (h0 : xs ≠ []) (h1 : xs.length < 1000000) : ∃ d S', d__law_pick [.ref n, .lst xs] S = .ok d S' ∧ d ∈ xs ∧ Bx n S' ∧ Kp n S S' := by
  have hl : 0 < xs.length := List.length_pos_iff.mpr h0
  obtain ⟨i, S', e, i0, i1, b', k'⟩ := take_ok b (m := xs.length) (by omega) (by omega)
  obtain ⟨x, hx, hx2⟩ := atD_int i0 i1
  refine ⟨x, S', ?_, List.mem_of_getElem? hx, b', k'⟩
  simp [d__law_pick, fnM, m__law_pick, sRet, onS, eBin, eVar, bnd_ap, Dm.pur, eCall, aCons, aNil, eArgs, fLen, itmS, lstOf, ofO, need, e, gIx, hx2]
theorem pick_str {n : Nat} {S : Sto} {s : List Nat} (b : Bx n S) (h0 : s ≠ []) (h1 : s.length < 1000000) : ∃ c S', d__law_pick [.ref n, .str s] S = .ok (.str [c]) S' ∧ c ∈ s ∧ Bx n S' ∧ Kp n S S' := by
  have hl : 0 < s.length := List.length_pos_iff.mpr h0
  obtain ⟨i, S', e, i0, i1, b', k'⟩ := take_ok b (m := s.length) (by omega) (by omega)
  obtain ⟨x, hx, hx2⟩ := atD_int i0 i1
  have hL : s.length ≤ LIM := by unfold LIM; omega
  refine ⟨x, S', ?_, List.mem_of_getElem? hx, b', k'⟩
  simp [d__law_pick, fnM, m__law_pick, sRet, onS, eBin, eVar, bnd_ap, Dm.pur, eCall, aCons, aNil, eArgs, fLen, itmS, lstOf, ofO, need, e, gIx, hx2, hL]
theorem box_ok {S : Sto} {ns : List Int} {k : Nat} (hk : k < 2) (hn : ns.length ≤ 63) : ∃ g s : Int, d__law_box [.ro (ns.map D.int), .int k] S = .ok (.ref S.length) (S ++ [.lst [.int g, .int s]]) ∧ 0 ≤ s ∧ s ≤ 4294967296 := by
  have lim2 : (2 : Nat) ≤ LIM := by decide
  have e1 : Nat.log2 2147483587 < 9000 := by decide
  have e2 : Nat.log2 50021 = 15 := by decide
  have e3 : Nat.log2 40692 = 15 := by decide
  have e4 : Nat.log2 6151 = 12 := by decide
  have e5 : Nat.log2 31337 = 14 := by decide
  have e6 : (10 : Int) ^ 18 = 1000000000000000000 := by decide
  have ek : k.log2 < 64 := by have := log2_lt (i := (k : Int)) (by omega); simpa using this
  have ek1 : 12 + k.log2 < 1000000 := by omega
  have ek2 : 14 + k.log2 < 1000000 := by omega
  have lg : ∀ cell : Int, (cell % 2147483587).natAbs.log2 + 15 < 1000000 := fun cell => by
    have := log2_lt (i := cell % 2147483587) (by omega)
    omega
  have rg : ∀ cell : Int, 0 ≤ (cell % 2147483587 * 40692 + 31337 * k + 11) % 2147483587 + 1 ∧ (cell % 2147483587 * 40692 + 31337 * k + 11) % 2147483587 + 1 ≤ 4294967296 := fun cell => by omega
  unfold d__law_box m__law_box
  simp only [fnM_ap]
  rw [seq_nx (r' := [.sh (.ro (ns.map D.int)), .sh (.int k), .sh (.int (6151 * k + 419)), .un]) (S' := S) (by simp [sAsg, onS, eBin, eVar, eC, bnd_ap, gAdd, gMul, Dm.pur, need, e4, ek1, tNm])]
  obtain ⟨cell, hc⟩ : ∃ cell : Int, (sIf (cBl (eBin gLt (eVar 1) (eArgs fLen (aCons (eVar 0) aNil))))
  (sAsg (eArgs fAbs (aCons (eArgs fInt (aCons (eBin gIx (eVar 0) (eVar 1)) aNil)) aNil)) (tNm 2))
  (sIf (cBl (eBin gGt (eArgs fLen (aCons (eVar 0) aNil)) (eC (.int 0))))
  (sAsg (eBin gAdd (eVar 2) (eBin gMul (eBin gMod (eArgs fInt (aCons (eArgs fAbs (aCons (eArgs fInt (aCons (eBin gIx (eVar 0) (eBin gMod (eArgs fInt (aCons (eVar 1) aNil)) (eArgs fLen (aCons (eVar 0) aNil)))) aNil)) aNil)) aNil)) (eC (.int 2147483587))) (eC (.int 50021)))) (tNm 2))
  sPass)) [.sh (.ro (ns.map D.int)), .sh (.int k), .sh (.int (6151 * k + 419)), .un] S = .nx [.sh (.ro (ns.map D.int)), .sh (.int k), .sh (.int cell), .un] S := by
    have hk0 : ¬ ((k : Int) < 0) := by omega
    by_cases h : k < ns.length
    · have ha : atD (ns.map D.int) (k : Int) = some (.int ns[k]) := atD_nat (by simp [h])
      exact ⟨if ns[k] < 0 then -ns[k] else ns[k], by simp [sIf, onS, cBl, eBin, eVar, eC, bnd_ap, gIx, itmS, lstOf, ofO, gLt, asBl, sAsg, eArgs, aCons, aNil, fInt, fAbs, fLen, tNm, Dm.pur, h, ha]⟩
    · by_cases h0 : ns.length = 0
      · exact ⟨6151 * k + 419, by simp [sIf, onS, cBl, eBin, eVar, eC, bnd_ap, itmS, lstOf, ofO, gGt, gLt, asBl, eArgs, aCons, aNil, fLen, Dm.pur, sPass, h0, hk0]⟩
      · have hm0 : 0 ≤ (k : Int) % ns.length := Int.emod_nonneg _ (by omega)
        have hm1 : (k : Int) % ns.length < ns.length := Int.emod_lt_of_pos _ (by omega)
        obtain ⟨x, hx, _⟩ := atD_int (xs := ns) hm0 hm1
        have ha : atD (ns.map D.int) ((k : Int) % ns.length) = some (.int x) := by
          have hm : ((((k : Int) % ns.length).toNat : Nat) : Int) = (k : Int) % ns.length := by omega
          have q := atD_nat (xs := ns.map D.int) (i := ((k : Int) % ns.length).toNat) (x := .int x) (by rw [List.getElem?_map, hx]; rfl)
          rw [hm] at q
          exact q
        have hp : 0 < ns.length := by omega
        have q := lg (if x < 0 then -x else x)
        have l9 : ns.length.log2 < 9000 := by
          have := log2_lt (i := (ns.length : Int)) (by omega)
          simp at this
          omega
        exact ⟨6151 * k + 419 + (if x < 0 then -x else x) % 2147483587 * 50021, by simp [sIf, onS, cBl, eBin, eVar, eC, bnd_ap, gIx, itmS, lstOf, ofO, gGt, gLt, asBl, sAsg, eArgs, aCons, aNil, fInt, fAbs, fLen, gMod, gMul, gAdd, tNm, Dm.pur, need, e1, e2, h, hp, ha, q, l9]⟩
  rw [seq_nx hc]
  have q := lg cell
  refine ⟨if (1000000000000000000 : Int) ≤ cell then cell else 0, _, ?_, rg cell⟩
  rw [seq_nx (r' := [.sh (.ro (ns.map D.int)), .sh (.int k), .sh (.int cell), .sh (.int (if (1000000000000000000 : Int) ≤ cell then cell else 0))]) (S' := S) (by
    by_cases z : (1000000000000000000 : Int) ≤ cell <;> simp [sAsg, onS, eIf, cBl, eBin, eVar, eC, bnd_ap, gGe, gPow, asBl, Dm.pur, need, e6, z, tNm])]
  rw [ret_e (d := .ref S.length) (S' := S ++ [.lst [.int (if (1000000000000000000 : Int) ≤ cell then cell else 0), .int ((cell % 2147483587 * 40692 + 31337 * k + 11) % 2147483587 + 1)]]) (by simp [eCell, lLst, aCons, aNil, eVar, eBin, eArgs, eC, bnd_ap, gAdd, gMul, gMod, fInt, Dm.pur, need, e1, e3, e5, ek2, q, lim2])]
  rfl
/-! ### steps -/
abbrev Rm := List (Nat × Nat)
def encP (p : Nat × Nat) : D := .tup [.str [p.1], .int p.2]
def rL (r : Rm) : D := .lst (r.map encP)
def rT (r : Rm) : D := .tup (r.map encP)
def sL (s : List Rm) : D := .lst (s.map rL)
abbrev LET : List Nat := [97, 98, 99, 100, 48, 49]
def Inc (l : List Nat) : Prop := l.Pairwise fun a b => LET.idxOf a < LET.idxOf b
structure RmOk (n : Nat) (r : Rm) : Prop where
  inc : Inc (r.map (·.1))
  let_ : ∀ p ∈ r, p.1 ∈ LET
  lt : ∀ p ∈ r, p.2 < n
structure StOk (s : List Rm) : Prop where
  pos : 0 < s.length
  most : s.length ≤ 6
  room : ∀ r ∈ s, RmOk s.length r
noncomputable def bodyI : SX := sIf (cBl (eBin gGt (eCall 2 d__law_take (aCons (eVar 0) (aCons (eC (.int 2)) aNil))) (eC (.int 0))))
  (sApp 6 (eTup (aCons (eVar 7) (aCons (eCall 2 d__law_take (aCons (eVar 0) (aCons (eVar 5) aNil))) aNil))))
  sPass
theorem steps_in {n R : Nat} {a1 a2 a3 : D} {st : List D} (hR : 0 < R) (hR2 : R < 1000) : ∀ (ls : List Nat) (acc : List D) (x7 : Sl) (S : Sto), Bx n S → acc.length + ls.length ≤ 1000 →
    ∃ (new : Rm) (x7' : Sl) (S' : Sto), forL (fun _ => True) (tNm 7) bodyI (ls.map fun c => .str [c]) [.sh (.ref n), .sh a1, .sh a2, .sh a3, .ow st, .sh (.int R), .ow acc, x7] S =
      .nx [.sh (.ref n), .sh a1, .sh a2, .sh a3, .ow st, .sh (.int R), .ow (acc ++ new.map encP), x7'] S' ∧ (new.map (·.1)).Sublist ls ∧ (∀ p ∈ new, p.2 < R) ∧ Bx n S' ∧ Kp n S S'
  | [], acc, x7, S, b, _ => ⟨[], x7, S, by simp [forL], by simp, by simp, b, .refl n S⟩
  | c :: ls, acc, x7, S, b, hl => by
    obtain ⟨i, S1, e1, i0, i1, b1, k1⟩ := take_ok b (m := 2) (by omega) (by omega)
    simp only [List.length_cons] at hl
    by_cases hi : 0 < i
    · obtain ⟨j, S2, e2, j0, j1, b2, k2⟩ := take_ok b1 (m := (R : Int)) (by omega) (by omega)
      have hlim : acc.length < LIM := by unfold LIM; omega
      have lim2 : (2 : Nat) ≤ LIM := by decide
      obtain ⟨new, x7', S', h1, h2, h3, h4, h5⟩ := steps_in hR hR2 ls (acc ++ [encP (c, j.toNat)]) (.sh (.str [c])) S2 b2 (by simp; omega)
      have hj : ((j.toNat : Nat) : Int) = j := by omega
      have hb : bodyI [.sh (.ref n), .sh a1, .sh a2, .sh a3, .ow st, .sh (.int R), .ow acc, .sh (.str [c])] S = .nx [.sh (.ref n), .sh a1, .sh a2, .sh a3, .ow st, .sh (.int R), .ow (acc ++ [encP (c, j.toNat)]), .sh (.str [c])] S2 := by
        simp [bodyI, sIf, onS, cBl, eBin, eCall, aCons, aNil, eVar, eC, bnd_ap, Dm.pur, need, e1, gGt, asBl, hi, sApp, eTup, e2, hlim, lim2, encP, hj]
      refine ⟨(c, j.toNat) :: new, x7', S', ?_, by simpa using h2.cons₂ c, ?_, h4, (k1.trans k2).trans h5⟩
      · rw [List.map_cons]
        simp only [forL, if_true, tNm, List.set]
        rw [hb]
        simpa using h1
      · intro p hp
        rcases List.mem_cons.mp hp with rfl | hp
        · show j.toNat < R; omega
        · exact h3 p hp
    · obtain ⟨new, x7', S', h1, h2, h3, h4, h5⟩ := steps_in hR hR2 ls acc (.sh (.str [c])) S1 b1 (by omega)
      have hb : bodyI [.sh (.ref n), .sh a1, .sh a2, .sh a3, .ow st, .sh (.int R), .ow acc, .sh (.str [c])] S = .nx [.sh (.ref n), .sh a1, .sh a2, .sh a3, .ow st, .sh (.int R), .ow acc, .sh (.str [c])] S1 := by
        simp [bodyI, sIf, onS, cBl, eBin, eCall, aCons, aNil, eVar, eC, bnd_ap, Dm.pur, need, e1, gGt, asBl, hi, sPass]
      refine ⟨new, x7', S', ?_, h2.cons c, h3, h4, k1.trans h5⟩
      rw [List.map_cons]
      simp only [forL, if_true, tNm, List.set]
      rw [hb]
      exact h1
noncomputable def bodyO : SX := sSeq (sOwn 6 (lLst aNil))
  (sSeq (sFor (iIter (eVar 1)) (tNm 7) bodyI)
  (sFrz 6 (sApp 4 (eVar 6))))
theorem steps_out {n R : Nat} {L : List Nat} (hR : 0 < R) (hR2 : R < 1000) (hL : L.length ≤ 6) : ∀ (ds : List D) (st : List Rm) (x3 x6 x7 : Sl) (S : Sto), Bx n S → st.length + ds.length ≤ 6 →
    ∃ (new : List Rm) (x3' x6' x7' : Sl) (S' : Sto), forL (fun _ => True) (tNm 3) bodyO ds [.sh (.ref n), .sh (.str L), .sh (.int 6), x3, .ow (st.map rL), .sh (.int R), x6, x7] S =
      .nx [.sh (.ref n), .sh (.str L), .sh (.int 6), x3', .ow ((st ++ new).map rL), .sh (.int R), x6', x7'] S' ∧ new.length = ds.length ∧ (∀ r ∈ new, (r.map (·.1)).Sublist L ∧ ∀ p ∈ r, p.2 < R) ∧ Bx n S' ∧ Kp n S S'
  | [], st, x3, x6, x7, S, b, _ => ⟨[], x3, x6, x7, S, by simp [forL], rfl, by simp, b, .refl n S⟩
  | d :: ds, st, x3, x6, x7, S, b, hl => by
    simp only [List.length_cons] at hl
    obtain ⟨r, x7a, S1, e1, q1, q2, b1, k1⟩ := steps_in (n := n) (R := R) (a1 := .str L) (a2 := .int 6) (a3 := d) (st := st.map rL) hR hR2 L [] x7 S b (by simp; omega)
    obtain ⟨new, x3', x6', x7', S', h1, h2, h3, h4, h5⟩ := steps_out hR hR2 hL ds (st ++ [r]) (.sh d) (.sh (rL r)) x7a S1 b1 (by simp; omega)
    have hlim : st.length < LIM := by unfold LIM; omega
    refine ⟨r :: new, x3', x6', x7', S', ?_, by simp [h2], ?_, h4, k1.trans h5⟩
    · simp only [forL, if_true, tNm, List.set]
      have hb : bodyO [.sh (.ref n), .sh (.str L), .sh (.int 6), .sh d, .ow (st.map rL), .sh (.int R), x6, x7] S = .nx [.sh (.ref n), .sh (.str L), .sh (.int 6), .sh d, .ow ((st ++ [r]).map rL), .sh (.int R), .sh (rL r), x7a] S1 := by
        unfold bodyO
        rw [seq_nx (r' := [.sh (.ref n), .sh (.str L), .sh (.int 6), .sh d, .ow (st.map rL), .sh (.int R), .ow [], x7]) (S' := S) (by simp [sOwn, lLst, aNil, onS, bnd_ap, Dm.pur, need])]
        rw [seq_nx (r' := [.sh (.ref n), .sh (.str L), .sh (.int 6), .sh d, .ow (st.map rL), .sh (.int R), .ow (r.map encP), x7a]) (S' := S1) (by simpa [sFor, iIter, eVar, bnd_ap, Dm.pur, dIter, onS] using e1)]
        simp [sFrz, frz, sApp, eVar, Dm.pur, onS, hlim, rL]
      rw [hb]
      simpa using h1
    · intro z hz
      rcases List.mem_cons.mp hz with rfl | hz
      · exact ⟨q1, q2⟩
      · exact h3 z hz
theorem inc_of {L l : List Nat} (h : l.Sublist L) (hL : Inc L) : Inc l := List.Pairwise.sublist h hL
theorem steps_ok {n : Nat} {S : Sto} {L : List Nat} (b : Bx n S) (hL : L.length ≤ 6) (hi : Inc L) (hm : ∀ c ∈ L, c ∈ LET) : ∃ (s : List Rm) (S' : Sto), d__law_steps [.ref n, .str L, .int 6] S = .ok (sL s) S' ∧ StOk s ∧ Bx n S' ∧ Kp n S S' := by
  obtain ⟨i, S1, e1, i0, i1, b1, k1⟩ := take_ok b (m := 6) (by omega) (by omega)
  obtain ⟨s, x3, x6, x7, S2, h1, h2, h3, h4, h5⟩ := steps_out (n := n) (R := (1 + i).toNat) (L := L) (by omega) (by omega) hL (rngD 0 (1 + i).toNat).ds [] .un .un .un S1 b1 (by simp [rngD]; omega)
  have hn : s.length = (1 + i).toNat := by rw [h2]; simp [rngD]
  have hii : (((1 + i).toNat : Nat) : Int) = 1 + i := by omega
  refine ⟨s, S2, ?_, ⟨by omega, by omega, fun r hr => ?_⟩, h4, k1.trans h5⟩
  · unfold d__law_steps m__law_steps
    simp only [fnM_ap]
    rw [seq_nx (r' := [.sh (.ref n), .sh (.str L), .sh (.int 6), .un, .ow [], .sh (.int (1 + i)), .un, .un]) (S' := S1) (by simp [sOwn2, lLst, aNil, onS, bnd_ap, Dm.pur, need, eBin, eC, eCall, aCons, eVar, e1, gAdd])]
    rw [hii] at h1
    rw [seq_nx (r' := [.sh (.ref n), .sh (.str L), .sh (.int 6), x3, .ow (s.map rL), .sh (.int (1 + i)), x6, x7]) (S' := S2) (by
      have q : sFor (iRng1D (eVar 5)) (tNm 3) bodyO [.sh (.ref n), .sh (.str L), .sh (.int 6), .un, .ow [], .sh (.int (1 + i)), .un, .un] S1 = .nx [.sh (.ref n), .sh (.str L), .sh (.int 6), x3, .ow (s.map rL), .sh (.int (1 + i)), x6, x7] S2 := by
        have g1 : -4611686018427387904 ≤ 1 + i := by omega
        have g2 : 1 + i < 4611686018427387904 := by omega
        simpa [sFor, iRng1D, eVar, bnd_ap, Dm.pur, onS, rngD, need, g1, g2] using h1
      exact q)]
    simp [sFrz, frz, sRet, eVar, Dm.pur, onS, outS, sL]
  · obtain ⟨q1, q2⟩ := h3 r hr
    refine ⟨inc_of q1 hi, fun p hp => hm _ (q1.subset (List.mem_map_of_mem hp)), fun p hp => by rw [hn]; exact q2 p hp⟩
/-! ### kinds -/
/-- no cell, no instance -/
def pl : D → Bool
  | .ref _ => false
  | .obj _ _ => false
  | _ => true
def isTx : D → Bool
  | .str _ => true
  | _ => false
def isSq : D → Bool
  | .lst _ => true
  | .ro _ => true
  | .tup _ => true
  | _ => false
def nat? : D → Option Nat
  | .int i => if 0 ≤ i then some i.toNat else none
  | _ => none
def below (n : Nat) (d : D) : Bool := match d with
  | .int i => decide (0 ≤ i ∧ i < n)
  | _ => false
section
variable {S : Sto} {d : D}
theorem text_ok (h : pl d = true) : d_is_text [d] S = .ok (.bl (isTx d)) S := by
  cases d <;> first | (simp [d_is_text, m_is_text, fnM, sRet, onS, eUn, eVar, bnd_ap, Dm.pur, gIsi, kdS, fK, ofO, isTx]; done) | cases h
theorem seq_ok (h : pl d = true) : d_is_sequence [d] S = .ok (.bl (isSq d)) S := by
  cases d <;> first | (simp [d_is_sequence, m_is_sequence, fnM, sRet, onS, eUn, eVar, bnd_ap, Dm.pur, gIsi, kdS, fK, ofO, isSq]; done) | cases h
theorem below_ok (h : pl d = true) {n : Nat} : d_is_number_below [d, .int n] S = .ok (.bl (below n d)) S := by
  cases d with
  | int i => 
    by_cases z : 0 ≤ i
    · simp [d_is_number_below, m_is_number_below, d_is_number, m_is_number, d_is_integer, m_is_integer, fnM, sRet, onS, eUn, eVar, bnd_ap, Dm.pur, gIsi, kdS, fK, ofO, eCall, aCons, aNil, need, eAnd, dTru, eBin, eC, gGe, gLt, eNot, below, z]
    · simp [d_is_number_below, m_is_number_below, d_is_number, m_is_number, d_is_integer, m_is_integer, fnM, sRet, onS, eUn, eVar, bnd_ap, Dm.pur, gIsi, kdS, fK, ofO, eCall, aCons, aNil, need, eAnd, dTru, eBin, eC, gGe, gLt, eNot, below, z]
  | ref _ => cases h
  | obj _ _ => cases h
  | _ => simp [d_is_number_below, m_is_number_below, d_is_number, m_is_number, d_is_integer, m_is_integer, fnM, sRet, onS, eUn, eVar, bnd_ap, Dm.pur, gIsi, kdS, fK, ofO, eCall, aCons, aNil, need, eAnd, dTru, eBin, eC, gGe, gLt, eNot, below]
/-- one letter of the six -/
def isLt : D → Bool
  | .str [c] => decide (c ∈ LET)
  | _ => false
theorem letter_ok (h : pl d = true) (hs : ∀ s, d = .str s → s.length ≤ LIM) : d_is_letter_of [d, .str LET] S = .ok (.bl (isLt d)) S := by
  have ht := text_ok (S := S) h
  cases d with
  | ref _ => cases h
  | obj _ _ => cases h
  | str s =>
    have hl := hs s rfl
    match s, hl with
    | [], _ => simp [d_is_letter_of, m_is_letter_of, fnM, sRet, onS, eVar, bnd_ap, Dm.pur, eCall, aCons, aNil, need, eAnd, dTru, eBin, eC, ht, isTx, eArgs, fLen, gEq, eqS, flD, eqD, ofO, isLt]
    | [c], _ =>
      have l1 : (1 : Nat) ≤ LIM := by decide
      simp [d_is_letter_of, m_is_letter_of, fnM, sRet, onS, eVar, bnd_ap, Dm.pur, eCall, aCons, aNil, need, eAnd, dTru, eBin, eC, ht, isTx, eArgs, fLen, gEq, eqS, flD, eqD, ofO, isLt, gIn, inS, l1]
    | c :: c2 :: s, hl =>
      have z : ¬ ((s.length : Int) + 1 + 1 = 1) := by omega
      simp only [List.length_cons] at hl
      simp [d_is_letter_of, m_is_letter_of, fnM, sRet, onS, eVar, bnd_ap, Dm.pur, eCall, aCons, aNil, need, eAnd, dTru, eBin, eC, ht, isTx, eArgs, fLen, gEq, eqS, flD, eqD, ofO, isLt, hl, z]
  | _ => simp [d_is_letter_of, m_is_letter_of, fnM, sRet, onS, eVar, bnd_ap, Dm.pur, eCall, aCons, aNil, need, eAnd, dTru, eBin, eC, ht, isTx, isLt]
end
/-! ### a room's row of pairs -/
def strOk : D → Bool
  | .str s => decide (s.length ≤ LIM)
  | _ => true
def itD : D → List D
  | .lst xs => xs
  | .ro xs => xs
  | .tup xs => xs
  | _ => []
/-- a value that may stand in a room's row -/
def gd (d : D) : Bool := pl d && (itD d).all fun e => pl e && strOk e
def ixL : D → Nat
  | .str [c] => LET.idxOf c
  | _ => 0
def rmP (n : Nat) (d : D) : Option Nat := match itD d with
  | [a, b] => if isSq d && isLt a && below n b then some (ixL a) else none
  | _ => none
def rmAll (n : Nat) : List D → Option (List Nat)
  | [] => some []
  | d :: ds => match rmP n d with
    | none => none
    | some i => (rmAll n ds).map (i :: ·)
noncomputable def bodyR : SX := (sSeq (sIf (cOr (cNot (cTru (eCall 1 d_is_sequence (aCons (eVar 3) aNil)))) (cBl (eBin gNe (eArgs fLen (aCons (eVar 3) aNil)) (eC (.int 2)))))
  (sRet (eC (.bl false)))
  sPass)
  (sSeq (sIf (cOr (cNot (cTru (eCall 2 d_is_letter_of (aCons (eBin gIx (eVar 3) (eC (.int 0))) (aCons (eC (.str [97, 98, 99, 100, 48, 49])) aNil))))) (cNot (cTru (eCall 2 d_is_number_below (aCons (eBin gIx (eVar 3) (eC (.int 1))) (aCons (eVar 1) aNil))))))
  (sRet (eC (.bl false)))
  sPass)
  (sApp 2 (eS1 mIdx (eC (.str [97, 98, 99, 100, 48, 49])) (eBin gIx (eVar 3) (eC (.int 0)))))))
theorem itm_sq {S : Sto} {d : D} (h : isSq d = true) : itmS S d = some (itD d) := by
  cases d <;> first | rfl | cases h
theorem bodyR_ok {S : Sto} {v d : D} {n : Nat} {acc : List D} {x4 : Sl} (g : gd d = true) (hl : acc.length < 1000) :
    bodyR [.sh v, .sh (.int n), .ow acc, .sh d, x4] S = match rmP n d with
      | some i => .nx [.sh v, .sh (.int n), .ow (acc ++ [.int i]), .sh d, x4] S
      | none => .rt (.bl false) S := by
  unfold gd at g
  rw [Bool.and_eq_true] at g
  obtain ⟨g1, g2⟩ := g
  have hs := seq_ok (S := S) g1
  unfold bodyR
  by_cases q : isSq d = true
  · have hi := itm_sq (S := S) q
    have hlen : fLen [d] S = .ok (.int (itD d).length) S := by
      cases d <;> first | rfl | cases q
    rw [q] at hs
    by_cases l2 : (itD d).length = 2
    · obtain ⟨a, b, e⟩ : ∃ a b, itD d = [a, b] := by
        match itD d, l2 with
        | [a, b], _ => exact ⟨a, b, rfl⟩
      rw [e] at g2 hi hlen
      simp only [List.all_cons, List.all_nil, Bool.and_true, Bool.and_eq_true] at g2
      obtain ⟨⟨p1, s1⟩, ⟨p2, s2⟩⟩ := g2
      have ix0 : gIx d (.int 0) S = .ok a S := by
        have : ∀ s, d ≠ .str s := fun s z => by rw [z] at q; cases q
        cases d <;> first | (simp_all [gIx, ofO, atD, plc]; done) | cases q
      have ix1 : gIx d (.int 1) S = .ok b S := by
        cases d <;> first | (simp_all [gIx, ofO, atD, plc]; done) | cases q
      have hsa : ∀ s, a = .str s → s.length ≤ LIM := fun s z => by rw [z] at s1; simpa [strOk] using s1
      have ha := letter_ok (S := S) p1 hsa
      have hb := below_ok (S := S) p2 (n := n)
      rw [seq_nx (r' := [.sh v, .sh (.int n), .ow acc, .sh d, x4]) (S' := S) (by
        simp [sIf, onS, cOr, cNot, cTru, eCall, aCons, aNil, eVar, bnd_ap, Dm.pur, need, hs, dTru, cBl, eBin, eArgs, hlen, eC, gNe, eqS, flD, eqD, ofO, asBl, sPass])]
      by_cases la : isLt a = true
      · rw [la] at ha
        by_cases lb : below n b = true
        · rw [lb] at hb
          rw [seq_nx (r' := [.sh v, .sh (.int n), .ow acc, .sh d, x4]) (S' := S) (by
            simp [sIf, onS, cOr, cNot, cTru, eCall, aCons, aNil, eVar, bnd_ap, Dm.pur, need, dTru, eBin, eC, ix0, ix1, ha, hb, sPass])]
          have hr : rmP n d = some (ixL a) := by simp [rmP, e, q, la, lb]
          have hlim : acc.length < LIM := by unfold LIM; omega
          rw [hr]
          match a, la with
          | .str [c], la =>
            have hc : c ∈ LET := by simpa [isLt] using la
            have hc2 : c = 97 ∨ c = 98 ∨ c = 99 ∨ c = 100 ∨ c = 48 ∨ c = 49 := by simpa using hc
            simp [sApp, eS1, eC, bnd_ap, Dm.pur, eBin, eVar, ix0, mIdx, need, hc2, onS, hlim, ixL, LET]
        · have lb' : below n b = false := by simpa using lb
          rw [lb'] at hb
          have hr : rmP n d = none := by simp [rmP, e, lb']
          rw [hr]
          refine seq_rt ?_
          simp [sIf, onS, cOr, cNot, cTru, eCall, aCons, aNil, eVar, bnd_ap, Dm.pur, need, dTru, eBin, eC, ix0, ix1, ha, hb, sRet]
      · have la' : isLt a = false := by simpa using la
        rw [la'] at ha
        have hr : rmP n d = none := by simp [rmP, e, la']
        rw [hr]
        refine seq_rt ?_
        simp [sIf, onS, cOr, cNot, cTru, eCall, aCons, aNil, eVar, bnd_ap, Dm.pur, need, dTru, eBin, eC, ix0, ha, sRet]
    · have hr : rmP n d = none := by
        unfold rmP
        split
        · rename_i a b e
          rw [e] at l2; simp at l2
        · rfl
      have z : ¬ (((itD d).length : Int) = 2) := by omega
      rw [hr]
      refine seq_rt ?_
      simp [sIf, onS, cOr, cNot, cTru, eCall, aCons, aNil, eVar, bnd_ap, Dm.pur, need, hs, dTru, cBl, eBin, eArgs, hlen, eC, gNe, eqS, flD, eqD, ofO, asBl, sRet, z]
  · have q' : isSq d = false := by simpa using q
    rw [q'] at hs
    have hr : rmP n d = none := by
      unfold rmP
      split
      · simp [q']
      · rfl
    rw [hr]
    refine seq_rt ?_
    simp [sIf, onS, cOr, cNot, cTru, eCall, aCons, aNil, eVar, bnd_ap, Dm.pur, need, hs, dTru, eC, sRet]
theorem loopR {S : Sto} {v : D} {n : Nat} {x4 : Sl} {ok : Sto → Prop} (hok : ok S) : ∀ (ds : List D) (acc : List D) (x3 : Sl), ds.all gd = true → acc.length + ds.length < 1000 →
    (∀ is, rmAll n ds = some is → ∃ x3', forL ok (tNm 3) bodyR ds [.sh v, .sh (.int n), .ow acc, x3, x4] S = .nx [.sh v, .sh (.int n), .ow (acc ++ is.map fun i => .int (i : Nat)), x3', x4] S) ∧
    (rmAll n ds = none → forL ok (tNm 3) bodyR ds [.sh v, .sh (.int n), .ow acc, x3, x4] S = .rt (.bl false) S)
  | [], acc, x3, _, _ => ⟨fun is h => by cases h; exact ⟨x3, by simp [forL, hok]⟩, fun h => by cases h⟩
  | d :: ds, acc, x3, g, hl => by
    rw [List.all_cons, Bool.and_eq_true] at g
    simp only [List.length_cons] at hl
    have hb := bodyR_ok (S := S) (v := v) (n := n) (acc := acc) (x4 := x4) g.1 (by omega)
    unfold rmAll
    cases q : rmP n d with
    | none =>
      rw [q] at hb
      exact ⟨fun is h => (by cases h), fun _ => (by simp only [forL, hok, if_true, tNm, List.set]; rw [hb])⟩
    | some i =>
      rw [q] at hb
      obtain ⟨h1, h2⟩ := loopR hok ds (acc ++ [.int i]) (.sh d) g.2 (by simp; omega)
      refine ⟨fun is h => ?_, fun h => ?_⟩
      · obtain ⟨js, e, rfl⟩ := Option.map_eq_some_iff.mp h
        obtain ⟨x3', e3⟩ := h1 js e
        refine ⟨x3', ?_⟩
        simp only [forL, hok, if_true, tNm, List.set]
        rw [hb]
        simpa using e3
      · have e : rmAll n ds = none := by simpa using h
        simp only [forL, hok, if_true, tNm, List.set]
        rw [hb]
        exact h2 e
def incB : List Nat → Bool
  | a :: b :: r => decide (a < b) && incB (b :: r)
  | _ => true
def roomB (n : Nat) (ds : List D) : Bool := match rmAll n ds with
  | some is => incB is
  | none => false
/-- all([places[at] < places[at + 1] for at in range(..)]) as a list of bools -/
theorem incB_all : ∀ l : List Nat, incB l = (List.range (l.length - 1)).all fun i => decide (l[i]?.getD 0 < l[i + 1]?.getD 0)
  | [] => rfl
  | [a] => rfl
  | a :: b :: r => by
    rw [incB, incB_all (b :: r)]
    simp only [List.length_cons, Nat.add_sub_cancel]
    rw [show r.length + 1 = Nat.succ r.length from rfl, List.range_succ_eq_map, List.all_cons, List.all_map]
    simp only [List.getElem?_cons_zero, List.getElem?_cons_succ, Option.getD_some, Nat.zero_add]
    refine congrArg (fun z => decide (a < b) && z) (congrArg (fun f => (List.range r.length).all f) (funext fun i => ?_))
    show _ = decide ((a :: b :: r)[i + 1]?.getD 0 < (b :: r)[i + 1]?.getD 0)
    simp only [List.getElem?_cons_succ]
theorem rmAll_len {n : Nat} : ∀ {ds : List D} {is : List Nat}, rmAll n ds = some is → is.length = ds.length
  | [], _, h => by cases h; rfl
  | d :: ds, is, h => by
    unfold rmAll at h
    cases q : rmP n d with
    | none => rw [q] at h; cases h
    | some i =>
      rw [q] at h
      obtain ⟨js, e, rfl⟩ := Option.map_eq_some_iff.mp h
      simp [rmAll_len e]
theorem asBls_map {α : Type} (f : α → Bool) : ∀ l : List α, asBls (l.map fun i => .bl (f i)) = some (l.map f)
  | [] => rfl
  | a :: l => by simp [asBls, asBls_map f l]
theorem lcF_map {ok : Sto → Prop} {S : Sto} (hok : ok S) {t : TX} {e : EX} {r : Ev} {f : D → D} : ∀ ds : List D, (∀ d ∈ ds, ∃ r1, t d r = some r1 ∧ e r1 S = .ok (f d) S) → lcF ok t cYes e r ds S = .ok (ds.map f) S
  | [], _ => by simp [lcF, hok]
  | d :: ds, h => by
    obtain ⟨r1, h1, h2⟩ := h d List.mem_cons_self
    have ih := lcF_map hok ds fun d hd => h d (List.mem_cons_of_mem _ hd)
    simp [lcF, hok, h1, bnd_ap, cYes, Dm.pur, h2, ih]
theorem room_ok {S : Sto} {v : D} {n : Nat} {ds : List D} {ok : Sto → Prop} (hs : d_is_sequence [v] S = .ok (.bl true) S) (hi : dIter v S = .ok ⟨ds, ok⟩ S) (hok : ok S) (g : ds.all gd = true) (hl : ds.length < 1000) :
    d_is_room [v, .int n] S = .ok (.bl (roomB n ds)) S := by
  have lp := loopR (S := S) (v := v) (n := n) (x4 := .un) hok ds [] .un g (by simpa using hl)
  have hf : ∀ x3, sFor (iIter (eVar 0)) (tNm 3) bodyR [.sh v, .sh (.int n), .ow [], x3, .un] S = forL ok (tNm 3) bodyR ds [.sh v, .sh (.int n), .ow [], x3, .un] S := fun x3 => by
    simp [sFor, iIter, eVar, bnd_ap, Dm.pur, onS, hi]
  unfold d_is_room m_is_room
  simp only [fnM_ap]
  rw [seq_nx (r' := [.sh v, .sh (.int n), .un, .un, .un]) (S' := S) (by simp [sIf, onS, cNot, cTru, eCall, aCons, aNil, eVar, bnd_ap, Dm.pur, need, hs, dTru, sPass])]
  rw [seq_nx (r' := [.sh v, .sh (.int n), .ow [], .un, .un]) (S' := S) (by simp [sOwn, lLst, aNil, onS, bnd_ap, Dm.pur, need])]
  unfold roomB
  cases q : rmAll n ds with
  | none =>
    exact congrArg outS (seq_rt (d := .bl false) (S' := S) ((hf .un).trans (lp.2 q)))
  | some is =>
    obtain ⟨x3', e⟩ := lp.1 is q
    rw [List.nil_append] at e
    refine (congrArg outS (seq_nx ((hf .un).trans e))).trans ?_
    have ln := rmAll_len q
    have hz : is.length < 1000 := by omega
    have hlc : lcF (fun _ => True) (tNm 4) cYes (eBin gLt (eBin gIx (eVarB 2) (eVar 4)) (eBin gIx (eVarB 2) (eBin gAdd (eVar 4) (eC (.int 1))))) [.sh v, .sh (.int n), .ow (is.map fun i => .int (i : Nat)), x3', .un] ((List.range (is.length - 1)).map fun i => D.int (0 + (i : Nat))) S = .ok (((List.range (is.length - 1)).map fun i => D.int (0 + (i : Nat))).map fun (d : D) => match d with
        | .int j => D.bl (decide (is[j.toNat]?.getD 0 < is[j.toNat + 1]?.getD 0))
        | _ => .non) S := by
      refine lcF_map trivial _ fun d hd => ?_
      obtain ⟨i, hi, rfl⟩ := List.mem_map.mp hd
      rw [List.mem_range] at hi
      have g0 : i < is.length := by omega
      have g1 : i + 1 < is.length := by omega
      have a0 : atD (is.map fun i => D.int (i : Nat)) (i : Int) = some (.int (is[i] : Nat)) := atD_nat (by simp [g0])
      have a1 : atD (is.map fun i => D.int (i : Nat)) ((i : Int) + 1) = some (.int (is[i + 1] : Nat)) := by
        have := atD_nat (xs := is.map fun i => D.int (i : Nat)) (i := i + 1) (x := .int (is[i + 1] : Nat)) (by simp [g1])
        simpa using this
      refine ⟨_, rfl, ?_⟩
      simp [eBin, eVarB, eVar, eC, bnd_ap, Dm.pur, gIx, itmS, lstOf, ofO, gAdd, gLt, a0, a1, g0, g1]
    have hL : is.length - 1 ≤ LIM := by unfold LIM; omega
    have hL2 : is.length ≤ LIM := by unfold LIM; omega
    have hsz : ((is.length : Int) - 1).toNat = is.length - 1 := by omega
    have g1 : (-4611686018427387904 : Int) ≤ (is.length : Int) - 1 := by omega
    have g2 : (is.length : Int) - 1 < 4611686018427387904 := by omega
    have hA : asBls (((List.range (is.length - 1)).map fun i => D.int (0 + (i : Nat))).map fun (d : D) => match d with
        | .int j => D.bl (decide (is[j.toNat]?.getD 0 < is[j.toNat + 1]?.getD 0))
        | _ => .non) = some ((List.range (is.length - 1)).map fun i => decide (is[i]?.getD 0 < is[i + 1]?.getD 0)) := by
      rw [List.map_map, ← asBls_map]
      refine congrArg asBls (List.map_congr_left fun i _ => ?_)
      simp
    have hall : (((List.range (is.length - 1)).map fun i => decide (is[i]?.getD 0 < is[i + 1]?.getD 0)).all id) = incB is := by
      rw [incB_all, List.all_map]; rfl
    refine congrArg outS (ret_e (d := .bl (incB is)) (S' := S) ?_)
    simp only [eArgs, aCons, eFz, lLc, iRng1D, eBin, eVarB, eC, aNil, bnd_ap, Dm.pur, List.getElem?_cons_zero, List.getElem?_cons_succ, fLen, itmS, lstOf, ofO, List.length_map, gSub, rngD, hsz, need, g1, g2, noE, wipeD, List.set, decide_true, Bool.and_self, if_true] at hlc ⊢
    have g3 : (-2 ^ 62 : Int) ≤ (is.length : Int) - 1 ∧ (is.length : Int) - 1 < 2 ^ 62 := by constructor <;> omega
    rw [if_pos (decide_eq_true g3)]
    simp only [Dm.pur]
    rw [hlc]
    simp only []
    rw [if_pos (by simpa using hL)]
    simp only [Dm.pur, fAll, lstOf, Option.bind_some]
    rw [hA]
    simp only [ofO]
    rw [hall]
end K75
set_option maxRecDepth 100000
set_option maxHeartbeats 2000000
namespace K75
set_option autoImplicit false
open Dm
/-- a sequence that holds these, whatever kind it is of -/
structure SqA (S : Sto) (v : D) (xs : List D) : Prop where
  seq : d_is_sequence [v] S = .ok (.bl true) S
  len : fLen [v] S = .ok (.int xs.length) S
  tup : fTup [v] S = .ok (.tup xs) S
  it : ∃ ok, dIter v S = .ok ⟨xs, ok⟩ S ∧ ok S
  ns : isTx v = false
theorem sqA_lst {S : Sto} {xs : List D} : SqA S (.lst xs) xs := ⟨seq_ok rfl, rfl, rfl, ⟨_, rfl, trivial⟩, rfl⟩
theorem sqA_tup {S : Sto} {xs : List D} : SqA S (.tup xs) xs := ⟨seq_ok rfl, rfl, rfl, ⟨_, rfl, trivial⟩, rfl⟩
theorem sqA_ref {S : Sto} {xs : List D} {n : Nat} (h : S[n]? = some (.lst xs)) : SqA S (.ref n) xs := by
  refine ⟨?_, ?_, ?_, ⟨fun S' => S'[n]? = some (.lst xs), by simp only [dIter, h], h⟩, rfl⟩
  · simp [d_is_sequence, m_is_sequence, fnM, sRet, onS, eUn, eVar, bnd_ap, Dm.pur, gIsi, kdS, fK, ofO, h]
  · simp [fLen, itmS, lstOf, h, ofO]
  · simp [fTup, itmS, lstOf, h, ofO]
theorem room_sq {S : Sto} {v : D} {n : Nat} {ds : List D} (q : SqA S v ds) (g : ds.all gd = true) (hl : ds.length < 1000) : d_is_room [v, .int n] S = .ok (.bl (roomB n ds)) S := by
  obtain ⟨ok, h1, h2⟩ := q.it
  exact room_ok q.seq h1 h2 g hl
theorem room_no {S : Sto} {v : D} {n : Nat} (hp : pl v = true) (hs : isSq v = false) : d_is_room [v, .int n] S = .ok (.bl false) S := by
  have h := seq_ok (S := S) hp
  rw [hs] at h
  unfold d_is_room m_is_room
  simp only [fnM_ap]
  exact congrArg outS (seq_rt (d := .bl false) (S' := S) (by simp [sIf, onS, cNot, cTru, eCall, aCons, aNil, eVar, bnd_ap, Dm.pur, need, h, dTru, sRet, eC]))
/-! ### Wants: what is asked of the ways -/
noncomputable def bodyW : SX := sIf (cNot (cTru (eCall 2 d_is_room (aCons (eVar 3) (aCons (eArgs fLen (aCons (eVar 1) aNil)) aNil)))))
  (sRaise 4 [0] (aCons (eVar 2) aNil))
  sPass
/-- the first room that is none -/
def fstBad : List Bool → Option Nat
  | [] => none
  | false :: _ => some 0
  | true :: r => (fstBad r).map (· + 1)
theorem loopW {S : Sto} {me v : D} {ds : List D} {n : Nat} (hlen : fLen [v] S = .ok (.int n) S) {ok : Sto → Prop} (hok : ok S) : ∀ (es : List D) (bs : List Bool) (k : Nat) (x2 x3 : Sl), bs.length = es.length → (∀ (i : Nat) (d : D) (b : Bool), es[i]? = some d → bs[i]? = some b → d_is_room [d, .int n] S = .ok (.bl b) S) →
    (fstBad bs = none → ∃ y2 y3, forL ok (tTp [tNm 2, tNm 3]) bodyW (enuD k es) [.sh me, .sh v, x2, x3] S = .nx [.sh me, .sh v, y2, y3] S) ∧
    (∀ j, fstBad bs = some j → ∃ y2 y3, forL ok (tTp [tNm 2, tNm 3]) bodyW (enuD k es) [.sh me, .sh v, x2, x3] S = .er ⟨4, [(0, .int ((k + j : Nat) : Int))]⟩ [.sh me, .sh v, y2, y3] S)
  | [], [], k, x2, x3, _, _ => ⟨fun _ => ⟨x2, x3, by simp [enuD, forL, hok]⟩, fun j h => (by cases h)⟩
  | [], _ :: _, _, _, _, h, _ => by simp at h
  | _ :: _, [], _, _, _, h, _ => by simp at h
  | d :: es, b :: bs, k, x2, x3, hl, hr => by
    have h0 := hr 0 d b rfl rfl
    obtain ⟨i1, i2⟩ := loopW (me := me) (ds := ds) hlen hok es bs (k + 1) (.sh (.int (k : Nat))) (.sh d) (by simpa using hl) fun i e c q1 q2 => hr (i + 1) e c (by simpa using q1) (by simpa using q2)
    have ht : tTp [tNm 2, tNm 3] (.tup [.int (k : Nat), d]) [.sh me, .sh v, x2, x3] = some [.sh me, .sh v, .sh (.int (k : Nat)), .sh d] := rfl
    cases b with
    | true =>
      have hb : bodyW [.sh me, .sh v, .sh (.int (k : Nat)), .sh d] S = .nx [.sh me, .sh v, .sh (.int (k : Nat)), .sh d] S := by
        simp [bodyW, sIf, onS, cNot, cTru, eCall, aCons, aNil, eVar, bnd_ap, Dm.pur, need, eArgs, hlen, h0, dTru, sPass]
      refine ⟨fun h => ?_, fun j h => ?_⟩
      · obtain ⟨y2, y3, e⟩ := i1 (by simpa [fstBad] using h)
        refine ⟨y2, y3, ?_⟩
        simp only [enuD, forL, hok, if_true]
        rw [ht]
        simp only []
        rw [hb]
        exact e
      · obtain ⟨j', e', rfl⟩ := Option.map_eq_some_iff.mp (show (fstBad bs).map (· + 1) = some j from h)
        obtain ⟨y2, y3, e⟩ := i2 j' e'
        refine ⟨y2, y3, ?_⟩
        simp only [enuD, forL, hok, if_true]
        rw [ht]
        simp only []
        rw [hb]
        rw [show k + (j' + 1) = k + 1 + j' by omega]
        exact e
    | false =>
      have hb : bodyW [.sh me, .sh v, .sh (.int (k : Nat)), .sh d] S = .er ⟨4, [(0, .int (k : Nat))]⟩ [.sh me, .sh v, .sh (.int (k : Nat)), .sh d] S := by
        simp [bodyW, sIf, onS, cNot, cTru, eCall, aCons, aNil, eVar, bnd_ap, Dm.pur, need, eArgs, hlen, h0, dTru, sRaise]
      refine ⟨fun h => (by cases h), fun j h => ?_⟩
      have hj : j = 0 := by simpa [fstBad] using h.symm
      subst hj
      refine ⟨.sh (.int (k : Nat)), .sh d, ?_⟩
      simp only [enuD, forL, hok, if_true]
      rw [ht]
      simp only []
      rw [hb]
      simp
end K75
set_option maxRecDepth 100000
set_option maxHeartbeats 2000000
namespace K75
set_option autoImplicit false
open Dm
/-- a sequence of these -/
inductive Sq (S : Sto) : D → List D → Prop
  | lst {xs : List D} : Sq S (.lst xs) xs
  | tup {xs : List D} : Sq S (.tup xs) xs
  | ref {n : Nat} {xs : List D} : S[n]? = some (.lst xs) → Sq S (.ref n) xs
theorem Sq.a {S : Sto} {v : D} {xs : List D} (h : Sq S v xs) : SqA S v xs := by
  cases h with
  | lst => exact sqA_lst
  | tup => exact sqA_tup
  | ref h => exact sqA_ref h
theorem Sq.app {S : Sto} {v : D} {xs : List D} (h : Sq S v xs) (T : Sto) : Sq (S ++ T) v xs := by
  cases h with
  | lst => exact .lst
  | tup => exact .tup
  | ref h => exact .ref (by rw [List.getElem?_append_left (List.getElem?_eq_some_iff.mp h).1]; exact h)
/-- ways whose rooms are these -/
structure Rms (S : Sto) (v : D) (ps : List (D × Rm)) : Prop where
  sq : Sq S v (ps.map (·.1))
  it : ∀ p ∈ ps, Sq S p.1 (p.2.map encP)
theorem Rms.app {S : Sto} {v : D} {ps : List (D × Rm)} (h : Rms S v ps) (T : Sto) : Rms (S ++ T) v ps := ⟨h.sq.app T, fun p hp => (h.it p hp).app T⟩
def used (s : List Rm) : List Nat := LET.filter fun c => decide (c ∈ s.flatMap fun r => r.map (·.1))
def wF (s : List Rm) : List (Nat × D) := [(2, .tup (s.map rT)), (3, .int (s.length : Nat)), (4, .str (used s))]
def WO (s : List Rm) : D := .obj 0 (wF s)
theorem tup_of {S : Sto} {v : D} {xs : List D} (h : Sq S v xs) : fTup [v] S = .ok (.tup xs) S := h.a.tup
theorem len_lim {n : Nat} (h : n ≤ 1000) : n ≤ LIM := by unfold LIM; omega
/-- the tuple of tuples of pairs -/
theorem tw_e {S : Sto} {v x0 : D} {x2 : Sl} {ps : List (D × Rm)} (h : Rms S v ps) (hl : ps.length ≤ 1000) (hr : ∀ p ∈ ps, p.2.length ≤ 1000) :
    eArgs fTup (aCons (eFz (lLc [3] (iIter (eVar 1)) (tNm 3) cYes (eArgs fTup (aCons (eFz (lLc [4, 5] (iIter (eVar 3)) (tTp [(tNm 4), (tNm 5)]) cYes (eTup (aCons (eVar 4) (aCons (eVar 5) aNil))))) aNil)))) aNil) [.sh x0, .sh v, x2, .un, .un, .un] S = .ok (.tup (ps.map fun p => rT p.2)) S := by
  obtain ⟨ok, h1, h2⟩ := h.sq.a.it
  have e := lc_map (own := [3]) (src := iIter (eVar 1)) (t := tNm 3) (r := [.sh x0, .sh v, x2, .un, .un, .un]) (S := S) (ok := ok) (g := fun p : D × Rm => p.1) (f := fun p => rT p.2) (xs := ps)
    (e := eArgs fTup (aCons (eFz (lLc [4, 5] (iIter (eVar 3)) (tTp [(tNm 4), (tNm 5)]) cYes (eTup (aCons (eVar 4) (aCons (eVar 5) aNil))))) aNil)) (by simpa using h1) h2 (len_lim hl) fun p hp => by
      refine ⟨_, rfl, ?_⟩
      obtain ⟨ok, q1, q2⟩ := (h.it p hp).a.it
      have e := lc_map (own := [4, 5]) (src := iIter (eVar 3)) (t := tTp [tNm 4, tNm 5]) (r := [.sh x0, .sh v, x2, .sh p.1, .un, .un]) (S := S) (ok := ok) (g := encP) (f := encP) (xs := p.2)
        (e := eTup (aCons (eVar 4) (aCons (eVar 5) aNil))) (by simpa using q1) q2 (len_lim (hr p hp)) fun z hz => ⟨_, rfl, by simp [wipeD, need, show (2 : Nat) ≤ LIM by decide, encP]⟩
      simp [wipeD, e, fTup, itmS, lstOf, ofO, rT]
  simp only [a_eArgs, a_bnd, a_aCons, a_eFz, e, a_aNil, a_pur, fTup, itmS, lstOf, ofO]
theorem str_join {S : Sto} {l : List Nat} (h : l.length ≤ 1000) : mJoin [] (.lst (l.map fun c => .str [c])) S = .ok (.str l) S := by
  have e : asStrs (l.map fun c => D.str [c]) = some (l.map fun c => [c]) := by
    induction l with
    | nil => rfl
    | cons a l ih => simp [asStrs, ih (by simp at h; omega)]
  have e2 : ∀ l : List Nat, TL.joinL [] (l.map fun c => [c]) = l := fun l => by
    induction l with
    | nil => rfl
    | cons a l ih =>
      cases l with
      | nil => rfl
      | cons b l => simp only [List.map_cons, TL.joinL] at ih ⊢; rw [ih]; rfl
  have e3 : ((l.map fun c => [c]).map List.length).sum = l.length := by
    clear e h
    induction l with
    | nil => rfl
    | cons a l ih => simp at ih ⊢; omega
  unfold mJoin
  simp only [itmS, lstOf, Option.bind_some, e]
  rw [if_pos (by rw [e3]; simpa using len_lim h), e2]
theorem filter_le {α : Type} {p : α → Bool} {l : List α} {n : Nat} (h : l.length ≤ n) : (l.filter p).length ≤ n := Nat.le_trans (List.length_filter_le _ _) h
theorem fM_le {ps : List Rm} (h : ∀ p ∈ ps, p.length ≤ 6) : (ps.flatMap fun p => p.map (·.1)).length ≤ 6 * ps.length := by
  induction ps with
  | nil => simp
  | cons a ps ih =>
    have := ih fun p hp => h p (List.mem_cons_of_mem _ hp)
    have := h a List.mem_cons_self
    simp at this ⊢
    simp at *
    omega

theorem set_last {S : Sto} {c c' : Cell} : (S ++ [c]).set S.length c' = S ++ [c'] := by
  rw [List.set_append]; simp
theorem get_last {S : Sto} {c : Cell} : (S ++ [c])[S.length]? = some c := by simp
theorem it_tup {S : Sto} {xs : List D} : dIter (.tup xs) S = .ok ⟨xs, fun _ => True⟩ S := rfl
theorem pair_t {p : Nat × Nat} {r : Ev} {i j : Nat} : tTp [tNm i, tNm j] (encP p) r = some ((r.set i (.sh (.str [p.1]))).set j (.sh (.int (p.2 : Nat)))) := rfl
theorem in_strs {c : Nat} {l : List Nat} {S : Sto} : gIn (.str [c]) (.lst (l.map fun c => .str [c])) S = .ok (.bl (decide (c ∈ l))) S := by
  have e : (l.map fun c => D.str [c]).all flD = true := by simp [flD]
  have e2 : ((l.map fun c => D.str [c]).any fun z => eqD z (.str [c])) = decide (c ∈ l) := by
    rw [List.any_map]
    by_cases h : c ∈ l
    · simp only [h, decide_true]; exact List.any_eq_true.mpr ⟨c, h, by simp [eqD]⟩
    · simp only [h, decide_false]
      refine List.any_eq_false.mpr fun z hz q => h ?_
      have : z = c := by simpa [eqD] using q
      exact this ▸ hz
  simp only [gIn, inS, itmS, lstOf, e, flD, Bool.and_self, if_true, e2, ofO]
theorem tw_ok {S : Sto} {v : D} {ps : List (D × Rm)} (h : Rms S v ps) (hl : ps.length ≤ 100) (hr : ∀ p ∈ ps, p.2.length ≤ 6) :
    d_Wants_take_ways [.ref S.length, v] (S ++ [.obj 0 []]) = .ok .non (S ++ [.obj 0 (wF (ps.map (·.2)))]) := by
  have e0 := tw_e (x0 := .ref S.length) (x2 := .un) (h.app [.obj 0 []]) (by omega) fun p hp => Nat.le_trans (hr p hp) (by omega)
  have hT : (ps.map fun p => rT p.2) = (ps.map (·.2)).map rT := by simp
  rw [hT] at e0
  generalize hs : ps.map (·.2) = s at e0 ⊢
  have sl : s.length ≤ 100 := by rw [← hs]; simpa using hl
  have sr : ∀ r ∈ s, r.length ≤ 6 := fun r hr' => by
    rw [← hs] at hr'
    obtain ⟨p, hp, rfl⟩ := List.mem_map.mp hr'
    exact hr p hp
  have fl := fM_le sr
  unfold d_Wants_take_ways m_Wants_take_ways
  simp only [fnM_ap]
  rw [seq_nx (r' := [.sh (.ref S.length), .sh v, .un, .un, .un, .un]) (S' := S ++ [.obj 0 [(2, .tup (s.map rT))]]) (by
    show sFld [0] 2 _ _ [.sh (.ref S.length), .sh v, .un, .un, .un, .un] _ = _
    unfold sFld
    simp only [a_bnd, e0, a_eVar, List.getElem?_cons_zero, a_pur, onS, get_last]
    simp [set_last, putD])]
  rw [seq_nx (r' := [.sh (.ref S.length), .sh v, .un, .un, .un, .un]) (S' := S ++ [.obj 0 [(2, .tup (s.map rT)), (3, .int (s.length : Nat))]]) (by
    unfold sFld
    simp [dFld, fldsOf, get_last, lk, fLen, itmS, lstOf, ofO, onS, set_last, putD])]
  have e2 := lc2_map (own := [3, 4, 5]) (src := iIter (eUn (dFld [0] 2) (eVar 0))) (t := tNm 3) (own1 := [4, 5]) (src1 := iIter (eVar 3)) (t1 := tTp [tNm 4, tNm 5]) (e := eVar 4) (r := [.sh (.ref S.length), .sh v, .un, .un, .un, .un]) (S := S ++ [.obj 0 [(2, .tup (s.map rT)), (3, .int (s.length : Nat))]]) (ok := fun _ => True)
    (xs := s) (g := rT) (ys := fun r => r) (g1 := encP) (f := fun p => .str [p.1]) (by simp [dFld, fldsOf, get_last, lk, dIter]) trivial (by
      have : (s.flatMap fun r => r).length = (s.flatMap fun r => r.map (·.1)).length := by simp [List.length_flatMap]
      rw [this]; exact len_lim (by omega)) fun r hr' => by
      refine ⟨_, fun _ => True, rfl, ?_, trivial, fun p hp => ⟨_, pair_t, ?_⟩⟩
      · simp [wipeD, dIter, rT]
      · simp [wipeD]
  have e3 : ((s.flatMap fun r => r).map fun p => D.str [p.1]) = (s.flatMap fun r => r.map (·.1)).map fun c => .str [c] := by
    simp only [List.map_flatMap, List.map_map, Function.comp_def]
  rw [e3] at e2
  rw [seq_nx (asg_nm (d := .lst ((s.flatMap fun r => r.map (·.1)).map fun c => .str [c])) (by simp only [a_eFz, a_bnd]; rw [e2]; rfl))]
  have e4 := lc_fil (own := [4]) (src := iIter (eC (.str [97, 98, 99, 100, 48, 49]))) (t := tNm 4) (c := cBl (eBin gIn (eVar 4) (eVar 2))) (e := eVar 4) (r := [.sh (.ref S.length), .sh v, .sh (.lst ((s.flatMap fun r => r.map (·.1)).map fun c => .str [c])), .un, .un, .un]) (S := S ++ [.obj 0 [(2, .tup (s.map rT)), (3, .int (s.length : Nat))]]) (ok := fun _ => True)
    (xs := LET) (g := fun c => .str [c]) (p := fun c => decide (c ∈ s.flatMap fun r => r.map (·.1))) (f := fun c => .str [c]) (by simp [dIter]) trivial (by simp [LIM]) fun c hc => by
      refine ⟨_, rfl, ?_, fun _ => ?_⟩
      · simp [wipeD, in_strs]
      · simp [wipeD]
  have e5 := str_join (S := S ++ [.obj 0 [(2, .tup (s.map rT)), (3, .int (s.length : Nat))]]) (l := used s) (filter_le (by simp))
  unfold sFld
  simp only [List.set] at *
  unfold used at e5
  simp only [a_bnd, eS1, a_eC, a_eFz, e4, a_pur, e5, a_eVar, List.getElem?_cons_zero, onS, get_last]
  simp [set_last, putD, outS, wF, used]
end K75
set_option maxRecDepth 100000
set_option maxHeartbeats 2000000
namespace K75
set_option autoImplicit false
open Dm
theorem enu_of {S : Sto} {v me : D} {xs : List D} {x2 x3 : Sl} (h : Sq S v xs) : ∃ ok, iEnu (eVar 1) [.sh me, .sh v, x2, x3] S = .ok ⟨enuD 0 xs, ok⟩ S ∧ ok S := by
  cases h with
  | lst => exact ⟨fun _ => True, by simp [iEnu, dIter], trivial⟩
  | tup => exact ⟨fun _ => True, by simp [iEnu, dIter], trivial⟩
  | @ref n xs h => exact ⟨fun S' => S'[n]? = some (.lst xs), by simp [iEnu, dIter, h], h⟩
theorem int_lt {a b : Int} {S : Sto} : gLt (.int a) (.int b) S = .ok (.bl (decide (a < b))) S := rfl
theorem int_le {a b : Int} {S : Sto} : gLe (.int a) (.int b) S = .ok (.bl (decide (a ≤ b))) S := rfl
/-- the head of __init__ lets these pass -/
theorem init_hd {S : Sto} {v me : D} {es : List D} (h : Sq S v es) (h0 : 0 < es.length) (h6 : es.length ≤ 6) :
    sIf (cOr (cNot (cTru (eCall 1 d_is_sequence (aCons (eVar 1) aNil)))) (cNot (cBl (eChain gLt gLe (eC (.int 0)) (eArgs fLen (aCons (eVar 1) aNil)) (eC (.int 6))))))
      (sRaise 4 [0] (aCons (eUn gNeg (eC (.int 1))) aNil)) sPass [.sh me, .sh v, .un, .un] S = .nx [.sh me, .sh v, .un, .un] S := by
  have a := h.a
  have h0' : (0 : Int) < es.length := by omega
  have h6' : (es.length : Int) ≤ 6 := by omega
  simp [sIf, onS, need, a.seq, dTru, eChain, a.len, int_lt, int_le, h0, h6, h0', h6', sPass]
theorem init_bad {S : Sto} {v me : D} {es : List D} {bs : List Bool} {j : Nat} (h : Sq S v es) (h0 : 0 < es.length) (h6 : es.length ≤ 6) (hb : bs.length = es.length)
    (hr : ∀ (i : Nat) (d : D) (b : Bool), es[i]? = some d → bs[i]? = some b → d_is_room [d, .int es.length] S = .ok (.bl b) S) (hj : fstBad bs = some j) :
    d_Wants___init__ [me, v] S = .er ⟨4, [(0, .int (j : Nat))]⟩ S := by
  obtain ⟨ok, e1, e2⟩ := enu_of (me := me) (x2 := .un) (x3 := .un) h
  obtain ⟨y2, y3, e3⟩ := (loopW (me := me) (ds := es) h.a.len e2 es bs 0 .un .un hb hr).2 j hj
  rw [Nat.zero_add] at e3
  unfold d_Wants___init__ m_Wants___init__
  simp only [fnM_ap]
  refine (congrArg outS (seq_nx (init_hd (me := me) h h0 h6))).trans ?_
  refine congrArg outS (seq_er (r' := [.sh me, .sh v, y2, y3]) ?_)
  unfold sFor
  rw [e1]
  exact e3
theorem init_ok {S : Sto} {v : D} {ps : List (D × Rm)} (h : Rms S v ps) (h0 : 0 < ps.length) (h6 : ps.length ≤ 6) (hr6 : ∀ p ∈ ps, p.2.length ≤ 6)
    (hr : ∀ p ∈ ps, d_is_room [p.1, .int ps.length] (S ++ [.obj 0 []]) = .ok (.bl true) (S ++ [.obj 0 []])) :
    d_Wants___init__ [.ref S.length, v] (S ++ [.obj 0 []]) = .ok .non (S ++ [.obj 0 (wF (ps.map (·.2)))]) := by
  have h' := (h.app [.obj 0 []]).sq
  obtain ⟨ok, e1, e2⟩ := enu_of (me := .ref S.length) (x2 := .un) (x3 := .un) h'
  have hl : (ps.map (·.1)).length = ps.length := by simp
  have fb : ∀ n, fstBad (List.replicate n true) = none := fun n => by
    induction n with
    | zero => rfl
    | succ n ih => simp [List.replicate_succ, fstBad, ih]
  obtain ⟨y2, y3, e3⟩ := (loopW (me := .ref S.length) (ds := ps.map (·.1)) h'.a.len e2 (ps.map (·.1)) (List.replicate ps.length true) 0 .un .un (by simp) fun i d b q1 q2 => by
    obtain ⟨p, hp, rfl⟩ := List.mem_map.mp (List.mem_of_getElem? q1)
    have : b = true := (List.mem_replicate.mp (List.mem_of_getElem? q2)).2
    rw [this, hl]
    exact hr p hp).1 (fb _)
  unfold d_Wants___init__ m_Wants___init__
  simp only [fnM_ap]
  refine (congrArg outS (seq_nx (init_hd (me := .ref S.length) h' (by omega) (by omega)))).trans ?_
  refine congrArg outS (a₂ := .nx [.sh (.ref S.length), .sh v, y2, y3] (S ++ [.obj 0 (wF (ps.map (·.2)))])) ?_
  refine (seq_nx (r' := [.sh (.ref S.length), .sh v, y2, y3]) (S' := S ++ [.obj 0 []]) (by unfold sFor; rw [e1]; exact e3)).trans ?_
  have e4 := tw_ok h (by omega) hr6
  simp [sExp, onS, eMeth, isObj, fldsOf, get_last, lk, need, e4]
theorem mk_ok {S : Sto} {v : D} {ps : List (D × Rm)} (hb : bdS S.length S = true) (h : Rms S v ps) (h0 : 0 < ps.length) (h6 : ps.length ≤ 6) (hr6 : ∀ p ∈ ps, p.2.length ≤ 6)
    (hr : ∀ p ∈ ps, d_is_room [p.1, .int ps.length] (S ++ [.obj 0 []]) = .ok (.bl true) (S ++ [.obj 0 []])) :
    mkD 0 d_Wants___init__ [v] S = .ok (WO (ps.map (·.2))) S := by
  have hw : bdf S.length (wF (ps.map (·.2))) = true := by
    have hp : ∀ r : Rm, bds S.length (r.map encP) = true := fun r => by
      induction r with
      | nil => rfl
      | cons p r ih => simp [bds, ih, encP, D.bd]
    have : ∀ s : List Rm, bds S.length (s.map rT) = true := fun s => by
      induction s with
      | nil => rfl
      | cons r s ih => simp [bds, ih, rT, D.bd, hp]
    have t := this (ps.map (·.2))
    simp only [wF, bdf, D.bd, t, Bool.and_self]
  unfold mkD
  rw [init_ok h h0 h6 hr6 hr]
  simp only [get_last]
  rw [if_pos ⟨by simp, trivial, hw, by simpa using hb⟩]
  simp [WO]
theorem mk_er {S : Sto} {v : D} {x : Exc} (hb : bdS S.length S = true) (hx : bdf S.length x.fs = true) (h : d_Wants___init__ [.ref S.length, v] (S ++ [.obj 0 []]) = .er x (S ++ [.obj 0 []])) : mkD 0 d_Wants___init__ [v] S = .er x S := by
  unfold mkD
  rw [h]
  simp only []
  rw [if_pos ⟨by simp, hx, by simpa using hb⟩]
  simp
theorem init_no {S : Sto} {v me : D} (h : (d_is_sequence [v] S = .ok (.bl false) S) ∨ ∃ es, Sq S v es ∧ (es.length = 0 ∨ 6 < es.length)) : d_Wants___init__ [me, v] S = .er ⟨4, [(0, .int (-1))]⟩ S := by
  unfold d_Wants___init__ m_Wants___init__
  simp only [fnM_ap]
  refine congrArg outS (seq_er (r' := [.sh me, .sh v, .un, .un]) ?_)
  rcases h with h | ⟨es, h, hl⟩
  · simp [sIf, onS, need, h, dTru, sRaise, gNeg]
  · have a := h.a
    rcases hl with hl | hl
    · have : ¬ ((0 : Int) < es.length) := by omega
      simp [sIf, onS, need, a.seq, dTru, eChain, a.len, int_lt, int_le, hl, this, sRaise, gNeg]
    · have h0 : (0 : Int) < es.length := by omega
      have h6 : ¬ ((es.length : Int) ≤ 6) := by omega
      have h0' : 0 < es.length := by omega
      have h6' : ¬ es.length ≤ 6 := by omega
      simp [sIf, onS, need, a.seq, dTru, eChain, a.len, int_lt, int_le, h0, h6, h0', h6', sRaise, gNeg]
/-- rooms that are lawful are let -/
theorem rm_all {n : Nat} : ∀ {r : Rm}, (∀ p ∈ r, p.1 ∈ LET ∧ p.2 < n) → rmAll n (r.map encP) = some (r.map fun p => LET.idxOf p.1)
  | [], _ => rfl
  | p :: r, h => by
    obtain ⟨h1, h2⟩ := h p List.mem_cons_self
    have ih := rm_all fun q hq => h q (List.mem_cons_of_mem _ hq)
    have h2' : (p.2 : Int) < n := by omega
    have e : rmP n (encP p) = some (LET.idxOf p.1) := by
      simp only [rmP, encP, itD, isSq, isLt, below, ixL, h1, h2', Int.natCast_nonneg, decide_true, Bool.and_self, and_self, if_true]
    rw [List.map_cons, rmAll, e, ih]
    rfl
theorem incB_of : ∀ {l : List Nat}, l.Pairwise (· < ·) → incB l = true
  | [], _ => rfl
  | [a], _ => rfl
  | a :: b :: r, h => by
    have h1 := (List.pairwise_cons.mp h).1 b List.mem_cons_self
    rw [incB, incB_of (List.pairwise_cons.mp h).2]
    simp [h1]
theorem roomB_of {n : Nat} {r : Rm} (h : RmOk n r) : roomB n (r.map encP) = true := by
  unfold roomB
  rw [rm_all fun p hp => ⟨h.let_ p hp, h.lt p hp⟩]
  refine incB_of ?_
  have := h.inc
  unfold Inc at this
  rw [List.pairwise_map] at this
  rw [List.pairwise_map]
  exact this
theorem gd_encP (p : Nat × Nat) : gd (encP p) = true := by
  simp [gd, pl, itD, encP, strOk, LIM]
theorem gd_all (r : Rm) : (r.map encP).all gd = true := by
  simp [List.all_map, gd_encP]
/-- at most six letters, each once -/
theorem inc_len {l : List Nat} (h : Inc l) (hm : ∀ c ∈ l, c ∈ LET) : l.length ≤ 6 := by
  have h1 : (l.map LET.idxOf).Pairwise (· < ·) := by rw [List.pairwise_map]; exact h
  have h2 : ∀ i ∈ l.map LET.idxOf, i < 6 := fun i hi => by
    obtain ⟨c, hc, rfl⟩ := List.mem_map.mp hi
    exact List.idxOf_lt_length_of_mem (hm c hc)
  have h3 : ∀ (l : List Nat) (k : Nat), l.Pairwise (· < ·) → (∀ i ∈ l, k ≤ i ∧ i < 6) → l.length ≤ 6 - k := fun l => by
    induction l with
    | nil => intros; simp
    | cons a l ih =>
      intro k hp hi
      have h1 := hi a List.mem_cons_self
      have h2 := ih (a + 1) (List.pairwise_cons.mp hp).2 fun i hii => ⟨(List.pairwise_cons.mp hp).1 i hii, (hi i (List.mem_cons_of_mem _ hii)).2⟩
      simp only [List.length_cons]
      omega
  have := h3 _ 0 h1 fun i hi => ⟨Nat.zero_le _, h2 i hi⟩
  simpa using this
theorem RmOk.len {n : Nat} {r : Rm} (h : RmOk n r) : r.length ≤ 6 := by
  have := inc_len h.inc fun c hc => by
    obtain ⟨p, hp, rfl⟩ := List.mem_map.mp hc
    exact h.let_ p hp
  simpa using this
/-- wants of lawful rooms, however they are held -/
theorem make_ok {S : Sto} {v : D} {ps : List (D × Rm)} (hb : bdS S.length S = true) (h : Rms S v ps) (ok : StOk (ps.map (·.2))) : mkD 0 d_Wants___init__ [v] S = .ok (WO (ps.map (·.2))) S := by
  have p1 := ok.pos
  have p2 := ok.most
  rw [List.length_map] at p1 p2
  have rm : ∀ p ∈ ps, RmOk ps.length p.2 := fun p hp => by simpa using ok.room p.2 (List.mem_map_of_mem hp)
  refine mk_ok hb h p1 p2 (fun p hp => (rm p hp).len) fun p hp => ?_
  have q := (h.app [.obj 0 []]).it p hp
  have := room_sq (n := ps.length) q.a (gd_all p.2) (by have := (rm p hp).len; simp; omega)
  rw [roomB_of (rm p hp)] at this
  exact this
end K75
set_option maxRecDepth 100000
set_option maxHeartbeats 2000000
namespace K75
set_option autoImplicit false
open Dm
section
variable {S : Sto} {s t : List Rm}
@[simp] theorem fld2 : dFld [0] 2 (WO s) S = .ok (.tup (s.map rT)) S := by simp [dFld, WO, fldsOf, wF, lk]
@[simp] theorem fld3 : dFld [0] 3 (WO s) S = .ok (.int (s.length : Nat)) S := by simp [dFld, WO, fldsOf, wF, lk]
@[simp] theorem fld4 : dFld [0] 4 (WO s) S = .ok (.str (used s)) S := by simp [dFld, WO, fldsOf, wF, lk]
@[simp] theorem obj6 : isObj 0 6 (WO s) S = .ok true S := by simp [isObj, WO, fldsOf, wF, lk]
@[simp] theorem obj7 : isObj 0 7 (WO s) S = .ok true S := by simp [isObj, WO, fldsOf, wF, lk]
@[simp] theorem obj8 : isObj 0 8 (WO s) S = .ok true S := by simp [isObj, WO, fldsOf, wF, lk]
@[simp] theorem obj9 : isObj 0 9 (WO s) S = .ok true S := by simp [isObj, WO, fldsOf, wF, lk]
@[simp] theorem obj10 : isObj 0 10 (WO s) S = .ok true S := by simp [isObj, WO, fldsOf, wF, lk]
theorem eq_encP {p q : Nat × Nat} : eqD (encP p) (encP q) = decide (p = q) := by
  obtain ⟨a, b⟩ := p
  obtain ⟨c, d⟩ := q
  simp only [encP, eqD, eqDs, Bool.and_true]
  by_cases h : a = c
  · by_cases h2 : b = d
    · simp [h, h2]
    · simp [h, h2]; omega
  · simp [h]
theorem eq_encs : ∀ {r q : Rm}, eqDs (r.map encP) (q.map encP) = decide (r = q)
  | [], [] => rfl
  | [], _ :: _ => rfl
  | _ :: _, [] => rfl
  | p :: r, p' :: q => by
    simp only [List.map_cons, eqDs, eq_encP, eq_encs (r := r) (q := q), List.cons.injEq, Bool.decide_and]
theorem eq_rT {r q : Rm} : eqD (rT r) (rT q) = decide (r = q) := by simp only [rT, eqD, eq_encs]
theorem eq_rTs : ∀ {s t : List Rm}, eqDs (s.map rT) (t.map rT) = decide (s = t)
  | [], [] => rfl
  | [], _ :: _ => rfl
  | _ :: _, [] => rfl
  | p :: r, p' :: q => by
    simp only [List.map_cons, eqDs, eq_rT, eq_rTs (s := r) (t := q), List.cons.injEq, Bool.decide_and]
def SgOk (s : List Rm) : Prop := ∀ r ∈ s, ∀ p ∈ r, p.1 < 1114112
theorem wf_encP {p : Nat × Nat} {n : Nat} (h : p.1 < 1114112) : wfD (n + 1) (encP p) = true := by simp [encP, wfD, wfDs, h]
theorem wf_rm {n : Nat} : ∀ {r : Rm}, (∀ p ∈ r, p.1 < 1114112) → wfDs (n + 1) (r.map encP) = true
  | [], _ => by simp [wfDs]
  | p :: r, h => by
    rw [List.map_cons, wfDs, wf_encP (h p List.mem_cons_self), wf_rm fun q hq => h q (List.mem_cons_of_mem _ hq)]; rfl
theorem wf_rT {n : Nat} : ∀ {s : List Rm}, SgOk s → wfDs (n + 2) (s.map rT) = true
  | [], _ => by simp [wfDs]
  | r :: s, h => by
    rw [List.map_cons, wfDs, wf_rT fun q hq => h q (List.mem_cons_of_mem _ hq), rT, wfD, wf_rm (h r List.mem_cons_self)]; rfl
theorem wf_rL {n : Nat} : ∀ {s : List Rm}, SgOk s → wfDs (n + 2) (s.map rL) = true
  | [], _ => by simp [wfDs]
  | r :: s, h => by
    rw [List.map_cons, wfDs, wf_rL fun q hq => h q (List.mem_cons_of_mem _ hq), rL, wfD, wf_rm (h r List.mem_cons_self)]; rfl
theorem let_lt {c : Nat} (h : c ∈ LET) : c < 1114112 := by
  have : c = 97 ∨ c = 98 ∨ c = 99 ∨ c = 100 ∨ c = 48 ∨ c = 49 := by simpa using h
  omega
theorem StOk.sg (h : StOk s) : SgOk s := fun r hr p hp => let_lt ((h.room r hr).let_ p hp)
theorem eqS_tup (h : SgOk s) (h' : SgOk t) : eqS S (.tup (s.map rT)) (.tup (t.map rT)) = some (decide (s = t)) := by
  simp only [eqS, flD, Bool.false_and, res, wfD, wf_rT h, wf_rT h', Bool.and_self, if_true, eqD, eq_rTs]
  rfl
theorem eq_ok (h : SgOk s) (h' : SgOk t) : d_Wants___eq__ [WO s, WO t] S = .ok (.bl (decide (s = t))) S := by
  have e : gEq (.tup (s.map rT)) (.tup (t.map rT)) S = .ok (.bl (decide (s = t))) S := by simp only [gEq, eqS_tup h h', ofO]
  simp [d_Wants___eq__, m_Wants___eq__, fnM, sRet, onS, gIsi, kdS, fK, ofO, dTru, e, show WO t = .obj 0 (wF t) from rfl, List.lookup]
  simp [show D.obj 0 (wF t) = WO t from rfl, e]
theorem oe_ok (h : SgOk s) (h' : SgOk t) : gOE 0 (nfK 0) d_Wants___eq__ (WO s) (WO t) S = .ok (.bl (decide (s = t))) S := by
  unfold gOE
  rw [show fldsOf S (WO s) = some (0, wF s) from rfl, show kdS S (WO t) = some (.cls 0) from rfl]
  simp [nfK, noE, eq_ok h h']
theorem one_ok (h : SgOk s) (h' : SgOk t) : gONe 0 (nfK 0) d_Wants___eq__ (WO s) (WO t) S = .ok (.bl (!decide (s = t))) S := by
  unfold gONe
  rw [a_bnd, oe_ok h h']
  rfl
/-- wants are no tuple -/
theorem oe_tup {xs : List D} : gOE 0 (nfK 0) d_Wants___eq__ (WO s) (.tup xs) S = .ok (.bl false) S := by
  unfold gOE
  rw [show fldsOf S (WO s) = some (0, wF s) from rfl, show kdS S (.tup xs) = some .tup from rfl]
  simp [nfK, noE, d_Wants___eq__, m_Wants___eq__, fnM, sRet, onS, gIsi, kdS, fK, ofO, dTru]
/-! ### after, letters_at -/
def encO : Option Nat → D
  | none => .non
  | some n => .int (n : Nat)
def aftR (r : Rm) (d : D) : Option Nat := (r.find? fun p => eqD (.str [p.1]) d).map (·.2)
theorem eq_fl {x y : D} (h : flD x = true) (h' : flD y = true) : gEq x y S = .ok (.bl (eqD x y)) S := by simp [gEq, eqS, h, h', ofO]
theorem loopA {me rm d : D} (hd : flD d = true) : ∀ (r : Rm) (x3 x4 : Sl), (∃ y3 y4, aftR r d = none ∧ forL (fun _ => True) (tTp [(tNm 3), (tNm 4)]) (sIf (cBl (eBin gEq (eVar 3) (eVar 2))) (sRet (eVar 4)) sPass) (r.map encP) [.sh me, .sh rm, .sh d, x3, x4] S = .nx [.sh me, .sh rm, .sh d, y3, y4] S) ∨
    (∃ n, aftR r d = some n ∧ forL (fun _ => True) (tTp [(tNm 3), (tNm 4)]) (sIf (cBl (eBin gEq (eVar 3) (eVar 2))) (sRet (eVar 4)) sPass) (r.map encP) [.sh me, .sh rm, .sh d, x3, x4] S = .rt (.int (n : Nat)) S)
  | [], x3, x4 => .inl ⟨x3, x4, rfl, by simp [forL]⟩
  | p :: r, x3, x4 => by
    by_cases q : eqD (.str [p.1]) d = true
    · refine .inr ⟨p.2, by simp [aftR, q], ?_⟩
      simp only [List.map_cons, forL, if_true, pair_t, List.set]
      simp [sIf, onS, eq_fl (x := .str [p.1]) rfl hd, q, sRet]
    · have q' : eqD (.str [p.1]) d = false := by simpa using q
      have hb : (sIf (cBl (eBin gEq (eVar 3) (eVar 2))) (sRet (eVar 4)) sPass) [.sh me, .sh rm, .sh d, .sh (.str [p.1]), .sh (.int (p.2 : Nat))] S = .nx [.sh me, .sh rm, .sh d, .sh (.str [p.1]), .sh (.int (p.2 : Nat))] S := by
        simp [sIf, onS, eq_fl (x := .str [p.1]) rfl hd, q', sPass]
      have ea : aftR (p :: r) d = aftR r d := by simp [aftR, q']
      rw [ea]
      simp only [List.map_cons, forL, if_true, pair_t, List.set]
      rw [hb]
      exact loopA hd r _ _
theorem below_n {n i : Nat} (h : i < n) : below n (.int (i : Nat)) = true := by
  have : (i : Int) < n := by omega
  simp [below, this]
theorem ix_tup {xs : List D} {i : Nat} {x : D} (h : xs[i]? = some x) : gIx (.tup xs) (.int (i : Nat)) S = .ok x S := by simp [gIx, itmS, atD_nat h, ofO]
theorem ix_lst {xs : List D} {i : Nat} {x : D} (h : xs[i]? = some x) : gIx (.lst xs) (.int (i : Nat)) S = .ok x S := by simp [gIx, itmS, lstOf, atD_nat h, ofO]
theorem after_ok {i : Nat} {r : Rm} {d : D} (hr : s[i]? = some r) (hd : flD d = true) : d_Wants_after [WO s, .int (i : Nat), d] S = .ok (encO (aftR r d)) S := by
  have hi := (List.getElem?_eq_some_iff.mp hr).1
  have e1 := below_ok (S := S) (d := .int (i : Nat)) rfl (n := s.length)
  rw [below_n hi] at e1
  have e2 : gIx (.tup (s.map rT)) (.int (i : Nat)) S = .ok (rT r) S := ix_tup (by rw [List.getElem?_map, hr]; rfl)
  unfold d_Wants_after m_Wants_after
  simp only [fnM_ap]
  have h1 : (sIf (cNot (cTru (eCall 2 d_is_number_below (aCons (eVar 1) (aCons (eUn (dFld [0] 3) (eVar 0)) aNil))))) (sRaise 6 [5] (aCons (eVar 1) aNil)) sPass) [.sh (WO s), .sh (.int (i : Nat)), .sh d, .un, .un] S = .nx [.sh (WO s), .sh (.int (i : Nat)), .sh d, .un, .un] S := by
    simp [sIf, onS, need, e1, dTru, sPass]
  have h2 : iIter (eBin gIx (eUn (dFld [0] 2) (eVar 0)) (eVar 1)) [.sh (WO s), .sh (.int (i : Nat)), .sh d, .un, .un] S = .ok ⟨r.map encP, fun _ => True⟩ S := by
    simp [e2, rT, dIter]
  refine (congrArg outS (seq_nx h1)).trans ?_
  rcases loopA (S := S) (me := WO s) (rm := .int (i : Nat)) hd r .un .un with ⟨y3, y4, q, e⟩ | ⟨n, q, e⟩
  · rw [q]
    refine (congrArg outS (seq_nx (r' := [.sh (WO s), .sh (.int (i : Nat)), .sh d, y3, y4]) (S' := S) ?_)).trans (by simp [sRet, onS, outS, encO])
    unfold sFor; rw [h2]; exact e
  · rw [q]
    refine congrArg outS (seq_rt (d := .int (n : Nat)) (S' := S) ?_)
    unfold sFor; rw [h2]; exact e
theorem after_er {v d : D} (hp : pl v = true) (hv : below s.length v = false) : d_Wants_after [WO s, v, d] S = .er ⟨6, [(5, v)]⟩ S := by
  have e1 := below_ok (S := S) (d := v) hp (n := s.length)
  rw [hv] at e1
  unfold d_Wants_after m_Wants_after
  simp only [fnM_ap]
  exact congrArg outS (seq_er (r' := [.sh (WO s), .sh v, .sh d, .un, .un]) (by simp [sIf, onS, need, e1, dTru, sRaise]))
theorem letters_ok {i : Nat} {r : Rm} (hr : s[i]? = some r) (hl : r.length ≤ 6) : d_Wants_letters_at [WO s, .int (i : Nat)] S = .ok (.str (r.map (·.1))) S := by
  have hi := (List.getElem?_eq_some_iff.mp hr).1
  have e1 := below_ok (S := S) (d := .int (i : Nat)) rfl (n := s.length)
  rw [below_n hi] at e1
  have e2 : gIx (.tup (s.map rT)) (.int (i : Nat)) S = .ok (rT r) S := ix_tup (by rw [List.getElem?_map, hr]; rfl)
  unfold d_Wants_letters_at m_Wants_letters_at
  simp only [fnM_ap]
  have h1 : (sIf (cNot (cTru (eCall 2 d_is_number_below (aCons (eVar 1) (aCons (eUn (dFld [0] 3) (eVar 0)) aNil))))) (sRaise 6 [5] (aCons (eVar 1) aNil)) sPass) [.sh (WO s), .sh (.int (i : Nat)), .un, .un] S = .nx [.sh (WO s), .sh (.int (i : Nat)), .un, .un] S := by
    simp [sIf, onS, need, e1, dTru, sPass]
  have h2 : iIter (eBin gIx (eUn (dFld [0] 2) (eVar 0)) (eVar 1)) [.sh (WO s), .sh (.int (i : Nat)), .un, .un] S = .ok ⟨r.map encP, fun _ => True⟩ S := by
    simp [e2, rT, dIter]
  have e3 := lc_map (own := [2, 3]) (t := tTp [tNm 2, tNm 3]) (e := eVar 2) (f := fun p => .str [p.1]) h2 trivial (len_lim (by omega)) fun p hp => ⟨_, pair_t, by simp [wipeD]⟩
  have e4 : (r.map fun p => D.str [p.1]) = (r.map (·.1)).map fun c => .str [c] := by simp
  rw [e4] at e3
  have e5 := str_join (S := S) (l := r.map (·.1)) (by simp; omega)
  refine (congrArg outS (seq_nx h1)).trans ?_
  refine congrArg outS (ret_e ?_)
  simp only [eS1, a_bnd, a_eC, a_eFz, e3, a_pur, e5]
theorem letters_er {v : D} (hp : pl v = true) (hv : below s.length v = false) : d_Wants_letters_at [WO s, v] S = .er ⟨6, [(5, v)]⟩ S := by
  have e1 := below_ok (S := S) (d := v) hp (n := s.length)
  rw [hv] at e1
  unfold d_Wants_letters_at m_Wants_letters_at
  simp only [fnM_ap]
  exact congrArg outS (seq_er (r' := [.sh (WO s), .sh v, .un, .un]) (by simp [sIf, onS, need, e1, dTru, sRaise]))
end
end K75
set_option maxRecDepth 100000
set_option maxHeartbeats 2000000
namespace K75
set_option autoImplicit false
open Dm
section
variable {S : Sto} {s t : List Rm}
def anyRow : D → Bool
  | .str w => decide (w.length ≤ 200) && w.all fun c => decide (c ∈ LET)
  | _ => false
theorem int_ge {a b : Int} : gGe (.int a) (.int b) S = .ok (.bl (decide (b ≤ a))) S := rfl
theorem int_gt {a b : Int} : gGt (.int a) (.int b) S = .ok (.bl (decide (b < a))) S := rfl
theorem str_in {c : Nat} {l : List Nat} : gIn (.str [c]) (.str l) S = .ok (.bl (decide (c ∈ l))) S := rfl
theorem all_bls {l : List Bool} : fAll [.lst (l.map D.bl)] S = .ok (.bl (l.all id)) S := by
  have := asBls_map (fun b : Bool => b) l
  simp at this
  simp [fAll, lstOf, this, ofO]
theorem anyrow_ok {d : D} (h : pl d = true) (hl : strOk d = true) : d_is_any_row [d] S = .ok (.bl (anyRow d)) S := by
  have ht := text_ok (S := S) h
  cases d with
  | str w =>
    have hw : w.length ≤ LIM := by simpa [strOk] using hl
    by_cases h2 : w.length ≤ 200
    · have h2' : (w.length : Int) ≤ 200 := by omega
      have e := lc_map (own := [1]) (src := iIter (eVar 0)) (t := tNm 1) (e := eBin gIn (eVar 1) (eC (.str [97, 98, 99, 100, 48, 49]))) (r := [.sh (.str w), .un]) (S := S) (ok := fun _ => True) (xs := w) (g := fun c => .str [c]) (f := fun c => .bl (decide (c ∈ LET))) (by simp [dIter]) trivial hw fun c hc => ⟨_, rfl, by simp [wipeD, str_in]⟩
      have e2 : (w.map fun c => D.bl (decide (c ∈ LET))) = (w.map fun c => decide (c ∈ LET)).map D.bl := by simp
      rw [e2] at e
      have e3 := all_bls (S := S) (l := w.map fun c => decide (c ∈ LET))
      unfold d_is_any_row m_is_any_row
      simp only [fnM_ap]
      refine congrArg outS (ret_e ?_)
      have e5 : eArgs fAll (aCons (eFz (lLc [1] (iIter (eVar 0)) (tNm 1) cYes (eBin gIn (eVar 1) (eC (.str [97, 98, 99, 100, 48, 49]))))) aNil) [.sh (.str w), .un] S = .ok (.bl (anyRow (.str w))) S := by
        simp only [a_eArgs, a_bnd, a_aCons, a_eFz, e, a_pur, a_aNil, e3, anyRow, h2, decide_true, Bool.true_and, List.all_map]
        rfl
      simp [need, ht, isTx, dTru, fLen, hw, int_le, h2', h2]
      simpa using e5
    · have h2' : ¬ (w.length : Int) ≤ 200 := by omega
      simp [d_is_any_row, m_is_any_row, fnM, sRet, onS, need, ht, isTx, dTru, fLen, hw, int_le, h2', h2, anyRow]
  | ref _ => cases h
  | obj _ _ => cases h
  | _ => simp [d_is_any_row, m_is_any_row, fnM, sRet, onS, need, ht, isTx, dTru, anyRow]
/-! ### rows walked -/
def wk (s : List Rm) : Nat → List Nat → Option Nat
  | i, [] => some i
  | i, c :: w => match aftR (s[i]?.getD []) (.str [c]) with
    | none => none
    | some j => wk s j w
theorem aft_lt {r : Rm} {d : D} {n j : Nat} (h : ∀ p ∈ r, p.2 < n) (e : aftR r d = some j) : j < n := by
  unfold aftR at e
  obtain ⟨p, hp, rfl⟩ := Option.map_eq_some_iff.mp e
  exact h p (List.mem_of_find?_eq_some hp)
theorem wk_lt (ok : StOk s) : ∀ {w : List Nat} {i j : Nat}, i < s.length → wk s i w = some j → j < s.length
  | [], i, j, hi, e => by cases e; exact hi
  | c :: w, i, j, hi, e => by
    unfold wk at e
    split at e
    · cases e
    · rename_i k q
      refine wk_lt ok ?_ e
      refine aft_lt (fun p hp => ?_) q
      have : (s[i]?.getD []) = s[i] := by simp [hi]
      rw [this] at hp
      exact (ok.room _ (List.getElem_mem hi)).lt p hp
theorem st_at {i : Nat} (hi : i < s.length) : s[i]? = some (s[i]?.getD []) := by simp [hi]
noncomputable def bodyV : SX := sSeq (sAsg (eMeth 0 6 3 d_Wants_after (eVar 0) (aCons (eVar 2) (aCons (eVar 3) aNil))) (tNm 2))
  (sIf (cBl (eBin gIs (eVar 2) (eC .non)))
  (sRet (eC .non))
  sPass)
theorem loopV (ok : StOk s) {row : D} : ∀ (w : List Nat) (i : Nat) (x3 : Sl), i < s.length →
    (∀ j, wk s i w = some j → ∃ y3, forL (fun _ => True) (tNm 3) bodyV (w.map fun c => .str [c]) [.sh (WO s), .sh row, .sh (.int (i : Nat)), x3] S = .nx [.sh (WO s), .sh row, .sh (.int (j : Nat)), y3] S) ∧
    (wk s i w = none → forL (fun _ => True) (tNm 3) bodyV (w.map fun c => .str [c]) [.sh (WO s), .sh row, .sh (.int (i : Nat)), x3] S = .rt .non S)
  | [], i, x3, hi => ⟨fun j e => by cases e; exact ⟨x3, by simp [forL]⟩, fun e => by cases e⟩
  | c :: w, i, x3, hi => by
    have ea := after_ok (S := S) (d := .str [c]) (st_at hi) rfl
    rw [wk]
    cases q : aftR (s[i]?.getD []) (.str [c]) with
    | none =>
      rw [q] at ea
      refine ⟨fun j e => (by cases e), fun _ => ?_⟩
      simp only [List.map_cons, forL, if_true, a_tNm, List.set]
      have : bodyV [.sh (WO s), .sh row, .sh (.int (i : Nat)), .sh (.str [c])] S = .rt .non S := by
        unfold bodyV
        rw [seq_nx (asg_nm (d := .non) (S' := S) (by simp [eMeth, need, ea, encO]))]
        simp [sIf, onS, gIs, isS, isNon, ofO, sRet]
      rw [this]
    | some k =>
      rw [q] at ea
      have hk : k < s.length := aft_lt (fun p hp => (ok.room _ (List.getElem_mem hi)).lt p (by simpa [hi] using hp)) q
      obtain ⟨h1, h2⟩ := loopV ok (row := row) w k (.sh (.str [c])) hk
      have hb : bodyV [.sh (WO s), .sh row, .sh (.int (i : Nat)), .sh (.str [c])] S = .nx [.sh (WO s), .sh row, .sh (.int (k : Nat)), .sh (.str [c])] S := by
        unfold bodyV
        rw [seq_nx (asg_nm (d := .int (k : Nat)) (S' := S) (by simp [eMeth, need, ea, encO]))]
        simp [sIf, onS, gIs, isS, isNon, ofO, sPass]
      refine ⟨fun j e => ?_, fun e => ?_⟩
      · obtain ⟨y3, q⟩ := h1 j e
        refine ⟨y3, ?_⟩
        simp only [List.map_cons, forL, if_true, a_tNm, List.set]
        rw [hb]; exact q
      · simp only [List.map_cons, forL, if_true, a_tNm, List.set]
        rw [hb]; exact h2 e
theorem roomof_ok (ok : StOk s) {w : List Nat} (h : anyRow (.str w) = true) : d_Wants_room_of [WO s, .str w] S = .ok (encO (wk s 0 w)) S := by
  have hw : w.length ≤ 200 := by
    have := (Bool.and_eq_true_iff.mp h).1
    simpa using this
  have e := anyrow_ok (S := S) (d := .str w) rfl (by simp [strOk]; exact len_lim (by omega))
  rw [h] at e
  unfold d_Wants_room_of m_Wants_room_of
  simp only [fnM_ap]
  have h1 : (sIf (cNot (cTru (eCall 1 d_is_any_row (aCons (eVar 1) aNil)))) (sRaise 2 [0] (aCons (eC (.int 0)) aNil)) sPass) [.sh (WO s), .sh (.str w), .un, .un] S = .nx [.sh (WO s), .sh (.str w), .un, .un] S := by
    simp [sIf, onS, need, e, dTru, sPass]
  refine (congrArg outS (seq_nx h1)).trans ?_
  refine (congrArg outS (seq_nx (asg_nm (d := .int 0) (S' := S) (by simp)))).trans ?_
  obtain ⟨g1, g2⟩ := loopV (S := S) ok (row := .str w) w 0 .un ok.pos
  have h2 : iIter (eVar 1) [.sh (WO s), .sh (.str w), .sh (.int 0), .un] S = .ok ⟨w.map fun c => .str [c], fun _ => True⟩ S := by simp [dIter]
  cases q : wk s 0 w with
  | none =>
    refine congrArg outS (seq_rt (d := .non) (S' := S) ?_)
    unfold sFor
    simp only [List.map_cons, List.map_nil, List.length_cons, List.length_nil, List.set, List.replicate, List.cons_append, List.nil_append]
    rw [h2]; exact g2 q
  | some j =>
    obtain ⟨y3, e3⟩ := g1 j q
    refine (congrArg outS (seq_nx (r' := [.sh (WO s), .sh (.str w), .sh (.int (j : Nat)), y3]) (S' := S) ?_)).trans (by simp [sRet, onS, outS, encO])
    unfold sFor
    simp only [List.map_cons, List.map_nil, List.length_cons, List.length_nil, List.set, List.replicate, List.cons_append, List.nil_append]
    rw [h2]; exact e3
theorem roomof_er {d : D} (hp : pl d = true) (hl : strOk d = true) (h : anyRow d = false) : d_Wants_room_of [WO s, d] S = .er ⟨2, [(0, .int 0)]⟩ S := by
  have e := anyrow_ok (S := S) hp hl
  rw [h] at e
  unfold d_Wants_room_of m_Wants_room_of
  simp only [fnM_ap]
  exact congrArg outS (seq_er (r' := [.sh (WO s), .sh d, .un, .un]) (by simp [sIf, onS, need, e, dTru, sRaise]))
theorem wrow_no {d : D} (hp : pl d = true) (hl : strOk d = true) (h : anyRow d = false) : d_Wants_wants_row [WO s, d] S = .ok (.bl false) S := by
  have e := anyrow_ok (S := S) hp hl
  rw [h] at e
  simp [d_Wants_wants_row, m_Wants_wants_row, fnM, sRet, onS, need, e, dTru]
theorem wrow_ok (ok : StOk s) {w : List Nat} (h : anyRow (.str w) = true) : d_Wants_wants_row [WO s, .str w] S = .ok (.bl (wk s 0 w).isSome) S := by
  have hw : w.length ≤ 200 := by
    have := (Bool.and_eq_true_iff.mp h).1
    simpa using this
  have e := anyrow_ok (S := S) (d := .str w) rfl (by simp [strOk]; exact len_lim (by omega))
  rw [h] at e
  have e2 := roomof_ok (S := S) ok h
  cases q : wk s 0 w with
  | none => rw [q] at e2; simp [d_Wants_wants_row, m_Wants_wants_row, fnM, sRet, onS, need, e, dTru, eMeth, e2, encO, gNis, isS, isNon, ofO]
  | some j => rw [q] at e2; simp [d_Wants_wants_row, m_Wants_wants_row, fnM, sRet, onS, need, e, dTru, eMeth, e2, encO, gNis, isS, isNon, ofO]
/-! ### how many rows -/
def cnt (s : List Rm) : Nat → List Int
  | 0 => List.replicate s.length 1
  | k + 1 => s.map fun r => (r.map fun p => (cnt s k)[p.2]?.getD 0).sum
theorem cnt_len (k : Nat) : (cnt s k).length = s.length := by cases k <;> simp [cnt]
theorem asInts_map {α : Type} (f : α → Int) : ∀ l : List α, asInts (l.map fun i => .int (f i)) = some (l.map f)
  | [] => rfl
  | a :: l => by simp [asInts, asInts_map f l]
theorem sum_ok {α : Type} (f : α → Int) (l : List α) : fSum [.lst (l.map fun i => .int (f i))] S = .ok (.int (l.map f).sum) S := by
  simp [fSum, lstOf, asInts_map, ofO]
/-- one turn -/
theorem cnt_turn (ok : StOk s) {x0 x1 : D} {x3 : Sl} {src : EX} {enc : Rm → D} (henc : ∀ r, dIter (enc r) S = .ok ⟨r.map encP, fun _ => True⟩ S) {k : Nat} {r0 : Ev} (er : r0 = [.sh x0, .sh x1, .sh (.lst ((cnt s k).map .int)), x3, .un, .un, .un])
    (hs : iIter src r0 S = .ok ⟨s.map enc, fun _ => True⟩ S) : eFz (lLc [4] (iIter src) (tNm 4) cYes (eArgs fSum (aCons (eFz (lLc [5, 6] (iIter (eVar 4)) (tTp [(tNm 5), (tNm 6)]) cYes (eBin gIx (eVar 2) (eVar 6)))) aNil))) r0 S = .ok (.lst ((cnt s (k + 1)).map .int)) S := by
  have e1 := lc_map (own := [4]) (t := tNm 4) (e := eArgs fSum (aCons (eFz (lLc [5, 6] (iIter (eVar 4)) (tTp [(tNm 5), (tNm 6)]) cYes (eBin gIx (eVar 2) (eVar 6)))) aNil)) (f := fun r : Rm => .int (r.map fun p => (cnt s k)[p.2]?.getD 0).sum) hs trivial (len_lim (by have := ok.most; omega)) fun r hr => by
    refine ⟨_, rfl, ?_⟩
    rw [er]
    have hn := henc r
    have e2 := lc_map (own := [5, 6]) (src := iIter (eVar 4)) (t := tTp [tNm 5, tNm 6]) (e := eBin gIx (eVar 2) (eVar 6)) (r := [.sh x0, .sh x1, .sh (.lst ((cnt s k).map .int)), x3, .sh (enc r), .un, .un]) (S := S) (ok := fun _ => True) (xs := r) (g := encP) (f := fun p => .int ((cnt s k)[p.2]?.getD 0)) (by simp [hn]) trivial (len_lim (by have := (ok.room r hr).len; omega)) fun p hp => by
      refine ⟨_, pair_t, ?_⟩
      have hl := (ok.room r hr).lt p hp
      have : gIx (.lst ((cnt s k).map .int)) (.int (p.2 : Nat)) S = .ok (.int ((cnt s k)[p.2]?.getD 0)) S := ix_lst (by
        rw [List.getElem?_map]
        have hl2 : p.2 < (cnt s k).length := by rw [cnt_len]; exact hl
        simp [hl2])
      simp [wipeD, this]
    simp only [wipeD, List.set, a_eArgs, a_bnd, a_aCons, a_eFz, e2, a_pur, a_aNil, sum_ok]
  simp only [a_eFz, a_bnd, e1, a_pur, cnt, List.map_map]
  rfl
theorem cnt_loop {x0 x1 : D} {e : EX} (he : ∀ k x3, e [.sh x0, .sh x1, .sh (.lst ((cnt s k).map .int)), x3, .un, .un, .un] S = .ok (.lst ((cnt s (k + 1)).map .int)) S) : ∀ (ds : List D) (k : Nat) (x3 : Sl),
    ∃ y3, forL (fun _ => True) (tNm 3) (sAsg e (tNm 2)) ds [.sh x0, .sh x1, .sh (.lst ((cnt s k).map .int)), x3, .un, .un, .un] S = .nx [.sh x0, .sh x1, .sh (.lst ((cnt s (k + ds.length)).map .int)), y3, .un, .un, .un] S
  | [], k, x3 => ⟨x3, by simp [forL]⟩
  | d :: ds, k, x3 => by
    obtain ⟨y3, h⟩ := cnt_loop he ds (k + 1) (.sh d)
    refine ⟨y3, ?_⟩
    simp only [forL, if_true, a_tNm, List.set]
    rw [asg_nm (he k _)]
    simp only [List.set, List.length_cons]
    rw [show k + (ds.length + 1) = k + 1 + ds.length by omega]
    exact h
theorem gMul_lst {xs : List D} {y : D} : gMul (.lst xs) y = bnd (gRep (.lst xs) y) fun zs => pur (.lst zs) := by cases y <;> rfl
theorem bnd_okk {α β : Type} {m : M α} {k : α → M β} {S S' : Sto} {a : α} (h : m S = .ok a S') : bnd m k S = k a S' := by unfold bnd; rw [h]
theorem gMul_rep {xs zs : List D} {y : D} (g : gRep (.lst xs) y S = .ok zs S) : gMul (.lst xs) y S = .ok (.lst zs) S := (congrFun gMul_lst S).trans (bnd_okk g)
theorem gRep_lst {xs : List D} {k : Int} (h0 : 0 ≤ k) (h1 : k < 1000000000) (h : xs.length * k.toNat ≤ LIM) : gRep (.lst xs) (.int k) S = .ok (List.replicate k.toNat xs).flatten S := by
  unfold gRep
  simp only [lstM]
  rw [if_pos ⟨by omega, by omega, h⟩]
theorem rep_one {n : Nat} {d : D} : (List.replicate n [d]).flatten = List.replicate n d := by
  induction n with
  | zero => rfl
  | succ n ih => simp [List.replicate_succ, ih]
theorem lst_rep {d : D} {n : Nat} (h : n ≤ 1000) : gMul (.lst [d]) (.int (n : Nat)) S = .ok (.lst (List.replicate n d)) S := by
  refine gMul_rep ?_
  have := gRep_lst (S := S) (xs := [d]) (k := (n : Int)) (by omega) (by omega) (by rw [List.length_singleton, Int.toNat_natCast, Nat.one_mul]; exact len_lim h)
  rw [rep_one, Int.toNat_natCast] at this
  exact this
theorem ones (h : s.length ≤ 6) : gMul (.lst [.int 1]) (.int (s.length : Nat)) S = .ok (.lst ((cnt s 0).map .int)) S := by
  have := lst_rep (S := S) (d := .int 1) (n := s.length) (by omega)
  rw [this]
  simp [cnt]
theorem cnt_ix (ok : StOk s) (k : Nat) : gIx (.lst ((cnt s k).map .int)) (.int 0) S = .ok (.int ((cnt s k)[0]?.getD 0)) S := ix_lst (i := 0) (by
  have : 0 < (cnt s k).length := by rw [cnt_len]; exact ok.pos
  rw [List.getElem?_map]
  simp [this])
theorem rng_ok {a : EX} {r : Ev} {k : Nat} (h : k ≤ 1000000) (ha : a r S = .ok (.int (k : Nat)) S) : iRng1D a r S = .ok (rngD 0 k) S := by
  unfold iRng1D
  refine (bnd_okk ha).trans ?_
  have g : -(2 ^ 62) ≤ (k : Int) ∧ (k : Int) < 2 ^ 62 := ⟨by omega, by omega⟩
  show need _ _ S = _
  rw [decide_eq_true g, Int.toNat_natCast]
  rfl
theorem bin_ok {g : D → D → M D} {a b : EX} {r : Ev} {x y : D} {o : Out D} (h1 : a r S = .ok x S) (h2 : b r S = .ok y S) (h : g x y S = o) : eBin g a b r S = o := by
  unfold eBin
  rw [bnd_okk h1, bnd_okk h2]
  exact h
theorem len_lst {xs : List D} : fLen [.lst xs] S = .ok (.int (xs.length : Nat)) S := rfl
theorem args1 {f : List D → M D} {a : EX} {r : Ev} {x : D} {o : Out D} (h : a r S = .ok x S) (hf : f [x] S = o) : eArgs f (aCons a aNil) r S = o := by
  unfold eArgs aCons aNil
  simp only [a_bnd, h, a_pur]
  exact hf
theorem rcount_ok (ok : StOk s) {k : Nat} (hk : k ≤ 200) : d_Wants_row_count [WO s, .int (k : Nat)] S = .ok (.int ((cnt s k)[0]?.getD 0)) S := by
  have e1 := below_ok (S := S) (d := .int (k : Nat)) rfl (n := 201)
  rw [below_n (by omega)] at e1
  unfold d_Wants_row_count m_Wants_row_count
  simp only [fnM_ap]
  have h1 : (sIf (cNot (cTru (eCall 2 d_is_number_below (aCons (eVar 1) (aCons (eBin gAdd (eC (.int 200)) (eC (.int 1))) aNil))))) (sRaise 5 [0] (aCons (eVar 1) aNil)) sPass) [.sh (WO s), .sh (.int (k : Nat)), .un, .un, .un, .un, .un] S = .nx [.sh (WO s), .sh (.int (k : Nat)), .un, .un, .un, .un, .un] S := by
    have e1' : d_is_number_below [.int (k : Nat), .int 201] S = .ok (.bl true) S := e1
    simp [sIf, onS, need, gAdd, e1', dTru, sPass]
  refine (congrArg outS (seq_nx h1)).trans ?_
  have e2 := ones (S := S) ok.most
  refine (congrArg outS (seq_nx (asg_nm (d := .lst ((cnt s 0).map .int)) (S' := S) (bin_ok (by simp [need, show (1 : Nat) ≤ LIM by decide]) (by simp) e2)))).trans ?_
  obtain ⟨y3, e3⟩ := cnt_loop (S := S) (s := s) (x0 := WO s) (x1 := .int (k : Nat)) (fun k x3 => cnt_turn ok (enc := rT) (src := eUn (dFld [0] 2) (eVar 0)) (fun r => rfl) rfl (by simp [dIter])) (rngD 0 k).ds 0 .un
  have hl : (rngD 0 k).ds.length = k := by simp [rngD]
  rw [hl, Nat.zero_add] at e3
  refine (congrArg outS (seq_nx (r' := [.sh (WO s), .sh (.int (k : Nat)), .sh (.lst ((cnt s k).map .int)), y3, .un, .un, .un]) (S' := S) ?_)).trans ?_
  · have g : iRng1D (eVar 1) [.sh (WO s), .sh (.int (k : Nat)), .sh (.lst ((cnt s 0).map .int)), .un, .un, .un, .un] S = .ok (rngD 0 k) S := rng_ok (by omega) (by simp)
    unfold sFor
    simp only [List.map_cons, List.map_nil, List.length_cons, List.length_nil, List.set, List.replicate, List.cons_append, List.nil_append]
    rw [g]; exact e3
  · simp [sRet, onS, outS, cnt_ix ok]
theorem rcount_er {v : D} (hp : pl v = true) (hv : below 201 v = false) : d_Wants_row_count [WO s, v] S = .er ⟨5, [(0, v)]⟩ S := by
  have e1 := below_ok (S := S) (d := v) hp (n := 201)
  rw [hv] at e1
  have e1' : d_is_number_below [v, .int 201] S = .ok (.bl false) S := e1
  unfold d_Wants_row_count m_Wants_row_count
  simp only [fnM_ap]
  exact congrArg outS (seq_er (r' := [.sh (WO s), .sh v, .un, .un, .un, .un, .un]) (by simp [sIf, onS, need, gAdd, e1', dTru, sRaise]))
theorem lc_a {d1 : D} : eBin gMul (eFz (lLst (aCons (eC (.int 1)) aNil))) (eArgs fLen (aCons (eVar 0) aNil)) [.sh (sL s), .sh d1, .un, .un, .un, .un, .un] S = gMul (.lst [.int 1]) (.int (s.length : Nat)) S :=
  bin_ok (x := .lst [.int 1]) (by simp [need, show (1 : Nat) ≤ LIM by decide]) (args1 (x := sL s) (by simp) (by unfold sL; rw [len_lst, List.length_map])) rfl
theorem lc_b {d1 : D} {x3 : Sl} (ok : StOk s) {k : Nat} : eFz (lLc [4] (iIter (eVar 0)) (tNm 4) cYes (eArgs fSum (aCons (eFz (lLc [5, 6] (iIter (eVar 4)) (tTp [(tNm 5), (tNm 6)]) cYes (eBin gIx (eVar 2) (eVar 6)))) aNil))) [.sh (sL s), .sh d1, .sh (.lst ((cnt s k).map .int)), x3, .un, .un, .un] S = .ok (.lst ((cnt s (k + 1)).map .int)) S :=
  cnt_turn ok (enc := rL) (src := eVar 0) (fun r => rfl) rfl (by simp [dIter, sL])
theorem lcount_ok (ok : StOk s) {k : Nat} (hk : k ≤ 200) : d__law_count [sL s, .int (k : Nat)] S = .ok (.int ((cnt s k)[0]?.getD 0)) S := by
  have e2 := ones (S := S) ok.most
  have h1 : sAsg (eBin gMul (eFz (lLst (aCons (eC (.int 1)) aNil))) (eArgs fLen (aCons (eVar 0) aNil))) (tNm 2) [.sh (sL s), .sh (.int (k : Nat)), .un, .un, .un, .un, .un] S = .nx [.sh (sL s), .sh (.int (k : Nat)), .sh (.lst ((cnt s 0).map .int)), .un, .un, .un, .un] S := asg_nm (lc_a.trans e2)
  refine fn_run (g := m__law_count) (env := [.sh (sL s), .sh (.int (k : Nat)), .un, .un, .un, .un, .un]) rfl ?_
  unfold m__law_count
  refine (congrArg outS (seq_nx h1)).trans ?_
  obtain ⟨y3, e3⟩ := cnt_loop (S := S) (s := s) (x0 := sL s) (x1 := .int (k : Nat)) (fun k x3 => lc_b ok) (rngD 0 k).ds 0 .un
  have hl : (rngD 0 k).ds.length = k := by simp [rngD]
  rw [hl, Nat.zero_add] at e3
  refine (congrArg outS (seq_nx (r' := [.sh (sL s), .sh (.int (k : Nat)), .sh (.lst ((cnt s k).map .int)), y3, .un, .un, .un]) (S' := S) ?_)).trans ?_
  · have g : iRng1D (eVar 1) [.sh (sL s), .sh (.int (k : Nat)), .sh (.lst ((cnt s 0).map .int)), .un, .un, .un, .un] S = .ok (rngD 0 k) S := rng_ok (by omega) (by simp)
    unfold sFor
    rw [g]; exact e3
  · exact congrArg outS (ret_e (bin_ok (x := .lst ((cnt s k).map .int)) (y := .int 0) (by simp) (by simp) (cnt_ix ok k)))
end
end K75
set_option maxRecDepth 100000
set_option maxHeartbeats 2000000
namespace K75
set_option autoImplicit false
open Dm
section
variable {S : Sto} {s t : List Rm}
theorem wf_ints {n : Nat} {α : Type} (f : α → Int) : ∀ l : List α, wfDs n (l.map fun i => .int (f i)) = true
  | [] => by simp [wfDs]
  | a :: l => by rw [List.map_cons, wfDs, wf_ints f l]; simp [wfD]
theorem eqnil {xs : List D} (h : wfDs 59 xs = true) : gEq (.lst xs) (.lst []) S = .ok (.bl xs.isEmpty) S := by
  have e : eqD (.lst xs) (.lst []) = xs.isEmpty := by cases xs <;> rfl
  have h2 : wfD 60 (.lst xs) = true := h
  have h3 : wfD 60 (.lst []) = true := rfl
  simp only [gEq, eqS, flD, Bool.false_and, res, h2, h3, Bool.and_self, if_true, e, ofO]
  rfl
theorem nenil {xs : List D} (h : wfDs 59 xs = true) : gNe (.lst xs) (.lst []) S = .ok (.bl (!xs.isEmpty)) S := by
  have e : eqD (.lst xs) (.lst []) = xs.isEmpty := by cases xs <;> rfl
  have h2 : wfD 60 (.lst xs) = true := h
  have h3 : wfD 60 (.lst []) = true := rfl
  simp only [gNe, eqS, flD, Bool.false_and, res, h2, h3, Bool.and_self, if_true, e, ofO]
  rfl
noncomputable def bodyX : SX := sSeq (sAsg (eFz (lLc [5, 6] (iIter (eBin gIx (eVar 0) (eVar 2))) (tTp [(tNm 5), (tNm 6)]) (cBl (eBin gEq (eVar 5) (eVar 3))) (eVar 6))) (tNm 4))
  (sSeq (sIf (cBl (eBin gEq (eVar 4) (eFz (lLst aNil))))
  (sRet (eC .non))
  sPass)
  (sAsg (eBin gIx (eVar 4) (eC (.int 0))) (tNm 2)))
theorem fil_find {r : Rm} {d : D} : aftR r d = ((r.filter fun p => eqD (.str [p.1]) d).map (·.2))[0]? := by
  unfold aftR
  rw [← List.head?_filter]
  cases r.filter fun p => eqD (.str [p.1]) d <;> rfl
theorem loopX (ok : StOk s) {row : D} : ∀ (w : List Nat) (i : Nat) (x3 x4 : Sl), i < s.length →
    (∀ j, wk s i w = some j → ∃ y3 y4, forL (fun _ => True) (tNm 3) bodyX (w.map fun c => .str [c]) [.sh (sL s), .sh row, .sh (.int (i : Nat)), x3, x4, .un, .un] S = .nx [.sh (sL s), .sh row, .sh (.int (j : Nat)), y3, y4, .un, .un] S) ∧
    (wk s i w = none → forL (fun _ => True) (tNm 3) bodyX (w.map fun c => .str [c]) [.sh (sL s), .sh row, .sh (.int (i : Nat)), x3, x4, .un, .un] S = .rt .non S)
  | [], i, x3, x4, hi => ⟨fun j e => by cases e; exact ⟨x3, x4, by simp [forL]⟩, fun e => by cases e⟩
  | c :: w, i, x3, x4, hi => by
    have hr := st_at hi
    have rmo : RmOk s.length (s[i]?.getD []) := ok.room _ (List.mem_of_getElem? hr)
    generalize s[i]?.getD [] = r at hr rmo
    have e2 : gIx (.lst (s.map rL)) (.int (i : Nat)) S = .ok (rL r) S := ix_lst (by rw [List.getElem?_map, hr]; rfl)
    have e3 := lc_fil (own := [5, 6]) (src := iIter (eBin gIx (eVar 0) (eVar 2))) (t := tTp [tNm 5, tNm 6]) (c := cBl (eBin gEq (eVar 5) (eVar 3))) (e := eVar 6) (r := [.sh (sL s), .sh row, .sh (.int (i : Nat)), .sh (.str [c]), x4, .un, .un]) (S := S) (ok := fun _ => True) (xs := r) (g := encP) (p := fun p => eqD (.str [p.1]) (.str [c])) (f := fun p => .int (p.2 : Nat))
      (by simp [sL, e2, rL, dIter]) trivial (len_lim (by have := rmo.len; omega)) fun p hp => ⟨_, pair_t, by simp [wipeD, eq_fl (S := S) (x := .str [p.1]) (y := .str [c]) rfl rfl], fun _ => by simp [wipeD]⟩
    have ew : (r.filter fun p => eqD (.str [p.1]) (.str [c])).map (fun p => D.int (p.2 : Nat)) = ((r.filter fun p => eqD (.str [p.1]) (.str [c])).map (·.2)).map fun n => D.int ((n : Nat) : Int) := by simp
    rw [ew] at e3
    have ef := fil_find (r := r) (d := .str [c])
    generalize hf : (r.filter fun p => eqD (.str [p.1]) (.str [c])).map (·.2) = fs at e3 ef
    have eq1 := eqnil (S := S) (wf_ints (n := 59) (fun n : Nat => (n : Int)) fs)
    have wkc : wk s i (c :: w) = match aftR r (.str [c]) with
      | none => none
      | some j => wk s j w := by
      rw [wk, hr]; rfl
    rw [wkc]
    have hb0 : bodyX [.sh (sL s), .sh row, .sh (.int (i : Nat)), .sh (.str [c]), x4, .un, .un] S = (sSeq (sIf (cBl (eBin gEq (eVar 4) (eFz (lLst aNil)))) (sRet (eC .non)) sPass) (sAsg (eBin gIx (eVar 4) (eC (.int 0))) (tNm 2))) [.sh (sL s), .sh row, .sh (.int (i : Nat)), .sh (.str [c]), .sh (.lst (fs.map fun n => D.int ((n : Nat) : Int))), .un, .un] S := by
      unfold bodyX
      exact seq_nx (asg_nm (by simp only [a_eFz, a_bnd, e3, a_pur]))
    have hcm : eBin gEq (eVar 4) (eFz (lLst aNil)) [.sh (sL s), .sh row, .sh (.int (i : Nat)), .sh (.str [c]), .sh (.lst (fs.map fun n => D.int ((n : Nat) : Int))), .un, .un] S = .ok (.bl (fs.map fun n => D.int ((n : Nat) : Int)).isEmpty) S := bin_ok (by simp) (by simp [need]) eq1
    cases fs with
    | nil =>
      rw [List.getElem?_nil] at ef
      rw [ef]
      refine ⟨fun j e => (by cases e), fun _ => ?_⟩
      simp only [List.map_cons, forL, if_true, a_tNm, List.set]
      have : bodyX [.sh (sL s), .sh row, .sh (.int (i : Nat)), .sh (.str [c]), x4, .un, .un] S = .rt .non S := by
        rw [hb0]
        refine seq_rt (if_t (S' := S) ?_ |>.trans (ret_e (by simp)))
        simp only [a_cBl, a_bnd, hcm]; rfl
      rw [this]
    | cons k fs =>
      rw [List.getElem?_cons_zero] at ef
      rw [ef]
      have hk : k < s.length := aft_lt (fun p hp => rmo.lt p hp) ef
      obtain ⟨h1, h2⟩ := loopX ok (row := row) w k (.sh (.str [c])) (.sh (.lst ((k :: fs).map fun n => D.int ((n : Nat) : Int)))) hk
      have hb : bodyX [.sh (sL s), .sh row, .sh (.int (i : Nat)), .sh (.str [c]), x4, .un, .un] S = .nx [.sh (sL s), .sh row, .sh (.int (k : Nat)), .sh (.str [c]), .sh (.lst ((k :: fs).map fun n => D.int ((n : Nat) : Int))), .un, .un] S := by
        rw [hb0]
        refine (seq_nx (if_f (S' := S) ?_ |>.trans rfl)).trans ?_
        · simp only [a_cBl, a_bnd, hcm]; rfl
        · exact asg_nm (bin_ok (x := .lst ((k :: fs).map fun n => D.int ((n : Nat) : Int))) (y := .int 0) (by simp) (by simp) (ix_lst (i := 0) rfl))
      refine ⟨fun j e => ?_, fun e => ?_⟩
      · obtain ⟨y3, y4, q⟩ := h1 j e
        refine ⟨y3, y4, ?_⟩
        simp only [List.map_cons, forL, if_true, a_tNm, List.set]
        rw [hb]; exact q
      · simp only [List.map_cons, forL, if_true, a_tNm, List.set]
        rw [hb]; exact h2 e
theorem lwalk_ok (ok : StOk s) {w : List Nat} : d__law_walk [sL s, .str w] S = .ok (encO (wk s 0 w)) S := by
  refine fn_run (g := m__law_walk) (env := [.sh (sL s), .sh (.str w), .un, .un, .un, .un, .un]) rfl ?_
  unfold m__law_walk
  refine (congrArg outS (seq_nx (asg_nm (d := .int 0) (S' := S) (by simp)))).trans ?_
  obtain ⟨g1, g2⟩ := loopX (S := S) ok (row := .str w) w 0 .un .un ok.pos
  have h2 : iIter (eVar 1) [.sh (sL s), .sh (.str w), .sh (.int 0), .un, .un, .un, .un] S = .ok ⟨w.map fun c => .str [c], fun _ => True⟩ S := by simp [dIter]
  cases q : wk s 0 w with
  | none =>
    refine congrArg outS (seq_rt (d := .non) (S' := S) ?_)
    unfold sFor
    simp only [List.set]
    rw [h2]; exact g2 q
  | some j =>
    obtain ⟨y3, y4, e3⟩ := g1 j q
    refine (congrArg outS (seq_nx (r' := [.sh (sL s), .sh (.str w), .sh (.int (j : Nat)), y3, y4, .un, .un]) (S' := S) ?_)).trans (by simp [sRet, onS, outS, encO])
    unfold sFor
    simp only [List.set]
    rw [h2]; exact e3
/-! ### the text -/
def bodyTx (r : Rm) : List Nat := if r = [] then [110, 111, 110, 101] else TL.joinL [32, 44, 32] (r.map fun p => [p.1, 32, 48 + p.2])
def lineTx (i : Nat) (r : Rm) : List Nat := (48 + i) :: 58 :: 32 :: bodyTx r
def linesTx : Nat → List Rm → List (List Nat)
  | _, [] => []
  | i, r :: s => lineTx i r :: linesTx (i + 1) s
def txt (s : List Rm) : List Nat := TL.joinL [10] (linesTx 0 s)
theorem figs_of {n : Nat} (h : n < 10) : figs (n : Nat) = [48 + n] := by
  have : n = 0 ∨ n = 1 ∨ n = 2 ∨ n = 3 ∨ n = 4 ∨ n = 5 ∨ n = 6 ∨ n = 7 ∨ n = 8 ∨ n = 9 := by omega
  rcases this with rfl | rfl | rfl | rfl | rfl | rfl | rfl | rfl | rfl | rfl <;> decide +kernel
theorem fstr_of {n : Nat} (h : n < 10) : fStr [.int (n : Nat)] S = .ok (.str [48 + n]) S := by
  have l : ((n : Int)).natAbs.log2 < 1920 := Nat.lt_trans (log2_lt (by omega)) (by decide)
  unfold fStr
  simp only []
  rw [decide_eq_true l, figs_of h]
  rfl
theorem asStrs_map {α : Type} (f : α → List Nat) : ∀ l : List α, asStrs (l.map fun i => .str (f i)) = some (l.map f)
  | [] => rfl
  | a :: l => by simp [asStrs, asStrs_map f l]
theorem join_ok {sep : List Nat} {ls : List (List Nat)} {n : Nat} (h : ∀ l ∈ ls, l.length ≤ n) (hl : ls.length * (n + sep.length) ≤ 1000000) : mJoin sep (.lst (ls.map .str)) S = .ok (.str (TL.joinL sep ls)) S := by
  have e := asStrs_map (fun l : List Nat => l) ls
  have h2 : (ls.map List.length).sum ≤ ls.length * n := by
    clear e hl
    induction ls with
    | nil => simp
    | cons a ls ih =>
      have h1 := h a List.mem_cons_self
      have h2 := ih fun l hl => h l (List.mem_cons_of_mem _ hl)
      simp only [List.map_cons, List.sum_cons, List.length_cons, Nat.add_mul, Nat.one_mul]
      omega
  rw [List.map_id'] at e
  unfold mJoin
  simp only [itmS, lstOf, Option.bind_some, e]
  rw [if_pos]
  rw [Nat.mul_add] at hl
  unfold LIM
  omega
theorem cat_str {x y : List Nat} (h : x.length + y.length ≤ 1000000) : gAdd (.str x) (.str y) S = .ok (.str (x ++ y)) S := by
  have : x.length + y.length ≤ LIM := by unfold LIM; omega
  show need _ _ S = _
  rw [decide_eq_true this]
  rfl
noncomputable def toldE : EX := eS1 mJoin (eC (.str [32, 44, 32])) (eFz (lLc [5, 6] (iIter (eVar 3)) (tTp [(tNm 5), (tNm 6)]) cYes (eBin gAdd (eBin gAdd (eVar 5) (eC (.str [32]))) (eArgs fStr (aCons (eVar 6) aNil)))))
noncomputable def bodyT (c : CX) : SX := sSeq (sAsg toldE (tNm 4))
  (sApp 1 (eBin gAdd (eBin gAdd (eArgs fStr (aCons (eVar 2) aNil)) (eC (.str [58, 32]))) (eIf c (eVar 4) (eC (.str [110, 111, 110, 101])))))
theorem told_ok {x0 x1 x2 x4 : Sl} {d : D} {r : Rm} (hd : dIter d S = .ok ⟨r.map encP, fun _ => True⟩ S) (hl : r.length ≤ 6) (hr : ∀ p ∈ r, p.2 < 6) : toldE [x0, x1, x2, .sh d, x4, .un, .un] S = .ok (.str (TL.joinL [32, 44, 32] (r.map fun p => [p.1, 32, 48 + p.2]))) S := by
  have e := lc_map (own := [5, 6]) (src := iIter (eVar 3)) (t := tTp [tNm 5, tNm 6]) (e := eBin gAdd (eBin gAdd (eVar 5) (eC (.str [32]))) (eArgs fStr (aCons (eVar 6) aNil))) (r := [x0, x1, x2, .sh d, x4, .un, .un]) (S := S) (ok := fun _ => True) (xs := r) (g := encP) (f := fun p => .str [p.1, 32, 48 + p.2]) (by simp [hd]) trivial (len_lim (by omega)) fun p hp => by
    refine ⟨_, pair_t, ?_⟩
    refine bin_ok (x := .str [p.1, 32]) (y := .str [48 + p.2]) (bin_ok (x := .str [p.1]) (y := .str [32]) (by simp [wipeD]) (by simp) (cat_str (by simp))) (args1 (x := .int (p.2 : Nat)) (by simp [wipeD]) (fstr_of (by have := hr p hp; omega))) (cat_str (by simp))
  have e2 : (r.map fun p => D.str [p.1, 32, 48 + p.2]) = (r.map fun p => [p.1, 32, 48 + p.2]).map .str := by simp
  rw [e2] at e
  have e3 := join_ok (S := S) (sep := [32, 44, 32]) (ls := r.map fun p => [p.1, 32, 48 + p.2]) (n := 3) (fun l hl => by obtain ⟨p, _, rfl⟩ := List.mem_map.mp hl; simp) (by simp; omega)
  unfold toldE eS1
  simp only [a_bnd, a_eC, a_eFz, e, a_pur, e3]
theorem joinL_len {sep : List Nat} : ∀ {ls : List (List Nat)} {n : Nat}, (∀ l ∈ ls, l.length ≤ n) → (TL.joinL sep ls).length ≤ ls.length * (n + sep.length)
  | [], n, _ => by simp [TL.joinL]
  | [a], n, h => by have := h a List.mem_cons_self; simp [TL.joinL]; omega
  | a :: b :: ls, n, h => by
    have h1 := h a List.mem_cons_self
    have h2 := joinL_len (sep := sep) (ls := b :: ls) fun l hl => h l (List.mem_cons_of_mem _ hl)
    simp only [TL.joinL, List.length_append, List.length_cons] at h2 ⊢
    simp only [Nat.add_mul, Nat.one_mul] at h2 ⊢
    omega
theorem bodyTx_len {r : Rm} (h : r.length ≤ 6) : (bodyTx r).length ≤ 40 := by
  unfold bodyTx
  split
  · simp
  · have := joinL_len (sep := [32, 44, 32]) (ls := r.map fun p => [p.1, 32, 48 + p.2]) (n := 3) (fun l hl => by obtain ⟨p, _, rfl⟩ := List.mem_map.mp hl; simp)
    simp at this
    omega
theorem loopT {enc : Rm → D} {c : CX} {ok : Sto → Prop} {x0 : Sl} (hok : ok S) (henc : ∀ r, dIter (enc r) S = .ok ⟨r.map encP, fun _ => True⟩ S) (hc : ∀ (x1 x2 x4 : Sl) (r : Rm), (∀ p ∈ r, p.1 < 1114112) → c [x0, x1, x2, .sh (enc r), x4, .un, .un] S = .ok (!r.isEmpty) S) :
    ∀ (rs : List Rm) (k : Nat) (acc : List D) (x2 x3 x4 : Sl), (∀ r ∈ rs, r.length ≤ 6 ∧ ∀ p ∈ r, p.2 < 6 ∧ p.1 < 1114112) → k + rs.length ≤ 10 → acc.length + rs.length ≤ 100 →
      ∃ y2 y3 y4, forL ok (tTp [tNm 2, tNm 3]) (bodyT c) (enuD k (rs.map enc)) [x0, .ow acc, x2, x3, x4, .un, .un] S = .nx [x0, .ow (acc ++ (linesTx k rs).map .str), y2, y3, y4, .un, .un] S
  | [], k, acc, x2, x3, x4, _, _, _ => ⟨x2, x3, x4, by simp [enuD, forL, hok, linesTx]⟩
  | r :: rs, k, acc, x2, x3, x4, h, hk, ha => by
    obtain ⟨h1, h2⟩ := h r List.mem_cons_self
    simp only [List.length_cons] at hk ha
    obtain ⟨y2, y3, y4, e⟩ := loopT hok henc hc rs (k + 1) (acc ++ [.str (lineTx k r)]) (.sh (.int (k : Nat))) (.sh (enc r)) (.sh (.str (TL.joinL [32, 44, 32] (r.map fun p => [p.1, 32, 48 + p.2])))) (fun q hq => h q (List.mem_cons_of_mem _ hq)) (by omega) (by simp; omega)
    refine ⟨y2, y3, y4, ?_⟩
    have e1 := told_ok (S := S) (x0 := x0) (x1 := .ow acc) (x2 := .sh (.int (k : Nat))) (x4 := x4) (henc r) h1 fun p hp => (h2 p hp).1
    have hlim : acc.length < LIM := by unfold LIM; omega
    have e2 : eIf c (eVar 4) (eC (.str [110, 111, 110, 101])) [x0, .ow acc, .sh (.int (k : Nat)), .sh (enc r), .sh (.str (TL.joinL [32, 44, 32] (r.map fun p => [p.1, 32, 48 + p.2]))), .un, .un] S = .ok (.str (bodyTx r)) S := by
      simp only [a_eIf, a_bnd, hc _ _ _ r fun p hp => (h2 p hp).2]
      cases r with
      | nil => rfl
      | cons p r => rfl
    have hbl := bodyTx_len h1
    have hb : bodyT c [x0, .ow acc, .sh (.int (k : Nat)), .sh (enc r), x4, .un, .un] S = .nx [x0, .ow (acc ++ [.str (lineTx k r)]), .sh (.int (k : Nat)), .sh (enc r), .sh (.str (TL.joinL [32, 44, 32] (r.map fun p => [p.1, 32, 48 + p.2]))), .un, .un] S := by
      unfold bodyT
      rw [seq_nx (asg_nm e1)]
      have e3 : eBin gAdd (eBin gAdd (eArgs fStr (aCons (eVar 2) aNil)) (eC (.str [58, 32]))) (eIf c (eVar 4) (eC (.str [110, 111, 110, 101]))) [x0, .ow acc, .sh (.int (k : Nat)), .sh (enc r), .sh (.str (TL.joinL [32, 44, 32] (r.map fun p => [p.1, 32, 48 + p.2]))), .un, .un] S = .ok (.str (lineTx k r)) S :=
        bin_ok (x := .str [48 + k, 58, 32]) (bin_ok (x := .str [48 + k]) (y := .str [58, 32]) (args1 (x := .int (k : Nat)) (by simp) (fstr_of (by omega))) (by simp) (cat_str (by simp))) e2 (cat_str (by simp; omega))
      unfold sApp
      simp only [List.set, List.getElem?_cons_zero, List.getElem?_cons_succ, e3, onS]
      rw [if_pos hlim]
    have ht : tTp [tNm 2, tNm 3] (.tup [.int (k : Nat), enc r]) [x0, .ow acc, x2, x3, x4, .un, .un] = some [x0, .ow acc, .sh (.int (k : Nat)), .sh (enc r), x4, .un, .un] := rfl
    simp only [List.map_cons, enuD, forL, hok, if_true]
    rw [ht]
    simp only []
    rw [hb]
    simp only [linesTx, List.map_cons]
    rw [e, List.append_assoc]
    rfl
theorem linesTx_len : ∀ (s : List Rm) (k : Nat), (linesTx k s).length = s.length
  | [], _ => rfl
  | r :: s, k => by simp [linesTx, linesTx_len s]
theorem linesTx_mem : ∀ {s : List Rm} {k : Nat} {l : List Nat}, l ∈ linesTx k s → ∃ i r, r ∈ s ∧ i < k + s.length ∧ l = lineTx i r
  | [], _, _, h => by cases h
  | r :: s, k, l, h => by
    rcases List.mem_cons.mp h with rfl | h
    · exact ⟨k, r, List.mem_cons_self, by simp, rfl⟩
    · obtain ⟨i, q, h1, h2, h3⟩ := linesTx_mem h
      exact ⟨i, q, List.mem_cons_of_mem _ h1, by simp only [List.length_cons]; omega, h3⟩
theorem lines_le (ok : StOk s) {k : Nat} : ∀ l ∈ linesTx k s, l.length ≤ 43 := fun l hl => by
  obtain ⟨i, r, hr, _, rfl⟩ := linesTx_mem hl
  have := bodyTx_len (ok.room r hr).len
  simp [lineTx]
  omega
theorem join_txt (ok : StOk s) : mJoin [10] (.lst ((linesTx 0 s).map .str)) S = .ok (.str (txt s)) S := join_ok (n := 43) (lines_le ok) (by have := ok.most; rw [linesTx_len]; simp; omega)
theorem StOk.sm (ok : StOk s) : ∀ r ∈ s, r.length ≤ 6 ∧ ∀ p ∈ r, p.2 < 6 ∧ p.1 < 1114112 := fun r hr => ⟨(ok.room r hr).len, fun p hp => ⟨by have := (ok.room r hr).lt p hp; have := ok.most; omega, let_lt ((ok.room r hr).let_ p hp)⟩⟩
theorem text_prop (ok : StOk s) : d_Wants_text [WO s] S = .ok (.str (txt s)) S := by
  refine fn_run (g := m_Wants_text) (env := [.sh (WO s), .un, .un, .un, .un, .un, .un]) rfl ?_
  unfold m_Wants_text
  obtain ⟨y2, y3, y4, e⟩ := loopT (S := S) (enc := rT) (c := cTru (eVar 3)) (ok := fun _ => True) (x0 := .sh (WO s)) trivial (fun r => rfl) (fun x1 x2 x4 r _ => by simp [rT, dTru]) s 0 [] .un .un .un ok.sm (by have := ok.most; omega) (by have := ok.most; simp; omega)
  refine (congrArg outS (seq_nx (r' := [.sh (WO s), .ow [], .un, .un, .un, .un, .un]) (S' := S) (by simp [sOwn, onS, need]))).trans ?_
  refine (congrArg outS (seq_nx (r' := [.sh (WO s), .ow ((linesTx 0 s).map .str), y2, y3, y4, .un, .un]) (S' := S) ?_)).trans ?_
  · unfold sFor
    rw [show iEnu (eUn (dFld [0] 2) (eVar 0)) [.sh (WO s), .ow [], .un, .un, .un, .un, .un] S = .ok ⟨enuD 0 (s.map rT), fun _ => True⟩ S by simp [iEnu, dIter]]
    exact e
  · refine congrArg outS (ret_e ?_)
    unfold eS1
    simp [join_txt ok]
theorem ltext_ok (ok : StOk s) : d__law_text [sL s] S = .ok (.str (txt s)) S := by
  refine fn_run (g := m__law_text) (env := [.sh (sL s), .un, .un, .un, .un, .un, .un]) rfl ?_
  unfold m__law_text
  obtain ⟨y2, y3, y4, e⟩ := loopT (S := S) (enc := rL) (c := cBl (eBin gNe (eVar 3) (eFz (lLst aNil)))) (ok := fun _ => True) (x0 := .sh (sL s)) trivial (fun r => rfl) (fun x1 x2 x4 r hr => by
    have e1 := nenil (S := S) (xs := r.map encP) (wf_rm (n := 58) hr)
    have e2 : eBin gNe (eVar 3) (eFz (lLst aNil)) [.sh (sL s), x1, x2, .sh (rL r), x4, .un, .un] S = _ := bin_ok (x := rL r) (y := .lst []) (by simp) (by simp [need]) e1
    simp only [a_cBl, a_bnd, e2, List.isEmpty_map]; rfl) s 0 [] .un .un .un ok.sm (by have := ok.most; omega) (by have := ok.most; simp; omega)
  refine (congrArg outS (seq_nx (r' := [.sh (sL s), .ow [], .un, .un, .un, .un, .un]) (S' := S) (by simp [sOwn, onS, need]))).trans ?_
  refine (congrArg outS (seq_nx (r' := [.sh (sL s), .ow ((linesTx 0 s).map .str), y2, y3, y4, .un, .un]) (S' := S) ?_)).trans ?_
  · unfold sFor
    rw [show iEnu (eVar 0) [.sh (sL s), .ow [], .un, .un, .un, .un, .un] S = .ok ⟨enuD 0 (s.map rL), fun _ => True⟩ S by simp [iEnu, dIter, sL]]
    exact e
  · refine congrArg outS (ret_e ?_)
    unfold eS1
    simp [join_txt ok]
end
end K75
set_option maxRecDepth 100000
set_option maxHeartbeats 2000000
namespace K75
set_option autoImplicit false
open Dm
section
variable {S : Sto} {s t : List Rm}
abbrev Pw := List Nat × Nat
def encW (p : Pw) : D := .tup [.str p.1, .int (p.2 : Nat)]
def NUM : List D := (List.range 6).map fun i => .str [48 + i]
def isNum : List Nat → Bool
  | [d] => decide (48 ≤ d ∧ d < 54)
  | _ => false
def prW : List (List Nat) → Option Pw
  | [a, b] => if isNum b = true then some (a, b.headD 0 - 48) else none
  | _ => none
def prP (p : List Nat) : Option Pw := prW (TL.spl [32] 0 [] p)
theorem split_ok {sep w : List Nat} (h : sep ≠ []) (h2 : sep.all (fun c => decide (c < 256)) = true) (hl : w.length ≤ 1000000) : mSplit w (.str sep) S = .ok ((TL.spl sep 0 [] w).map .str) S := by
  have h3 : w.length + 2 ≤ LIM := by unfold LIM; omega
  have e : (decide (sep ≠ []) && sep.all (fun c => decide (c < 256)) && decide (w.length + 2 ≤ LIM)) = true := by simp [h, h2, h3]
  show need _ _ S = _
  rw [e]
  rfl
noncomputable def bodyP : SX := sSeq (sAsg (eFz (lS1 mSplit (eVar 1) (eC (.str [32])))) (tNm 4))
  (sSeq (sIf (cOr (cBl (eBin gNe (eArgs fLen (aCons (eVar 4) aNil)) (eC (.int 2)))) (cBl (eBin gNin (eBin gIx (eVar 4) (eC (.int 1))) (eVar 3))))
  (sRet (eC .non))
  sPass)
  (sApp 2 (eTup (aCons (eBin gIx (eVar 4) (eC (.int 0))) (aCons (eL1 mLIdx (eVar 3) (eBin gIx (eVar 4) (eC (.int 1)))) aNil)))))
theorem num_fl : NUM.all flD = true := by decide
theorem nin_num {w : List Nat} : gNin (.str w) (.lst NUM) S = .ok (.bl (!(NUM.any fun z => eqD z (.str w)))) S := by
  simp only [gNin, inS, itmS, lstOf, num_fl, flD, Bool.and_self, if_true, ofO]
theorem num_any {w : List Nat} : (NUM.any fun z => eqD z (.str w)) = isNum w := by
  match w with
  | [] => rfl
  | a :: b :: w => simp [NUM, eqD, List.range, List.range.loop, isNum]
  | [d] =>
    simp only [NUM, List.range, List.range.loop, List.map_cons, List.map_nil, List.any_cons, List.any_nil, eqD, Bool.or_false, isNum]
    by_cases h : 48 ≤ d ∧ d < 54
    · have : d = 48 ∨ d = 49 ∨ d = 50 ∨ d = 51 ∨ d = 52 ∨ d = 53 := by omega
      rcases this with rfl | rfl | rfl | rfl | rfl | rfl <;> decide
    · simp [h]
      omega
theorem isNum_of {b : List Nat} (h : isNum b = true) : ∃ d, b = [d] ∧ 48 ≤ d ∧ d < 54 := by
  match b, h with
  | [d], h => exact ⟨d, rfl, by simpa [isNum] using h⟩
theorem num_idx {d : Nat} (h : 48 ≤ d) (h2 : d < 54) : mLIdx (.lst NUM) (.str [d]) S = .ok (.int ((d - 48 : Nat) : Int)) S := by
  have : d = 48 ∨ d = 49 ∨ d = 50 ∨ d = 51 ∨ d = 52 ∨ d = 53 := by omega
  have e : fstEq (.str [d]) NUM = some (d - 48) := by
    rcases this with rfl | rfl | rfl | rfl | rfl | rfl <;> decide
  simp only [mLIdx, lstOf, num_fl, flD, Bool.and_self, if_true, e, ofO]
theorem ne_int {a b : Int} : gNe (.int a) (.int b) S = .ok (.bl (!(a == b))) S := rfl
theorem bodyP_ok {x0 x5 x4 : Sl} {p : List Nat} {acc : List D} (hp : p.length ≤ 1000) (ha : acc.length ≤ 1000) : (∃ y4, ∀ q, prP p = some q → bodyP [x0, .sh (.str p), .ow acc, .sh (.lst NUM), x4, x5] S = .nx [x0, .sh (.str p), .ow (acc ++ [encW q]), .sh (.lst NUM), y4, x5] S) ∧
    (prP p = none → bodyP [x0, .sh (.str p), .ow acc, .sh (.lst NUM), x4, x5] S = .rt .non S) := by
  have e1 := split_ok (S := S) (sep := [32]) (w := p) (by simp) (by decide) (by omega)
  have hb0 : bodyP [x0, .sh (.str p), .ow acc, .sh (.lst NUM), x4, x5] S = (sSeq (sIf (cOr (cBl (eBin gNe (eArgs fLen (aCons (eVar 4) aNil)) (eC (.int 2)))) (cBl (eBin gNin (eBin gIx (eVar 4) (eC (.int 1))) (eVar 3))))
  (sRet (eC .non))
  sPass)
  (sApp 2 (eTup (aCons (eBin gIx (eVar 4) (eC (.int 0))) (aCons (eL1 mLIdx (eVar 3) (eBin gIx (eVar 4) (eC (.int 1)))) aNil))))) [x0, .sh (.str p), .ow acc, .sh (.lst NUM), .sh (.lst ((TL.spl [32] 0 [] p).map .str)), x5] S := by
    unfold bodyP
    exact seq_nx (asg_nm (by simp [lS1, e1]))
  unfold prP
  generalize TL.spl [32] 0 [] p = ws at hb0
  have el : eBin gNe (eArgs fLen (aCons (eVar 4) aNil)) (eC (.int 2)) [x0, .sh (.str p), .ow acc, .sh (.lst NUM), .sh (.lst (ws.map .str)), x5] S = .ok (.bl (!((ws.length : Int) == 2))) S :=
    bin_ok (x := .int (ws.length : Nat)) (y := .int 2) (args1 (x := .lst (ws.map .str)) (by simp) (by rw [len_lst, List.length_map])) (by simp) ne_int
  by_cases hl : ws.length = 2
  · obtain ⟨a, b, rfl⟩ : ∃ a b, ws = [a, b] := by
      match ws, hl with
      | [a, b], _ => exact ⟨a, b, rfl⟩
    have en : eBin gNin (eBin gIx (eVar 4) (eC (.int 1))) (eVar 3) [x0, .sh (.str p), .ow acc, .sh (.lst NUM), .sh (.lst ([a, b].map .str)), x5] S = .ok (.bl (!(NUM.any fun z => eqD z (.str b)))) S :=
      bin_ok (x := .str b) (y := .lst NUM) (bin_ok (x := .lst ([a, b].map .str)) (y := .int 1) (by simp) (by simp) (ix_lst (i := 1) rfl)) (by simp) nin_num
    have el' : eBin gNe (eArgs fLen (aCons (eVar 4) aNil)) (eC (.int 2)) [x0, .sh (.str p), .ow acc, .sh (.lst NUM), .sh (.lst ([a, b].map .str)), x5] S = .ok (.bl false) S := el
    have hc : (cOr (cBl (eBin gNe (eArgs fLen (aCons (eVar 4) aNil)) (eC (.int 2)))) (cBl (eBin gNin (eBin gIx (eVar 4) (eC (.int 1))) (eVar 3)))) [x0, .sh (.str p), .ow acc, .sh (.lst NUM), .sh (.lst ([a, b].map .str)), x5] S = .ok (!(NUM.any fun z => eqD z (.str b))) S := by
      simp only [a_cOr, a_cBl, a_bnd, el', a_asBl, en, a_ite]
      rfl
    rw [num_any] at hc
    cases hn : isNum b with
    | true =>
      rw [hn] at hc
      obtain ⟨d, rfl, h1, h2⟩ := isNum_of hn
      have epr : prW [a, [d]] = some (a, d - 48) := by simp only [prW, hn, if_true]; rfl
      rw [epr]
      refine ⟨⟨.sh (.lst ([a, [d]].map .str)), fun q hq => ?_⟩, fun hq => (by cases hq)⟩
      cases hq
      rw [hb0]
      refine (seq_nx (if_f hc |>.trans rfl)).trans ?_
      have hlim : acc.length < LIM := by unfold LIM; omega
      have ei : eL1 mLIdx (eVar 3) (eBin gIx (eVar 4) (eC (.int 1))) [x0, .sh (.str p), .ow acc, .sh (.lst NUM), .sh (.lst ([a, [d]].map .str)), x5] S = .ok (.int ((d - 48 : Nat) : Int)) S := by
        have e2 : eBin gIx (eVar 4) (eC (.int 1)) [x0, .sh (.str p), .ow acc, .sh (.lst NUM), .sh (.lst ([a, [d]].map .str)), x5] S = .ok (.str [d]) S := bin_ok (x := .lst ([a, [d]].map .str)) (y := .int 1) (by simp) (by simp) (ix_lst (i := 1) rfl)
        unfold eL1
        rw [bnd_okk (a := .lst NUM) (S' := S) (by simp), bnd_okk (m := isLst (.lst NUM)) (a := ()) (S' := S) rfl, bnd_okk e2]
        exact num_idx h1 h2
      have e0 : eBin gIx (eVar 4) (eC (.int 0)) [x0, .sh (.str p), .ow acc, .sh (.lst NUM), .sh (.lst ([a, [d]].map .str)), x5] S = .ok (.str a) S := bin_ok (x := .lst ([a, [d]].map .str)) (y := .int 0) (by simp) (by simp) (ix_lst (i := 0) rfl)
      have et : eTup (aCons (eBin gIx (eVar 4) (eC (.int 0))) (aCons (eL1 mLIdx (eVar 3) (eBin gIx (eVar 4) (eC (.int 1)))) aNil)) [x0, .sh (.str p), .ow acc, .sh (.lst NUM), .sh (.lst ([a, [d]].map .str)), x5] S = .ok (encW (a, d - 48)) S := by
        simp only [a_eTup, a_bnd, a_aCons, e0, ei, a_aNil, a_pur]
        rfl
      unfold sApp
      simp only [List.getElem?_cons_zero, List.getElem?_cons_succ, et, onS]
      rw [if_pos hlim]
      rfl
    | false =>
      rw [hn] at hc
      have epr : prW [a, b] = none := by simp only [prW, hn]; rfl
      rw [epr]
      refine ⟨⟨.un, fun q hq => (by cases hq)⟩, fun hq => ?_⟩
      rw [hb0]
      exact seq_rt (if_t hc |>.trans (ret_e (by simp)))
  · have hz : ((ws.length : Int) == 2) = false := by
      simp; omega
    rw [hz] at el
    have hc : (cOr (cBl (eBin gNe (eArgs fLen (aCons (eVar 4) aNil)) (eC (.int 2)))) (cBl (eBin gNin (eBin gIx (eVar 4) (eC (.int 1))) (eVar 3)))) [x0, .sh (.str p), .ow acc, .sh (.lst NUM), .sh (.lst (ws.map .str)), x5] S = .ok true S := by
      simp only [a_cOr, a_cBl, a_bnd, el, a_asBl, a_ite]
      rfl
    have epr : prW ws = none := by
      match ws, hl with
      | [], _ => rfl
      | [_], _ => rfl
      | [_, _], hl => exact absurd rfl hl
      | _ :: _ :: _ :: _, _ => rfl
    rw [epr]
    refine ⟨⟨.un, fun q hq => (by cases hq)⟩, fun hq => ?_⟩
    rw [hb0]
    exact seq_rt (if_t hc |>.trans (ret_e (by simp)))
def prAll : List (List Nat) → Option (List Pw)
  | [] => some []
  | p :: ps => match prP p with
    | none => none
    | some q => (prAll ps).map (q :: ·)
theorem loopP {x0 x5 : Sl} : ∀ (ps : List (List Nat)) (acc : List D) (x1 x4 : Sl), (∀ p ∈ ps, p.length ≤ 1000) → acc.length + ps.length ≤ 1000 →
    (∀ qs, prAll ps = some qs → ∃ y1 y4, forL (fun _ => True) (tNm 1) bodyP (ps.map .str) [x0, x1, .ow acc, .sh (.lst NUM), x4, x5] S = .nx [x0, y1, .ow (acc ++ qs.map encW), .sh (.lst NUM), y4, x5] S) ∧
    (prAll ps = none → forL (fun _ => True) (tNm 1) bodyP (ps.map .str) [x0, x1, .ow acc, .sh (.lst NUM), x4, x5] S = .rt .non S)
  | [], acc, x1, x4, _, _ => ⟨fun qs e => by cases e; exact ⟨x1, x4, by simp [forL]⟩, fun e => by cases e⟩
  | p :: ps, acc, x1, x4, h, ha => by
    simp only [List.length_cons] at ha
    obtain ⟨⟨y4, b1⟩, b2⟩ := bodyP_ok (S := S) (x0 := x0) (x5 := x5) (x4 := x4) (p := p) (acc := acc) (h p List.mem_cons_self) (by omega)
    rw [prAll]
    cases q : prP p with
    | none =>
      refine ⟨fun qs e => (by cases e), fun _ => ?_⟩
      simp only [List.map_cons, forL, if_true, a_tNm, List.set]
      rw [b2 q]
    | some z =>
      obtain ⟨h1, h2⟩ := loopP (x0 := x0) (x5 := x5) ps (acc ++ [encW z]) (.sh (.str p)) y4 (fun p hp => h p (List.mem_cons_of_mem _ hp)) (by simp; omega)
      refine ⟨fun qs e => ?_, fun e => ?_⟩
      · obtain ⟨qs', e', rfl⟩ := Option.map_eq_some_iff.mp e
        obtain ⟨y1, y4', g⟩ := h1 qs' e'
        refine ⟨y1, y4', ?_⟩
        simp only [List.map_cons, forL, if_true, a_tNm, List.set]
        rw [b1 z q]
        simp only []
        rw [g, List.append_assoc]
        rfl
      · have e' : prAll ps = none := by simpa using e
        simp only [List.map_cons, forL, if_true, a_tNm, List.set]
        rw [b1 z q]
        exact h2 e'
def NONE : List Nat := [110, 111, 110, 101]
def rdP (w : List Nat) : Option (List Pw) := if w = NONE then some [] else prAll (TL.spl [32, 44, 32] 0 [] w)
def encR (o : Option (List Pw)) : D := match o with
  | none => .non
  | some qs => .tup (qs.map encW)
theorem spl_len (sep : List Nat) : ∀ (w : List Nat) (k : Nat) (acc : List Nat), (TL.spl sep k acc w).length ≤ w.length + 1 ∧ ∀ p ∈ TL.spl sep k acc w, p.length ≤ acc.length + w.length
  | [], k, acc => by rw [TL.spl_nil]; simp
  | c :: w, 0, acc => by
    cases q : TL.pre sep (c :: w) with
    | true =>
      rw [TL.spl_hit q]
      obtain ⟨h1, h2⟩ := spl_len sep w (sep.length - 1) []
      refine ⟨by simp; omega, fun p hp => ?_⟩
      rcases List.mem_cons.mp hp with rfl | hp
      · simp
      · have := h2 p hp; simp at this ⊢; omega
    | false =>
      rw [TL.spl_miss q]
      obtain ⟨h1, h2⟩ := spl_len sep w 0 (acc ++ [c])
      refine ⟨by simp; omega, fun p hp => ?_⟩
      have := h2 p hp; simp at this ⊢; omega
  | c :: w, k + 1, acc => by
    obtain ⟨h1, h2⟩ := spl_len sep w k acc
    have e : TL.spl sep (k + 1) acc (c :: w) = TL.spl sep k acc w := rfl
    rw [e]
    exact ⟨by simp; omega, fun p hp => by have := h2 p hp; simp; omega⟩
theorem eq_str {x y : List Nat} : gEq (.str x) (.str y) S = .ok (.bl (x == y)) S := rfl
theorem readp_ok {w : List Nat} (h : w.length ≤ 900) : d_read_pairs [.str w] S = .ok (encR (rdP w)) S := by
  refine fn_run (g := m_read_pairs) (env := [.sh (.str w), .un, .un, .un, .un, .un]) rfl ?_
  unfold m_read_pairs
  have hc : cBl (eBin gEq (eVar 0) (eC (.str [110, 111, 110, 101]))) [.sh (.str w), .un, .un, .un, .un, .un] S = .ok (w == NONE) S := by
    simp [eq_str, NONE]
  unfold rdP
  by_cases hw : w = NONE
  · rw [if_pos hw]
    refine congrArg outS (seq_rt (d := .tup []) (S' := S) (if_t (S' := S) ?_ |>.trans (ret_e (by simp [need]))))
    rw [hc, hw]; rfl
  rw [if_neg hw]
  have hc' : cBl (eBin gEq (eVar 0) (eC (.str [110, 111, 110, 101]))) [.sh (.str w), .un, .un, .un, .un, .un] S = .ok false S := by
    rw [hc]; simp [hw]
  refine (congrArg outS (seq_nx (if_f hc' |>.trans rfl))).trans ?_
  have en := lc_map (own := [5]) (src := iRng1D (eC (.int 6))) (t := tNm 5) (e := eArgs fStr (aCons (eVar 5) aNil)) (r := [.sh (.str w), .un, .un, .un, .un, .un]) (S := S) (ok := fun _ => True) (xs := List.range 6) (g := fun i => .int (0 + (i : Nat))) (f := fun i => .str [48 + i])
    (by exact rng_ok (k := 6) (by omega) rfl) trivial (by decide) fun i hi => ⟨_, rfl, args1 (x := .int (i : Nat)) (by simp [wipeD]) (fstr_of (by rw [List.mem_range] at hi; omega))⟩
  have h1 : sOwn2 2 3 (lLst aNil) (eFz (lLc [5] (iRng1D (eC (.int 6))) (tNm 5) cYes (eArgs fStr (aCons (eVar 5) aNil)))) [.sh (.str w), .un, .un, .un, .un, .un] S = .nx [.sh (.str w), .un, .ow [], .sh (.lst NUM), .un, .un] S := by
    have en' : eFz (lLc [5] (iRng1D (eC (.int 6))) (tNm 5) cYes (eArgs fStr (aCons (eVar 5) aNil))) [.sh (.str w), .un, .un, .un, .un, .un] S = .ok (.lst NUM) S := by
      simp only [a_eFz, a_bnd, en, a_pur]; rfl
    have e0 : lLst aNil [.sh (.str w), .un, .un, .un, .un, .un] S = .ok [] S := by simp [need]
    unfold sOwn2
    rw [e0]
    simp only [onS]
    rw [en']
    rfl
  refine (congrArg outS (seq_nx h1)).trans ?_
  have hsp := split_ok (S := S) (sep := [32, 44, 32]) (w := w) (by simp) (by decide) (by omega)
  obtain ⟨l1, l2⟩ := spl_len [32, 44, 32] w 0 []
  generalize TL.spl [32, 44, 32] 0 [] w = ps at hsp l1 l2
  obtain ⟨g1, g2⟩ := loopP (S := S) (x0 := .sh (.str w)) (x5 := .un) ps [] .un .un (fun p hp => by have := l2 p hp; simp at this; omega) (by simp; omega)
  have h2 : iIter (eFz (lS1 mSplit (eVar 0) (eC (.str [32, 44, 32])))) [.sh (.str w), .un, .ow [], .sh (.lst NUM), .un, .un] S = .ok ⟨ps.map .str, fun _ => True⟩ S := by
    simp [lS1, hsp, dIter]
  cases q : prAll ps with
  | none =>
    refine congrArg outS (seq_rt (d := .non) (S' := S) ?_)
    unfold sFor
    rw [h2]
    exact g2 q
  | some qs =>
    obtain ⟨y1, y4, e⟩ := g1 qs q
    refine (congrArg outS (seq_nx (r' := [.sh (.str w), y1, .ow (qs.map encW), .sh (.lst NUM), y4, .un]) (S' := S) ?_)).trans ?_
    · unfold sFor
      rw [h2]
      exact e
    · refine congrArg outS (ret_e (args1 (x := .lst (qs.map encW)) (by simp) ?_))
      rfl
end
end K75
set_option maxRecDepth 100000
set_option maxHeartbeats 2000000
namespace K75
set_option autoImplicit false
open Dm
section
variable {S : Sto} {s t : List Rm}
def lineP (n i : Nat) (l : List Nat) : Option (List Pw) := if TL.pre [48 + i, 58, 32] l = true ∧ i < 6 then (match rdP (l.drop 3) with
  | none => none
  | some qs => if roomB n (qs.map encW) = true then some qs else none) else none
noncomputable def bodyL3 : SX := sSeq (sIf (cOr (cBl (eBin gIs (eVar 6) (eC .non))) (cNot (cTru (eCall 2 d_is_room (aCons (eVar 6) (aCons (eArgs fLen (aCons (eVar 1) aNil)) aNil))))))
  (sRaise 3 [0] (aCons (eBin gAdd (eVar 3) (eC (.int 1))) aNil))
  sPass)
  (sApp 2 (eVar 6))
noncomputable def bodyL : SX := sSeq (sAsg (eBin gAdd (eArgs fStr (aCons (eVar 3) aNil)) (eC (.str [58, 32]))) (tNm 5))
  (sSeq (sIf (cOr (cNot (cTru (eS1 mStarts (eVar 4) (eVar 5)))) (cBl (eBin gGe (eVar 3) (eC (.int 6)))))
  (sRaise 3 [0] (aCons (eBin gAdd (eVar 3) (eC (.int 1))) aNil))
  sPass)
  (sSeq (sAsg (eCall 1 d_read_pairs (aCons (eSl (oSome (eArgs fLen (aCons (eVar 5) aNil))) oNone (eVar 4)) aNil)) (tNm 6))
  bodyL3))
theorem cut3 {l : List Nat} : cutD l (some 3) none = l.drop 3 := by
  have e : (bdI l.length 0 (some 3)) = min 3 l.length := by simp [bdI]
  have e2 : bdI l.length l.length none = l.length := rfl
  unfold cutD
  rw [e, e2, List.take_of_length_le (by simp)]
  by_cases h : 3 ≤ l.length
  · rw [Nat.min_eq_left h]
  · rw [Nat.min_eq_right (by omega), List.drop_eq_nil_of_le (Nat.le_refl _), List.drop_eq_nil_of_le (by omega)]
theorem cut_str {l : List Nat} {lo hi : Option Int} (h : l.length ≤ 1000000) : gCut lo hi (.str l) S = .ok (.str (cutD l lo hi)) S := by
  have : l.length ≤ LIM := by unfold LIM; omega
  show need _ _ S = _
  rw [decide_eq_true this]
  rfl
theorem len_str {w : List Nat} (h : w.length ≤ 1000000) : fLen [.str w] S = .ok (.int (w.length : Nat)) S := by
  have : w.length ≤ LIM := by unfold LIM; omega
  unfold fLen
  simp only [if_pos this]
theorem gd_encW {q : Pw} (h : q.1.length ≤ 1000000) : gd (encW q) = true := by
  have : q.1.length ≤ LIM := by unfold LIM; omega
  simp [gd, pl, itD, encW, strOk, this]
theorem prW_len {ws : List (List Nat)} {q : Pw} {m : Nat} (h : ∀ w ∈ ws, w.length ≤ m) (e : prW ws = some q) : q.1.length ≤ m := by
  unfold prW at e
  split at e
  · split at e
    · cases e; exact h _ List.mem_cons_self
    · cases e
  · cases e
theorem prAll_len : ∀ {ps : List (List Nat)} {qs : List Pw} {m : Nat}, (∀ p ∈ ps, p.length ≤ m) → prAll ps = some qs → qs.length = ps.length ∧ ∀ q ∈ qs, q.1.length ≤ m
  | [], qs, m, _, e => by cases e; simp
  | p :: ps, qs, m, h, e => by
    rw [prAll] at e
    cases hq : prP p with
    | none => rw [hq] at e; cases e
    | some z =>
      rw [hq] at e
      obtain ⟨zs, e2, rfl⟩ := Option.map_eq_some_iff.mp e
      obtain ⟨h1, h2⟩ := prAll_len (fun p hp => h p (List.mem_cons_of_mem _ hp)) e2
      refine ⟨by simp [h1], fun q hq2 => ?_⟩
      rcases List.mem_cons.mp hq2 with rfl | hq2
      · have hp := h p List.mem_cons_self
        refine prW_len (fun w hw => ?_) hq
        have := (spl_len [32] p 0 []).2 w hw
        simp at this
        omega
      · exact h2 q hq2
theorem rdP_len {w : List Nat} {qs : List Pw} (h : rdP w = some qs) : qs.length ≤ w.length + 1 ∧ ∀ q ∈ qs, q.1.length ≤ w.length := by
  unfold rdP at h
  split at h
  · cases h; simp
  · obtain ⟨l1, l2⟩ := spl_len [32, 44, 32] w 0 []
    obtain ⟨h1, h2⟩ := prAll_len (m := w.length) (fun p hp => by have := l2 p hp; simpa using this) h
    exact ⟨by omega, h2⟩
theorem bodyL_ok {x0 x5 x6 : Sl} {L : List D} {acc : List D} {i : Nat} {l : List Nat} (hi : i < 10) (hl : l.length ≤ 800) (ha : acc.length ≤ 1000) : (∃ y5 y6, ∀ qs, lineP L.length i l = some qs → bodyL [x0, .sh (.lst L), .ow acc, .sh (.int (i : Nat)), .sh (.str l), x5, x6] S = .nx [x0, .sh (.lst L), .ow (acc ++ [.tup (qs.map encW)]), .sh (.int (i : Nat)), .sh (.str l), y5, y6] S) ∧
    (lineP L.length i l = none → ∃ y5 y6, bodyL [x0, .sh (.lst L), .ow acc, .sh (.int (i : Nat)), .sh (.str l), x5, x6] S = .er ⟨3, [(0, .int ((i + 1 : Nat) : Int))]⟩ [x0, .sh (.lst L), .ow acc, .sh (.int (i : Nat)), .sh (.str l), y5, y6] S) := by
  have e1 : eBin gAdd (eArgs fStr (aCons (eVar 3) aNil)) (eC (.str [58, 32])) [x0, .sh (.lst L), .ow acc, .sh (.int (i : Nat)), .sh (.str l), x5, x6] S = .ok (.str [48 + i, 58, 32]) S :=
    bin_ok (x := .str [48 + i]) (y := .str [58, 32]) (args1 (x := .int (i : Nat)) (by simp) (fstr_of hi)) (by simp) (cat_str (by simp))
  have hb0 : bodyL [x0, .sh (.lst L), .ow acc, .sh (.int (i : Nat)), .sh (.str l), x5, x6] S = (sSeq (sIf (cOr (cNot (cTru (eS1 mStarts (eVar 4) (eVar 5)))) (cBl (eBin gGe (eVar 3) (eC (.int 6)))))
  (sRaise 3 [0] (aCons (eBin gAdd (eVar 3) (eC (.int 1))) aNil))
  sPass)
  (sSeq (sAsg (eCall 1 d_read_pairs (aCons (eSl (oSome (eArgs fLen (aCons (eVar 5) aNil))) oNone (eVar 4)) aNil)) (tNm 6))
  bodyL3)) [x0, .sh (.lst L), .ow acc, .sh (.int (i : Nat)), .sh (.str l), .sh (.str [48 + i, 58, 32]), x6] S := by
    unfold bodyL
    exact seq_nx (asg_nm e1)
  have e2 : eBin gGe (eVar 3) (eC (.int 6)) [x0, .sh (.lst L), .ow acc, .sh (.int (i : Nat)), .sh (.str l), .sh (.str [48 + i, 58, 32]), x6] S = .ok (.bl (decide (6 ≤ (i : Int)))) S := bin_ok (x := .int (i : Nat)) (y := .int 6) (by simp) (by simp) int_ge
  have hc : (cOr (cNot (cTru (eS1 mStarts (eVar 4) (eVar 5)))) (cBl (eBin gGe (eVar 3) (eC (.int 6))))) [x0, .sh (.lst L), .ow acc, .sh (.int (i : Nat)), .sh (.str l), .sh (.str [48 + i, 58, 32]), x6] S = .ok (!(decide (TL.pre [48 + i, 58, 32] l = true ∧ i < 6))) S := by
    have e3 : cTru (eS1 mStarts (eVar 4) (eVar 5)) [x0, .sh (.lst L), .ow acc, .sh (.int (i : Nat)), .sh (.str l), .sh (.str [48 + i, 58, 32]), x6] S = .ok (TL.pre [48 + i, 58, 32] l) S := by
      simp [eS1, mStarts, dTru]
    simp only [a_cOr, a_cNot, a_bnd, e3, a_pur, a_cBl, e2, a_ite, a_asBl]
    cases TL.pre [48 + i, 58, 32] l with
    | false => rfl
    | true =>
      by_cases h6 : i < 6
      · have : ¬ (6 ≤ (i : Int)) := by omega
        simp [h6, this]
      · have : (6 ≤ (i : Int)) := by omega
        simp [h6, this]
  have er : ∀ y5 y6, sRaise 3 [0] (aCons (eBin gAdd (eVar 3) (eC (.int 1))) aNil) [x0, .sh (.lst L), .ow acc, .sh (.int (i : Nat)), .sh (.str l), y5, y6] S = .er ⟨3, [(0, .int ((i + 1 : Nat) : Int))]⟩ [x0, .sh (.lst L), .ow acc, .sh (.int (i : Nat)), .sh (.str l), y5, y6] S := fun y5 y6 => by
    simp [sRaise, onS, gAdd]
  unfold lineP
  by_cases hp : TL.pre [48 + i, 58, 32] l = true ∧ i < 6
  · rw [if_pos hp]
    have hc' := hc
    rw [decide_eq_true hp] at hc'
    have e4 : eCall 1 d_read_pairs (aCons (eSl (oSome (eArgs fLen (aCons (eVar 5) aNil))) oNone (eVar 4)) aNil) [x0, .sh (.lst L), .ow acc, .sh (.int (i : Nat)), .sh (.str l), .sh (.str [48 + i, 58, 32]), x6] S = .ok (encR (rdP (l.drop 3))) S := by
      have e5 : eSl (oSome (eArgs fLen (aCons (eVar 5) aNil))) oNone (eVar 4) [x0, .sh (.lst L), .ow acc, .sh (.int (i : Nat)), .sh (.str l), .sh (.str [48 + i, 58, 32]), x6] S = .ok (.str (l.drop 3)) S := by
        have e6 : eArgs fLen (aCons (eVar 5) aNil) [x0, .sh (.lst L), .ow acc, .sh (.int (i : Nat)), .sh (.str l), .sh (.str [48 + i, 58, 32]), x6] S = .ok (.int 3) S := args1 (x := .str [48 + i, 58, 32]) (by simp) (len_str (by simp))
        exact c_sl (c_v rfl) (c_some e6) c_none (by rw [cut_str (by omega), cut3])
      exact c_call1 e5 (readp_ok (by simp; omega))
    have hb1 : bodyL [x0, .sh (.lst L), .ow acc, .sh (.int (i : Nat)), .sh (.str l), x5, x6] S = bodyL3 [x0, .sh (.lst L), .ow acc, .sh (.int (i : Nat)), .sh (.str l), .sh (.str [48 + i, 58, 32]), .sh (encR (rdP (l.drop 3)))] S := by
      rw [hb0]
      refine (seq_nx (if_f hc' |>.trans rfl)).trans ?_
      exact seq_nx (asg_nm e4)
    cases hr : rdP (l.drop 3) with
    | none =>
      rw [hr] at hb1
      refine ⟨⟨.un, .un, fun qs h => (by cases h)⟩, fun _ => ⟨.sh (.str [48 + i, 58, 32]), .sh (encR none), ?_⟩⟩
      · rw [hb1]
        unfold bodyL3
        refine seq_er ((if_t (S' := S) ?_).trans (er _ _))
        simp [encR, gIs, isS, isNon, ofO]
    | some qs =>
      rw [hr] at hb1
      obtain ⟨l1, l2⟩ := rdP_len hr
      have hl3 : (l.drop 3).length ≤ 800 := by simp; omega
      have hgd : (qs.map encW).all gd = true := by
        rw [List.all_map, List.all_eq_true]
        exact fun q hq => gd_encW (by have := l2 q hq; omega)
      have e7 := room_sq (S := S) (n := L.length) sqA_tup hgd (by simp; omega)
      have hc2 : (cOr (cBl (eBin gIs (eVar 6) (eC .non))) (cNot (cTru (eCall 2 d_is_room (aCons (eVar 6) (aCons (eArgs fLen (aCons (eVar 1) aNil)) aNil)))))) [x0, .sh (.lst L), .ow acc, .sh (.int (i : Nat)), .sh (.str l), .sh (.str [48 + i, 58, 32]), .sh (.tup (qs.map encW))] S = .ok (!(roomB L.length (qs.map encW))) S := by
        have e8 : eCall 2 d_is_room (aCons (eVar 6) (aCons (eArgs fLen (aCons (eVar 1) aNil)) aNil)) [x0, .sh (.lst L), .ow acc, .sh (.int (i : Nat)), .sh (.str l), .sh (.str [48 + i, 58, 32]), .sh (.tup (qs.map encW))] S = .ok (.bl (roomB L.length (qs.map encW))) S := by
          have e9 : eArgs fLen (aCons (eVar 1) aNil) [x0, .sh (.lst L), .ow acc, .sh (.int (i : Nat)), .sh (.str l), .sh (.str [48 + i, 58, 32]), .sh (.tup (qs.map encW))] S = .ok (.int (L.length : Nat)) S := args1 (x := .lst L) (by simp) len_lst
          simp only [a_eCall, a_bnd, a_aCons, a_eVar, List.getElem?_cons_succ, List.getElem?_cons_zero, e9, a_aNil, a_pur]
          exact e7
        have e10 : cBl (eBin gIs (eVar 6) (eC .non)) [x0, .sh (.lst L), .ow acc, .sh (.int (i : Nat)), .sh (.str l), .sh (.str [48 + i, 58, 32]), .sh (.tup (qs.map encW))] S = .ok false S := by simp [gIs, isS, isNon, ofO]
        simp only [a_cOr, a_bnd, e10, a_cNot, a_cTru, e8, dTru, a_pur, a_ite]
        rfl
      simp only []
      cases hroom : roomB L.length (qs.map encW) with
      | true =>
        rw [hroom] at hc2
        rw [if_pos rfl]
        refine ⟨⟨.sh (.str [48 + i, 58, 32]), .sh (.tup (qs.map encW)), fun qs' h => ?_⟩, fun h => (by cases h)⟩
        cases h
        rw [hb1]
        unfold bodyL3
        refine (seq_nx (if_f hc2 |>.trans rfl)).trans ?_
        have hlim : acc.length < LIM := by unfold LIM; omega
        simp [sApp, onS, hlim]
      | false =>
        rw [hroom] at hc2
        rw [if_neg (by decide)]
        refine ⟨⟨.un, .un, fun qs' h => (by cases h)⟩, fun _ => ⟨.sh (.str [48 + i, 58, 32]), .sh (.tup (qs.map encW)), ?_⟩⟩
        · rw [hb1]
          unfold bodyL3
          exact seq_er ((if_t hc2).trans (er _ _))
  · rw [if_neg hp]
    have hc' := hc
    rw [decide_eq_false hp] at hc'
    refine ⟨⟨.un, .un, fun qs' h => (by cases h)⟩, fun _ => ⟨.sh (.str [48 + i, 58, 32]), x6, ?_⟩⟩
    · rw [hb0]
      exact seq_er ((if_t hc').trans (er _ _))
def parseL (n : Nat) : Nat → List (List Nat) → Except Nat (List (List Pw))
  | _, [] => .ok []
  | i, l :: ls => match lineP n i l with
    | none => .error (i + 1)
    | some qs => match parseL n (i + 1) ls with
      | .ok z => .ok (qs :: z)
      | .error e => .error e
theorem loopL {x0 : Sl} {L : List D} : ∀ (ls : List (List Nat)) (i : Nat) (acc : List D) (x3 x4 x5 x6 : Sl), (∀ l ∈ ls, l.length ≤ 800) → i + ls.length ≤ 10 → acc.length + ls.length ≤ 1000 →
    (∀ z, parseL L.length i ls = .ok z → ∃ y3 y4 y5 y6, forL (fun _ => True) (tTp [tNm 3, tNm 4]) bodyL (enuD i (ls.map .str)) [x0, .sh (.lst L), .ow acc, x3, x4, x5, x6] S = .nx [x0, .sh (.lst L), .ow (acc ++ z.map fun qs => .tup (qs.map encW)), y3, y4, y5, y6] S) ∧
    (∀ e, parseL L.length i ls = .error e → ∃ r', forL (fun _ => True) (tTp [tNm 3, tNm 4]) bodyL (enuD i (ls.map .str)) [x0, .sh (.lst L), .ow acc, x3, x4, x5, x6] S = .er ⟨3, [(0, .int (e : Nat))]⟩ r' S)
  | [], i, acc, x3, x4, x5, x6, _, _, _ => ⟨fun z e => by cases e; exact ⟨x3, x4, x5, x6, by simp [enuD, forL]⟩, fun e h => by cases h⟩
  | l :: ls, i, acc, x3, x4, x5, x6, h, hi, ha => by
    simp only [List.length_cons] at hi ha
    obtain ⟨⟨y5, y6, b1⟩, b2⟩ := bodyL_ok (S := S) (x0 := x0) (x5 := x5) (x6 := x6) (L := L) (acc := acc) (i := i) (l := l) (by omega) (h l List.mem_cons_self) (by omega)
    have ht : tTp [tNm 3, tNm 4] (.tup [.int (i : Nat), .str l]) [x0, .sh (.lst L), .ow acc, x3, x4, x5, x6] = some [x0, .sh (.lst L), .ow acc, .sh (.int (i : Nat)), .sh (.str l), x5, x6] := rfl
    rw [parseL]
    cases hq : lineP L.length i l with
    | none =>
      obtain ⟨y5, y6, b⟩ := b2 hq
      refine ⟨fun z e => (by cases e), fun e h => ?_⟩
      cases h
      refine ⟨[x0, .sh (.lst L), .ow acc, .sh (.int (i : Nat)), .sh (.str l), y5, y6], ?_⟩
      simp only [List.map_cons, enuD, forL, if_true]
      rw [ht]
      simp only []
      rw [b]
    | some qs =>
      obtain ⟨h1, h2⟩ := loopL (x0 := x0) (L := L) ls (i + 1) (acc ++ [.tup (qs.map encW)]) (.sh (.int (i : Nat))) (.sh (.str l)) y5 y6 (fun q hq => h q (List.mem_cons_of_mem _ hq)) (by omega) (by simp; omega)
      simp only []
      cases hp : parseL L.length (i + 1) ls with
      | ok z =>
        refine ⟨fun z' e => ?_, fun e h => (by cases h)⟩
        cases e
        obtain ⟨y3, y4, y5', y6', g⟩ := h1 z hp
        refine ⟨y3, y4, y5', y6', ?_⟩
        simp only [List.map_cons, enuD, forL, if_true]
        rw [ht]
        simp only []
        rw [b1 qs hq]
        simp only []
        rw [g, List.append_assoc]
        rfl
      | error e =>
        refine ⟨fun z' e => (by cases e), fun e' h => ?_⟩
        cases h
        obtain ⟨r', g⟩ := h2 e hp
        refine ⟨r', ?_⟩
        simp only [List.map_cons, enuD, forL, if_true]
        rw [ht]
        simp only []
        rw [b1 qs hq]
        exact g
/-- a text of these lines is read -/
theorem parse_hd {ls : List (List Nat)} (hne : ls ≠ []) (hnl : ∀ l ∈ ls, 10 ∉ l) (hl : ∀ l ∈ ls, l.length ≤ 800) (h10 : ls.length ≤ 10) {k : SX} :
    outS (sSeq (sIf (cNot (cTru (eCall 1 d_is_text (aCons (eVar 0) aNil)))) (sRaise 3 [0] (aCons (eC (.int 0)) aNil)) sPass)
      (sSeq (sAsg (eFz (lS1 mSplit (eVar 0) (eC (.str [10])))) (tNm 1)) (sSeq (sOwn 2 (lLst aNil)) k)) [.sh (.str (TL.joinL [10] ls)), .un, .un, .un, .un, .un, .un] S) = outS (k [.sh (.str (TL.joinL [10] ls)), .sh (.lst (ls.map .str)), .ow [], .un, .un, .un, .un] S) := by
  have e1 := text_ok (S := S) (d := .str (TL.joinL [10] ls)) rfl
  have h1 : (sIf (cNot (cTru (eCall 1 d_is_text (aCons (eVar 0) aNil)))) (sRaise 3 [0] (aCons (eC (.int 0)) aNil)) sPass) [.sh (.str (TL.joinL [10] ls)), .un, .un, .un, .un, .un, .un] S = .nx [.sh (.str (TL.joinL [10] ls)), .un, .un, .un, .un, .un, .un] S := by
    simp [sIf, onS, need, e1, isTx, dTru, sPass]
  have jl := joinL_len (sep := [10]) hl
  have e2 := split_ok (S := S) (sep := [10]) (w := TL.joinL [10] ls) (by simp) (by decide) (by
    refine Nat.le_trans jl ?_
    simp
    have : ls.length * 801 ≤ 10 * 801 := Nat.mul_le_mul_right _ h10
    omega)
  rw [TL.spl_join hne hnl] at e2
  refine (congrArg outS (seq_nx h1)).trans ?_
  refine (congrArg outS (seq_nx (asg_nm (d := .lst (ls.map .str)) (S' := S) (by simp [lS1, e2])))).trans ?_
  exact congrArg outS (seq_nx (by simp [sOwn, onS, need]))
theorem parse_er {ls : List (List Nat)} (hne : ls ≠ []) (hnl : ∀ l ∈ ls, 10 ∉ l) (hl : ∀ l ∈ ls, l.length ≤ 800) (h10 : ls.length ≤ 10) {e : Nat} (he : parseL ls.length 0 ls = .error e) :
    d_Wants_parse [.str (TL.joinL [10] ls)] S = .er ⟨3, [(0, .int (e : Nat))]⟩ S := by
  refine fn_run (g := m_Wants_parse) (env := [.sh (.str (TL.joinL [10] ls)), .un, .un, .un, .un, .un, .un]) rfl ?_
  unfold m_Wants_parse
  refine (parse_hd hne hnl hl h10).trans ?_
  have := (loopL (S := S) (x0 := .sh (.str (TL.joinL [10] ls))) (L := ls.map .str) ls 0 [] .un .un .un .un hl (by omega) (by simp; omega)).2 e (by rw [List.length_map]; exact he)
  obtain ⟨r', g⟩ := this
  refine congrArg outS (seq_er (r' := r') ?_)
  unfold sFor
  rw [show iEnu (eVar 1) [.sh (.str (TL.joinL [10] ls)), .sh (.lst (ls.map .str)), .ow [], .un, .un, .un, .un] S = .ok ⟨enuD 0 (ls.map .str), fun _ => True⟩ S by simp [iEnu, dIter]]
  exact g
theorem parse_none : d_Wants_parse [.non] S = .er ⟨3, [(0, .int 0)]⟩ S := by
  have e1 := text_ok (S := S) (d := .non) rfl
  refine fn_run (g := m_Wants_parse) (env := [.sh .non, .un, .un, .un, .un, .un, .un]) rfl ?_
  unfold m_Wants_parse
  refine congrArg outS (seq_er (r' := [.sh .non, .un, .un, .un, .un, .un, .un]) ?_)
  simp [sIf, onS, need, e1, isTx, dTru, sRaise]
theorem parse_ok {ls : List (List Nat)} (hb : bdS S.length S = true) (hne : ls ≠ []) (hnl : ∀ l ∈ ls, 10 ∉ l) (hl : ∀ l ∈ ls, l.length ≤ 800) (h10 : ls.length ≤ 10) (ok : StOk s) (he : parseL ls.length 0 ls = .ok (s.map fun r => r.map fun p => ([p.1], p.2))) :
    d_Wants_parse [.str (TL.joinL [10] ls)] S = .ok (WO s) S := by
  refine fn_run (g := m_Wants_parse) (env := [.sh (.str (TL.joinL [10] ls)), .un, .un, .un, .un, .un, .un]) rfl ?_
  unfold m_Wants_parse
  refine (parse_hd hne hnl hl h10).trans ?_
  have := (loopL (S := S) (x0 := .sh (.str (TL.joinL [10] ls))) (L := ls.map .str) ls 0 [] .un .un .un .un hl (by omega) (by simp; omega)).1 _ (by rw [List.length_map]; exact he)
  obtain ⟨y3, y4, y5, y6, g⟩ := this
  have ez : ((s.map fun r => r.map fun p : Nat × Nat => (([p.1], p.2) : Pw)).map fun qs => D.tup (qs.map encW)) = s.map rT := by
    rw [List.map_map]
    refine List.map_congr_left fun r _ => ?_
    show D.tup ((r.map fun p : Nat × Nat => (([p.1], p.2) : Pw)).map encW) = rT r
    rw [List.map_map]
    rfl
  rw [List.nil_append, ez] at g
  refine (congrArg outS (seq_nx (r' := [.sh (.str (TL.joinL [10] ls)), .sh (.lst (ls.map .str)), .ow (s.map rT), y3, y4, y5, y6]) (S' := S) ?_)).trans ?_
  · unfold sFor
    rw [show iEnu (eVar 1) [.sh (.str (TL.joinL [10] ls)), .sh (.lst (ls.map .str)), .ow [], .un, .un, .un, .un] S = .ok ⟨enuD 0 (ls.map .str), fun _ => True⟩ S by simp [iEnu, dIter]]
    exact g
  · have es : (s.map fun r => (rT r, r)).map (·.2) = s := by
      rw [List.map_map]; exact List.map_id' s
    have em := make_ok (v := .lst (s.map rT)) (ps := s.map fun r => (rT r, r)) hb ⟨by rw [List.map_map]; exact .lst, fun p hp => by
      obtain ⟨r, _, rfl⟩ := List.mem_map.mp hp
      exact .tup⟩ (by rw [es]; exact ok)
    rw [es] at em
    have em' : mkD 0 d_Wants___init__ [.lst (s.map rT)] S = .ok (WO s) S := em
    refine congrArg outS (a₂ := .rt (WO s) S) ?_
    simp [sFrz, frz, sRet, onS, need, em']
end
end K75
set_option maxRecDepth 100000
set_option maxHeartbeats 2000000
namespace K75
set_option autoImplicit false
open Dm
section
variable {S : Sto} {s t : List Rm}
def f3 (p : Nat × Nat) : List Nat := [p.1, 32, 48 + p.2]
theorem pre_ne {S0 l : List Nat} (h : l.take S0.length ≠ S0) : TL.pre S0 l = false := by simp [TL.pre, h]
theorem spl_pairs {x : List Nat} (hx : x = [] ∨ x = [32]) : ∀ (r : Rm), r ≠ [] → (∀ p ∈ r, p.1 ≠ 32 ∧ p.2 < 6) →
    TL.spl [32, 44, 32] 0 [] (TL.joinL [32, 44, 32] (r.map f3) ++ x) = (r.dropLast.map f3) ++ [f3 (r.getLastD (0, 0)) ++ x]
  | [], h, _ => absurd rfl h
  | [p], _, h => by
    obtain ⟨h1, h2⟩ := h p List.mem_cons_self
    have e : TL.joinL [32, 44, 32] ([p].map f3) ++ x = f3 p ++ x := rfl
    rw [e]
    have := TL.spl_last (S := [32, 44, 32]) (p := f3 p ++ x) (acc := []) fun i hi => by
      refine pre_ne ?_
      rcases hx with rfl | rfl
      · have : i = 0 ∨ i = 1 ∨ i = 2 := by simp [f3] at hi; omega
        rcases this with rfl | rfl | rfl <;> simp [f3, h1] <;> omega
      · have : i = 0 ∨ i = 1 ∨ i = 2 ∨ i = 3 := by simp [f3] at hi; omega
        rcases this with rfl | rfl | rfl | rfl <;> simp [f3, h1] <;> omega
    rw [this]
    rfl
  | p :: q :: r, _, h => by
    obtain ⟨h1, h2⟩ := h p List.mem_cons_self
    have ih := spl_pairs hx (q :: r) (by simp) fun z hz => h z (List.mem_cons_of_mem _ hz)
    have e : TL.joinL [32, 44, 32] ((p :: q :: r).map f3) ++ x = f3 p ++ ([32, 44, 32] ++ (TL.joinL [32, 44, 32] ((q :: r).map f3) ++ x)) := by
      simp only [List.map_cons, TL.joinL, List.append_assoc]
    rw [e, TL.spl_part (by simp) fun i hi => by
      refine pre_ne ?_
      have : i = 0 ∨ i = 1 ∨ i = 2 := by simp [f3] at hi; omega
      rcases this with rfl | rfl | rfl <;> simp [f3, h1] <;> omega, ih]
    rfl
theorem prP_f3 {p : Nat × Nat} (h1 : p.1 ≠ 32) (h2 : p.2 < 6) : prP (f3 p) = some ([p.1], p.2) := by
  have h3 : ¬ (48 + p.2 = 32) := by omega
  have h4 : 48 + p.2 < 54 := by omega
  have e : TL.spl [32] 0 [] (f3 p) = [[p.1], [48 + p.2]] := by simp [f3, TL.spl, TL.pre, h1, h3]
  simp [prP, e, prW, isNum, h4]
theorem prP_f3x {p : Nat × Nat} (h1 : p.1 ≠ 32) (h2 : p.2 < 6) : prP (f3 p ++ [32]) = none := by
  have h3 : ¬ (48 + p.2 = 32) := by omega
  have e : TL.spl [32] 0 [] (f3 p ++ [32]) = [[p.1], [48 + p.2], []] := by simp [f3, TL.spl, TL.pre, h1, h3]
  simp [prP, e, prW]
theorem prAll_f3 : ∀ {r : Rm}, (∀ p ∈ r, p.1 ≠ 32 ∧ p.2 < 6) → prAll (r.map f3) = some (r.map fun p => ([p.1], p.2))
  | [], _ => rfl
  | p :: r, h => by
    obtain ⟨h1, h2⟩ := h p List.mem_cons_self
    rw [List.map_cons, prAll, prP_f3 h1 h2, prAll_f3 fun q hq => h q (List.mem_cons_of_mem _ hq)]
    rfl
theorem prAll_app : ∀ {a : List (List Nat)} {b : List Nat}, prP b = none → prAll (a ++ [b]) = none
  | [], b, h => by rw [List.nil_append, prAll, h]
  | c :: a, b, h => by
    rw [List.cons_append, prAll, prAll_app h]
    cases prP c <;> rfl
theorem last_f3 {r : Rm} (h : r ≠ []) : (r.dropLast.map f3) ++ [f3 (r.getLastD (0, 0))] = r.map f3 := by
  have e := List.dropLast_concat_getLast h
  have e2 : r.getLastD (0, 0) = r.getLast h := by rw [List.getLastD_eq_getLast?, List.getLast?_eq_some_getLast h]; rfl
  rw [e2]
  conv => rhs; rw [← e]
  rw [List.map_append]
  rfl
theorem let_ne {c : Nat} (h : c ∈ LET) : c ≠ 32 ∧ c ≠ 10 := by
  have : c = 97 ∨ c = 98 ∨ c = 99 ∨ c = 100 ∨ c = 48 ∨ c = 49 := by simpa using h
  omega
theorem RmOk.ne {n : Nat} {r : Rm} (h : RmOk n r) (hn : n ≤ 6) : ∀ p ∈ r, p.1 ≠ 32 ∧ p.2 < 6 := fun p hp => ⟨(let_ne (h.let_ p hp)).1, by have := h.lt p hp; omega⟩
theorem body_no {r : Rm} {x : List Nat} (h : r ≠ []) : TL.joinL [32, 44, 32] (r.map f3) ++ x ≠ NONE := by
  match r, h with
  | [p], _ => intro e; simp [TL.joinL, f3, NONE] at e
  | p :: q :: r, _ => intro e; simp [TL.joinL, f3, NONE] at e
theorem rdP_body {n : Nat} {r : Rm} (h : RmOk n r) (hn : n ≤ 6) : rdP (bodyTx r) = some (r.map fun p => ([p.1], p.2)) := by
  unfold bodyTx
  by_cases hr : r = []
  · rw [if_pos hr, hr]; rfl
  · rw [if_neg hr]
    have e := spl_pairs (x := []) (.inl rfl) r hr (h.ne hn)
    have b := body_no (x := []) hr
    rw [List.append_nil] at e b
    unfold rdP
    show (if TL.joinL [32, 44, 32] (r.map f3) = NONE then _ else prAll (TL.spl [32, 44, 32] 0 [] (TL.joinL [32, 44, 32] (r.map f3)))) = _
    rw [if_neg b, e, List.append_nil, last_f3 hr, prAll_f3 (h.ne hn)]
theorem rdP_bodyx {n : Nat} {r : Rm} (h : RmOk n r) (hn : n ≤ 6) : rdP (bodyTx r ++ [32]) = none := by
  unfold bodyTx
  by_cases hr : r = []
  · rw [if_pos hr]; decide
  · rw [if_neg hr]
    have e := spl_pairs (x := [32]) (.inr rfl) r hr (h.ne hn)
    have b := body_no (x := [32]) hr
    unfold rdP
    show (if TL.joinL [32, 44, 32] (r.map f3) ++ [32] = NONE then _ else prAll (TL.spl [32, 44, 32] 0 [] (TL.joinL [32, 44, 32] (r.map f3) ++ [32]))) = _
    rw [if_neg b, e, prAll_app]
    have hl : r.getLastD (0, 0) ∈ r := by
      rw [List.getLastD_eq_getLast?, List.getLast?_eq_some_getLast hr]; exact List.getLast_mem hr
    obtain ⟨h1, h2⟩ := h.ne hn _ hl
    exact prP_f3x h1 h2
theorem pre_hd {i : Nat} {w : List Nat} : TL.pre [48 + i, 58, 32] ((48 + i) :: 58 :: 32 :: w) = true := by simp [TL.pre]
theorem encW_P {r : Rm} : (r.map fun p => (([p.1], p.2) : Pw)).map encW = r.map encP := by rw [List.map_map]; rfl
theorem line_ok {n i : Nat} {r : Rm} (h : RmOk n r) (hn : n ≤ 6) (hi : i < 6) : lineP n i (lineTx i r) = some (r.map fun p => ([p.1], p.2)) := by
  unfold lineP
  rw [if_pos ⟨pre_hd, hi⟩]
  have : (lineTx i r).drop 3 = bodyTx r := rfl
  rw [this, rdP_body h hn]
  simp only []
  rw [encW_P, roomB_of h, if_pos rfl]
/-- the seven ways to spoil a line -/
inductive Spl (i : Nat) (r : Rm) : List Nat → Prop
  | a : Spl i r (lineTx i r ++ [32])
  | b : Spl i r ((lineTx i r).drop 1)
  | c : Spl i r [48 + i, 58, 32]
  | d : Spl i r [48 + i, 58, 32, 101, 32, 48]
  | e : Spl i r [48 + i, 58, 32, 97, 32, 57]
  | f : Spl i r [48 + i, 58, 32, 97, 32, 48, 48]
  | g : Spl i r []
theorem line_hd {n i : Nat} {w : List Nat} (h : rdP w = none) : lineP n i ((48 + i) :: 58 :: 32 :: w) = none := by
  unfold lineP
  split
  · rw [show ((48 + i) :: 58 :: 32 :: w).drop 3 = w from rfl, h]
  · rfl
theorem spl_bad {n i : Nat} {r : Rm} {l : List Nat} (h : RmOk n r) (hn : n ≤ 6) (hi : i < 6) (hs : Spl i r l) : lineP n i l = none := by
  cases hs with
  | a => exact line_hd (rdP_bodyx h hn)
  | b =>
    unfold lineP
    rw [if_neg]
    rintro ⟨q, _⟩
    have : TL.pre [48 + i, 58, 32] (58 :: 32 :: bodyTx r) = true := q
    simp [TL.pre] at this
  | c => exact line_hd (w := []) (by decide)
  | d =>
    unfold lineP
    rw [if_pos ⟨pre_hd, hi⟩, show ([48 + i, 58, 32, 101, 32, 48] : List Nat).drop 3 = [101, 32, 48] from rfl, show rdP [101, 32, 48] = some [([101], 0)] by decide]
    simp only []
    rw [if_neg]
    simp [roomB, rmAll, rmP, encW, itD, isSq, isLt]
  | e => exact line_hd (by decide)
  | f => exact line_hd (by decide)
  | g => unfold lineP; rw [if_neg]; simp [TL.pre]
theorem spl_facts {n i : Nat} {r : Rm} {l : List Nat} (h : RmOk n r) (hn : n ≤ 6) (hi : i < 6) (hs : Spl i r l) : l.length ≤ 50 ∧ 10 ∉ l := by
  have hb : 10 ∉ bodyTx r := by
    unfold bodyTx
    split
    · decide
    · have : ∀ r : Rm, (∀ p ∈ r, p.1 ∈ LET) → 10 ∉ TL.joinL [32, 44, 32] (r.map fun p => [p.1, 32, 48 + p.2]) := fun r => by
        induction r with
        | nil => intro _; simp [TL.joinL]
        | cons p r ih =>
          intro hp
          have h1 := (let_ne (hp p List.mem_cons_self)).2
          have ih := ih fun q hq => hp q (List.mem_cons_of_mem _ hq)
          cases r with
          | nil => simp [TL.joinL]; omega
          | cons q r =>
            simp only [List.map_cons, TL.joinL] at ih ⊢
            simp only [List.mem_append, List.mem_cons, not_or] at ih ⊢
            refine ⟨⟨fun z => h1 z.symm, by decide, by omega, by simp⟩, ⟨by decide, by decide, by decide, by simp⟩, ih⟩
      exact this r h.let_
  have hl : (bodyTx r).length ≤ 40 := bodyTx_len h.len
  have hln : 10 ∉ lineTx i r := by
    unfold lineTx
    simp only [List.mem_cons, not_or]
    exact ⟨by omega, by decide, by decide, hb⟩
  have hll : (lineTx i r).length ≤ 43 := by simp [lineTx]; omega
  cases hs with
  | a => exact ⟨by simp; omega, by simp [hln]⟩
  | b => exact ⟨by simp; omega, fun z => hln (List.mem_of_mem_drop z)⟩
  | c => exact ⟨by simp, by simp; omega⟩
  | d => exact ⟨by simp, by simp; omega⟩
  | e => exact ⟨by simp, by simp; omega⟩
  | f => exact ⟨by simp, by simp; omega⟩
  | g => exact ⟨by simp, by simp⟩
theorem lines_no (ok : StOk s) : ∀ l ∈ linesTx 0 s, 10 ∉ l := fun l hl => by
  obtain ⟨i, r, hr, hi, rfl⟩ := linesTx_mem hl
  have h6 := ok.most
  have := (spl_facts (i := i) (ok.room r hr) h6 (by omega) .a).2
  exact fun z => this (List.mem_append_left _ z)
theorem parseL_ok {n : Nat} (hn : n ≤ 6) : ∀ {s : List Rm} {k : Nat}, (∀ r ∈ s, RmOk n r) → k + s.length ≤ 6 → parseL n k (linesTx k s) = .ok (s.map fun r => r.map fun p => ([p.1], p.2))
  | [], _, _, _ => rfl
  | r :: s, k, h, hk => by
    simp only [List.length_cons] at hk
    rw [linesTx, parseL, line_ok (h r List.mem_cons_self) hn (by omega), parseL_ok hn (fun q hq => h q (List.mem_cons_of_mem _ hq)) (by omega)]
    rfl
theorem parseL_bad {n : Nat} (hn : n ≤ 6) {l : List Nat} {rest : List (List Nat)} : ∀ {s : List Rm} {k : Nat}, (∀ r ∈ s, RmOk n r) → k + s.length ≤ 6 → lineP n (k + s.length) l = none → parseL n k (linesTx k s ++ l :: rest) = .error (k + s.length + 1)
  | [], k, _, _, hl => by
    show parseL n k (l :: rest) = _
    rw [parseL, show lineP n k l = none from hl]
    rfl
  | r :: s, k, h, hk, hl => by
    simp only [List.length_cons] at hk hl ⊢
    rw [linesTx, List.cons_append, parseL, line_ok (h r List.mem_cons_self) hn (by omega), parseL_bad hn (fun q hq => h q (List.mem_cons_of_mem _ hq)) (by omega) (by rw [show k + 1 + s.length = k + (s.length + 1) by omega]; exact hl)]
    simp only []
    rw [show k + 1 + s.length + 1 = k + (s.length + 1) + 1 by omega]
theorem lines_ne (ok : StOk s) : linesTx 0 s ≠ [] := fun z => by
  have := linesTx_len s 0
  rw [z] at this
  have := ok.pos
  simp at *
  omega
theorem parse_txt (hb : bdS S.length S = true) (ok : StOk s) : d_Wants_parse [.str (txt s)] S = .ok (WO s) S := by
  have h6 := ok.most
  exact parse_ok hb (lines_ne ok) (lines_no ok) (fun l hl => by have := lines_le ok l hl; omega) (by rw [linesTx_len]; omega) ok (by rw [linesTx_len]; exact parseL_ok h6 ok.room (by omega))
theorem linesTx_take : ∀ {s : List Rm} {k i : Nat}, (linesTx k s).take i = linesTx k (s.take i)
  | [], _, i => by simp [linesTx]
  | r :: s, k, 0 => rfl
  | r :: s, k, i + 1 => by simp only [linesTx, List.take_succ_cons, linesTx_take]
theorem linesTx_get : ∀ {s : List Rm} {k i : Nat} {r : Rm}, s[i]? = some r → (linesTx k s)[i]? = some (lineTx (k + i) r)
  | [], _, i, r, h => by simp at h
  | q :: s, k, 0, r, h => by simp at h; subst h; rfl
  | q :: s, k, i + 1, r, h => by
    rw [List.getElem?_cons_succ] at h
    rw [linesTx, List.getElem?_cons_succ, linesTx_get h, show k + 1 + i = k + (i + 1) by omega]
theorem parse_spl (ok : StOk s) {i : Nat} {r : Rm} {l : List Nat} (hr : s[i]? = some r) (hs : Spl i r l) :
    d_Wants_parse [.str (TL.joinL [10] ((linesTx 0 s).take i ++ [l] ++ (linesTx 0 s).drop (i + 1)))] S = .er ⟨3, [(0, .int ((i + 1 : Nat) : Int))]⟩ S := by
  have h6 := ok.most
  have hi := (List.getElem?_eq_some_iff.mp hr).1
  have hrm := ok.room r (List.mem_of_getElem? hr)
  obtain ⟨f1, f2⟩ := spl_facts hrm h6 (by omega) hs
  have hlen : ((linesTx 0 s).take i ++ [l] ++ (linesTx 0 s).drop (i + 1)).length = s.length := by
    simp [linesTx_len]; omega
  have hmem : ∀ z ∈ (linesTx 0 s).take i ++ [l] ++ (linesTx 0 s).drop (i + 1), z = l ∨ z ∈ linesTx 0 s := fun z hz => by
    rcases List.mem_append.mp hz with hz | hz
    · rcases List.mem_append.mp hz with hz | hz
      · exact .inr (List.mem_of_mem_take hz)
      · exact .inl (List.mem_singleton.mp hz)
    · exact .inr (List.mem_of_mem_drop hz)
  refine parse_er (by simp) (fun z hz => ?_) (fun z hz => ?_) (by rw [hlen]; omega) ?_
  · rcases hmem z hz with rfl | hz
    · exact f2
    · exact lines_no ok z hz
  · rcases hmem z hz with rfl | hz
    · omega
    · have := lines_le ok z hz; omega
  · rw [hlen, linesTx_take, List.append_assoc]
    have hl : (s.take i).length = i := by simp; omega
    have := parseL_bad (n := s.length) h6 (l := l) (rest := (linesTx 0 s).drop (i + 1)) (s := s.take i) (k := 0) (fun q hq => ok.room q (List.mem_of_mem_take hq)) (by omega) (by rw [hl, Nat.zero_add]; exact spl_bad hrm h6 (by omega) hs)
    rw [hl, Nat.zero_add] at this
    exact this
/-! ### the law's own: is a text refused -/
theorem tfault_none {d w : D} (h : d_Wants_parse [d] S = .ok w S) : d__law_text_fault [d] S = .ok .non S := by
  refine fn_run (g := m__law_text_fault) (env := [.sh d, .un]) rfl ?_
  unfold m__law_text_fault
  refine o_nx (r' := [.sh d, .un]) (S' := S) ?_ (o_ret rfl)
  have : sExp (eCall 1 d_Wants_parse (aCons (eVar 0) aNil)) [.sh d, .un] S = .nx [.sh d, .un] S := by
    unfold sExp
    rw [c_call1 (c_v rfl) h]; rfl
  unfold sTryAs
  rw [this]
theorem tfault_er {d x : D} (h : d_Wants_parse [d] S = .er ⟨3, [(0, x)]⟩ S) : d__law_text_fault [d] S = .ok x S := by
  refine fn_run (g := m__law_text_fault) (env := [.sh d, .un]) rfl ?_
  unfold m__law_text_fault
  refine o_rt (S' := S) ?_
  have : sExp (eCall 1 d_Wants_parse (aCons (eVar 0) aNil)) [.sh d, .un] S = .er ⟨3, [(0, x)]⟩ [.sh d, .un] S := by
    unfold sExp
    rw [c_call1 (c_v rfl) h]; rfl
  unfold sTryAs
  rw [this]
  rfl
end
end K75
set_option maxRecDepth 100000
set_option maxHeartbeats 2000000
namespace K75
set_option autoImplicit false
open Dm
section
variable {S : Sto} {s t : List Rm}
/-! ### what is shown -/
open PySem in
theorem reprDs : ∀ xs : List D, (PyData.shownAll (pyDs xs)).map TL.tl = xs.map reprD
  | [] => by simp [pyDs, PyData.shownAll_nil]
  | x :: xs => by
    rw [pyDs, PyData.shownAll_cons, List.map_cons, reprDs xs]
    rfl
open PySem in
theorem pyDs_len : ∀ xs : List D, (pyDs xs).length = xs.length
  | [] => rfl
  | x :: xs => by rw [pyDs, List.length_cons, pyDs_len xs, List.length_cons]
open PySem in
theorem repr_lst (xs : List D) : reprD (.lst xs) = 91 :: (TL.joinL [44, 32] (xs.map reprD) ++ [93]) := by
  show (PyData.shown (.list (pyDs xs))).cps.toList = _
  rw [PyData.shown_list]
  have := TL.tl_append (("[" : Str) ++ Str.join ", " (PyData.shownAll (pyDs xs))) "]"
  refine this.trans ?_
  rw [TL.tl_append, TL.tl_join, reprDs]
  have e1 : TL.tl ("[" : Str) = [91] := by decide +kernel
  have e2 : TL.tl (", " : Str) = [44, 32] := by decide +kernel
  have e3 : TL.tl ("]" : Str) = [93] := by decide +kernel
  rw [e1, e2, e3]
  rfl
open PySem in
theorem repr_tup (xs : List D) : reprD (.tup xs) = 40 :: (TL.joinL [44, 32] (xs.map reprD) ++ (if xs.length = 1 then [44, 41] else [41])) := by
  show (PyData.shown (.tuple (pyDs xs))).cps.toList = _
  rw [PyData.shown_tuple, pyDs_len]
  have := TL.tl_append (("(" : Str) ++ Str.join ", " (PyData.shownAll (pyDs xs))) (if xs.length == 1 then ",)" else ")" : String)
  refine this.trans ?_
  rw [TL.tl_append, TL.tl_join, reprDs]
  have e1 : TL.tl ("(" : Str) = [40] := by decide +kernel
  have e2 : TL.tl (", " : Str) = [44, 32] := by decide +kernel
  have e3 : TL.tl (")" : Str) = [41] := by decide +kernel
  have e4 : TL.tl (",)" : Str) = [44, 41] := by decide +kernel
  rw [e1, e2]
  by_cases h : xs.length = 1
  · have : (xs.length == 1) = true := by simp [h]
    rw [this]
    simp only [if_true, h]
    rw [e4]
    rfl
  · have : (xs.length == 1) = false := by simp [h]
    rw [this]
    simp only [h, if_false]
    rw [show TL.tl (((if false = true then ",)" else ")" : String)) : Str) = [41] from e3]
    rfl
theorem sum_le {l : List (List Nat)} {n : Nat} (h : ∀ x ∈ l, x.length ≤ n) : (l.map fun x => x.length + 2).sum ≤ l.length * (n + 2) := by
  induction l with
  | nil => simp
  | cons a l ih =>
    have h1 := h a List.mem_cons_self
    have := ih fun x hx => h x (List.mem_cons_of_mem _ hx)
    simp only [List.map_cons, List.sum_cons, List.length_cons, Nat.add_mul, Nat.one_mul]
    omega
theorem joinL_eq : ∀ {l : List (List Nat)}, l ≠ [] → (TL.joinL [44, 32] l).length + 2 = (l.map fun x => x.length + 2).sum
  | [], h => absurd rfl h
  | [a], _ => by simp [TL.joinL]
  | a :: b :: l, _ => by
    have ih := joinL_eq (l := b :: l) (by simp)
    simp only [TL.joinL, List.length_append, List.length_cons, List.map_cons, List.sum_cons, List.length_nil] at ih ⊢
    omega
theorem repr_encP : ∀ c ∈ LET, ∀ n, n < 6 → (reprD (encP (c, n))).length = 8 := by decide +kernel
theorem repr_P {p : Nat × Nat} (h : p.1 ∈ LET) (h2 : p.2 < 6) : (reprD (encP p)).length = 8 := repr_encP p.1 h p.2 h2
def rlen (k : Nat) : Nat := if k = 0 then 2 else 10 * k
theorem sum_P {r : Rm} (h : ∀ p ∈ r, p.1 ∈ LET ∧ p.2 < 6) : (((r.map encP).map reprD).map fun x => x.length + 2).sum = 10 * r.length := by
  induction r with
  | nil => rfl
  | cons p r ih =>
    have h1 := h p List.mem_cons_self
    have := ih fun q hq => h q (List.mem_cons_of_mem _ hq)
    simp only [List.map_cons, List.sum_cons, List.length_cons, repr_P h1.1 h1.2]
    omega
theorem repr_rL {r : Rm} (h : ∀ p ∈ r, p.1 ∈ LET ∧ p.2 < 6) : (reprD (rL r)).length = rlen r.length := by
  unfold rL
  rw [repr_lst]
  cases r with
  | nil => rfl
  | cons p r =>
    have := joinL_eq (l := ((p :: r).map encP).map reprD) (by simp)
    rw [sum_P h] at this
    simp only [List.length_cons, List.length_append, List.length_nil, rlen] at this ⊢
    simp only [List.map_cons, List.length_cons] at this ⊢
    rw [if_neg (by omega)]
    omega
def RmS (r : Rm) : Prop := ∀ p ∈ r, p.1 ∈ LET ∧ p.2 < 6
theorem sum_L {s : List Rm} (h : ∀ r ∈ s, RmS r) : (((s.map rL).map reprD).map fun x => x.length + 2).sum = (s.map fun r => rlen r.length + 2).sum := by
  induction s with
  | nil => rfl
  | cons r s ih =>
    have := ih fun q hq => h q (List.mem_cons_of_mem _ hq)
    simp only [List.map_cons, List.sum_cons, repr_rL (h r List.mem_cons_self), this]
theorem repr_sL {s : List Rm} (h : ∀ r ∈ s, RmS r) (hne : s ≠ []) : (reprD (sL s)).length = (s.map fun r => rlen r.length + 2).sum := by
  unfold sL
  rw [repr_lst]
  have := joinL_eq (l := (s.map rL).map reprD) (by simpa using hne)
  rw [sum_L h] at this
  simp only [List.length_cons, List.length_append, List.length_nil]
  omega
/-! ### repr as a function of trees -/
theorem repr_ok {d : D} (h1 : wfD 60 d = true) (h2 : shD d = true) (h3 : (reprD d).length ≤ 1000000) (hr : res S d = d) : fRepr [d] S = .ok (.str (reprD d)) S := by
  have : (reprD d).length ≤ LIM := by unfold LIM; omega
  unfold fRepr
  simp only []
  rw [hr, h1, h2]
  simp only [Bool.true_and]
  rw [if_pos (decide_eq_true this)]
theorem sh_encP {p : Nat × Nat} (h : p.2 < 1000) : shD (encP p) = true := by
  have l : ((p.2 : Int)).natAbs.log2 < 1920 := Nat.lt_trans (log2_lt (by omega)) (by decide)
  simp only [encP, shD, shDs, Bool.and_true, Bool.true_and]
  exact decide_eq_true l
theorem sh_rm : ∀ {r : Rm}, (∀ p ∈ r, p.2 < 1000) → shDs (r.map encP) = true
  | [], _ => by simp [shDs]
  | p :: r, h => by
    rw [List.map_cons, shDs, sh_encP (h p List.mem_cons_self), sh_rm fun q hq => h q (List.mem_cons_of_mem _ hq)]; rfl
theorem sh_rL : ∀ {s : List Rm}, (∀ r ∈ s, ∀ p ∈ r, p.2 < 1000) → shDs (s.map rL) = true
  | [], _ => by simp [shDs]
  | r :: s, h => by
    rw [List.map_cons, shDs, sh_rL fun q hq => h q (List.mem_cons_of_mem _ hq), rL, shD, sh_rm (h r List.mem_cons_self)]; rfl
theorem sh_rT : ∀ {s : List Rm}, (∀ r ∈ s, ∀ p ∈ r, p.2 < 1000) → shDs (s.map rT) = true
  | [], _ => by simp [shDs]
  | r :: s, h => by
    rw [List.map_cons, shDs, sh_rT fun q hq => h q (List.mem_cons_of_mem _ hq), rT, shD, sh_rm (h r List.mem_cons_self)]; rfl
theorem RmS.len10 {r : Rm} (h : r.length ≤ 6) : rlen r.length ≤ 60 := by unfold rlen; split <;> omega
theorem repr_sL_ok (h : ∀ r ∈ s, RmS r) (hl : ∀ r ∈ s, r.length ≤ 6) (hne : s ≠ []) (h6 : s.length ≤ 6) : fRepr [sL s] S = .ok (.str (reprD (sL s))) S := by
  refine repr_ok ?_ ?_ ?_ rfl
  · exact wf_rL (n := 57) fun r hr p hp => let_lt (h r hr p hp).1
  · exact sh_rL fun r hr p hp => by have := (h r hr p hp).2; omega
  · rw [repr_sL h hne]
    have : (s.map fun r => rlen r.length + 2).sum ≤ s.length * 62 := by
      clear h hne h6
      induction s with
      | nil => simp
      | cons r s ih =>
        have h1 := RmS.len10 (hl r List.mem_cons_self)
        have := ih fun q hq => hl q (List.mem_cons_of_mem _ hq)
        simp only [List.map_cons, List.sum_cons, List.length_cons, Nat.add_mul, Nat.one_mul]
        omega
    omega
theorem joinL_le {sep : List Nat} {l : List (List Nat)} {n : Nat} (h : ∀ x ∈ l, x.length ≤ n) (hl : l.length ≤ 10) (hs : sep.length = 2) : (TL.joinL sep l).length ≤ 10 * (n + 2) := by
  refine Nat.le_trans (joinL_len h) ?_
  rw [hs]
  exact Nat.mul_le_mul_right _ hl
theorem repr_sT_ok (h : ∀ r ∈ s, RmS r) (hl : ∀ r ∈ s, r.length ≤ 6) (h6 : s.length ≤ 6) : fRepr [.tup (s.map rT)] S = .ok (.str (reprD (.tup (s.map rT)))) S := by
  refine repr_ok ?_ ?_ ?_ rfl
  · exact wf_rT (n := 57) fun r hr p hp => let_lt (h r hr p hp).1
  · exact sh_rT fun r hr p hp => by have := (h r hr p hp).2; omega
  · have h1 : ∀ r ∈ s, (reprD (rT r)).length ≤ 200 := fun r hr => by
      unfold rT
      rw [repr_tup]
      have := joinL_le (sep := [44, 32]) (l := (r.map encP).map reprD) (n := 8) (fun x hx => by
        rw [List.map_map] at hx
        obtain ⟨p, hp, rfl⟩ := List.mem_map.mp hx
        have := h r hr p hp
        exact Nat.le_of_eq (repr_P this.1 this.2)) (by have := hl r hr; simp; omega) rfl
      simp only [List.length_cons, List.length_append]
      split <;> simp only [List.length_cons, List.length_nil] <;> omega
    rw [repr_tup]
    have := joinL_le (sep := [44, 32]) (l := (s.map rT).map reprD) (n := 200) (fun x hx => by
        rw [List.map_map] at hx
        obtain ⟨p, hp, rfl⟩ := List.mem_map.mp hx
        exact h1 p hp) (by simp; omega) rfl
    simp only [List.length_cons, List.length_append]
    split <;> simp only [List.length_cons, List.length_nil] <;> omega
open PySem in
theorem repr_int_ok {i : Int} (h : i.natAbs.log2 < 1900) : fRepr [.int i] S = .ok (.str (reprD (.int i))) S := by
  refine repr_ok (by simp [wfD]) (by simp [shD]; omega) ?_ rfl
  have h1 := int_text_length_le (a := i) (k := 1900) (by decide) h
  have e : reprD (.int i) = (toString i).toList.map Char.toNat := by
    show (PyData.shown (.int i)).cps.toList = _
    rw [PyData.shown_int]
    exact TL.tl_ofString _
  rw [e, List.length_map, String.length_toList]
  omega
theorem repr_non_ok : fRepr [.non] S = .ok (.str (reprD .non)) S := repr_ok (by decide) (by decide) (by decide +kernel) rfl
theorem repr_bl_ok {b : Bool} : fRepr [.bl b] S = .ok (.str (reprD (.bl b))) S := by
  cases b
  · exact repr_ok (by decide) (by decide) (by decide +kernel) rfl
  · exact repr_ok (by decide) (by decide) (by decide +kernel) rfl
theorem repr_s2 : fRepr [.str [50]] S = .ok (.str (reprD (.str [50]))) S := repr_ok (by decide) (by decide) (by decide +kernel) rfl
theorem repr_s0 : fRepr [.str [48]] S = .ok (.str (reprD (.str [48]))) S := repr_ok (by decide) (by decide) (by decide +kernel) rfl
end
end K75
set_option maxRecDepth 100000
set_option maxHeartbeats 2000000
namespace K75
set_option autoImplicit false
open Dm
section
variable {S S1 S2 : Sto} {s t : List Rm}
theorem wfault_none {d w : D} (h : mkD 0 d_Wants___init__ [d] S = .ok w S) : d__law_wants_fault [d] S = .ok .non S := by
  refine fn_run (g := m__law_wants_fault) (env := [.sh d, .un]) rfl ?_
  unfold m__law_wants_fault
  refine o_nx (r' := [.sh d, .un]) (S' := S) ?_ (o_ret rfl)
  have : sExp (eMake 2 (mkD 0 d_Wants___init__) (aCons (eVar 0) aNil)) [.sh d, .un] S = .nx [.sh d, .un] S := by
    unfold sExp
    rw [c_make1 (c_v rfl) h]; rfl
  unfold sTryAs
  rw [this]
theorem wfault_er {d x : D} (h : mkD 0 d_Wants___init__ [d] S = .er ⟨4, [(0, x)]⟩ S) : d__law_wants_fault [d] S = .ok x S := by
  refine fn_run (g := m__law_wants_fault) (env := [.sh d, .un]) rfl ?_
  unfold m__law_wants_fault
  refine o_rt (S' := S) ?_
  have : sExp (eMake 2 (mkD 0 d_Wants___init__) (aCons (eVar 0) aNil)) [.sh d, .un] S = .er ⟨4, [(0, x)]⟩ [.sh d, .un] S := by
    unfold sExp
    rw [c_make1 (c_v rfl) h]; rfl
  unfold sTryAs
  rw [this]
  rfl
theorem rfault {v : D} (h : d_Wants_room_of [WO s, v] S = .er ⟨2, [(0, .int 0)]⟩ S) : d__law_row_fault [WO s, v] S = .ok (.bl true) S := by
  refine fn_run (g := m__law_row_fault) (env := [.sh (WO s), .sh v, .un]) rfl ?_
  unfold m__law_row_fault
  refine o_rt (S' := S) ?_
  have : sExp (eMeth 0 7 2 d_Wants_room_of (eVar 0) (aCons (eVar 1) aNil)) [.sh (WO s), .sh v, .un] S = .er ⟨2, [(0, .int 0)]⟩ [.sh (WO s), .sh v, .un] S := by
    unfold sExp
    rw [c_meth1 (c_v rfl) obj7 (c_v rfl) h]; rfl
  unfold sTryAs
  rw [this]
  rfl
theorem lfault {v : D} {w : List Nat} (h : d_Wants_row_count [WO s, v] S = .er ⟨5, [(0, v)]⟩ S) (hr : fRepr [v] S = .ok (.str w) S) : d__law_length_fault [WO s, v] S = .ok (.bl true) S := by
  refine fn_run (g := m__law_length_fault) (env := [.sh (WO s), .sh v, .un]) rfl ?_
  unfold m__law_length_fault
  refine o_rt (S' := S) ?_
  have : sExp (eMeth 0 9 2 d_Wants_row_count (eVar 0) (aCons (eVar 1) aNil)) [.sh (WO s), .sh v, .un] S = .er ⟨5, [(0, v)]⟩ [.sh (WO s), .sh v, .un] S := by
    unfold sExp
    rw [c_meth1 (c_v rfl) obj9 (c_v rfl) h]; rfl
  unfold sTryAs
  rw [this]
  have e : sRet (eBin gEq (eArgs fRepr (aCons (eExF 2 5 0) aNil)) (eArgs fRepr (aCons (eVar 1) aNil))) [.sh (WO s), .sh v, .ex ⟨5, [(0, v)]⟩] S = .rt (.bl true) S :=
    ret_e (c_bin (c_args1 (x := v) rfl hr) (c_args1 (c_v rfl) hr) (by rw [eq_str]; simp))
  show (match sRet (eBin gEq (eArgs fRepr (aCons (eExF 2 5 0) aNil)) (eArgs fRepr (aCons (eVar 1) aNil))) [.sh (WO s), .sh v, .ex ⟨5, [(0, v)]⟩] S with
      | .nx r2 S2 => SO.nx (clr 2 r2) S2
      | .bk r2 S2 => .bk (clr 2 r2) S2
      | .ct r2 S2 => .ct (clr 2 r2) S2
      | .rt d S2 => .rt d S2
      | _ => .no) = _
  rw [e]
theorem ne_str {x y : List Nat} : gNe (.str x) (.str y) S = .ok (.bl (!(x == y))) S := rfl
theorem mfault {v : D} {w : List Nat} (hp : pl v = true) (hv : below s.length v = false) (hr : fRepr [v] S = .ok (.str w) S) : d__law_room_fault [WO s, v] S = .ok (.bl true) S := by
  have h1 := after_er (S := S) (s := s) (d := .str [97]) hp hv
  have h2 := letters_er (S := S) (s := s) hp hv
  refine fn_run (g := m__law_room_fault) (env := [.sh (WO s), .sh v, .un]) rfl ?_
  unfold m__law_room_fault
  have hx : sExp (eMeth 0 6 3 d_Wants_after (eVar 0) (aCons (eVar 1) (aCons (eC (.str [97])) aNil))) [.sh (WO s), .sh v, .un] S = .er ⟨6, [(5, v)]⟩ [.sh (WO s), .sh v, .un] S := by
    unfold sExp
    rw [c_meth2 (c_v rfl) obj6 (c_v rfl) rfl h1]; rfl
  have hc : cOr (cBl (eBin gNe (eArgs fRepr (aCons (eExF 2 6 5) aNil)) (eArgs fRepr (aCons (eVar 1) aNil)))) (cTru (eExIs 2 [(6, false)])) [.sh (WO s), .sh v, .ex ⟨6, [(5, v)]⟩] S = .ok false S := by
    refine c_or_f (c_bl (t := false) (S1 := S) (c_bin (c_args1 (x := v) rfl hr) (c_args1 (c_v rfl) hr) (by rw [ne_str]; simp))) ?_
    rfl
  refine o_nx (r' := [.sh (WO s), .sh v, .un]) (S' := S) ?_ ?_
  · unfold sTryAs
    rw [seq_er hx]
    have e := x_pass (a := sRet (eC (.bl false))) hc
    show (match (sIf _ (sRet (eC (.bl false))) sPass) [.sh (WO s), .sh v, .ex ⟨6, [(5, v)]⟩] S with
      | .nx r2 S2 => SO.nx (clr 2 r2) S2
      | .bk r2 S2 => .bk (clr 2 r2) S2
      | .ct r2 S2 => .ct (clr 2 r2) S2
      | .rt d S2 => .rt d S2
      | _ => .no) = _
    rw [e]
    rfl
  · refine o_rt (S' := S) ?_
    have hy : sExp (eMeth 0 8 2 d_Wants_letters_at (eVar 0) (aCons (eVar 1) aNil)) [.sh (WO s), .sh v, .un] S = .er ⟨6, [(5, v)]⟩ [.sh (WO s), .sh v, .un] S := by
      unfold sExp
      rw [c_meth1 (c_v rfl) obj8 (c_v rfl) h2]; rfl
    unfold sTry
    rw [hy]
    rfl
/-! ### rooms spoilt -/
theorem gAdd_lst {xs ys : List D} (h : xs.length + ys.length ≤ 1000000) : gAdd (.lst xs) (.lst ys) S = .ok (.lst (xs ++ ys)) S := by
  have h2 : xs.length + ys.length ≤ LIM := by unfold LIM; omega
  have e : gCat (.lst xs) (.lst ys) S = .ok (xs ++ ys) S := by
    unfold gCat
    simp only [seqM, lstM]
    rw [if_pos h2]
  exact bnd_k (m := gCat (.lst xs) (.lst ys)) e rfl
theorem cut_take {α : Type} {xs : List α} {i : Nat} (h : i ≤ xs.length) : cutD xs none (some (i : Int)) = xs.take i := by
  have e : bdI xs.length xs.length (some (i : Int)) = i := by
    simp only [bdI]
    rw [if_neg (by omega)]
    simp; omega
  unfold cutD
  rw [e]
  simp [bdI]
theorem cut_drop {α : Type} {xs : List α} {i : Nat} (h : i ≤ xs.length) : cutD xs (some (i : Int)) none = xs.drop i := by
  have e : bdI xs.length 0 (some (i : Int)) = i := by
    simp only [bdI]
    rw [if_neg (by omega)]
    simp; omega
  unfold cutD
  rw [e]
  exact List.take_of_length_le (by simp [bdI])
theorem cut_lst {xs : List D} {lo hi : Option Int} : gCut lo hi (.lst xs) S = .ok (.lst (cutD xs lo hi)) S := rfl
theorem spl_ok {env : Ev} {a b : Nat} {xs : List D} {i : Nat} {E : EX} {d : D} (h1 : env[a]? = some (.sh (.lst xs))) (h2 : env[b]? = some (.sh (.int (i : Nat)))) (hi : i < xs.length) (hl : xs.length ≤ 1000) (hE : E env S = .ok d S1) :
    eBin gAdd (eBin gAdd (eSl oNone (oSome (eVar b)) (eVar a)) (eFz (lLst (aCons E aNil)))) (eSl (oSome (eBin gAdd (eVar b) (eC (.int 1)))) oNone (eVar a)) env S = .ok (.lst (xs.take i ++ [d] ++ xs.drop (i + 1))) S1 := by
  have e1 : eSl oNone (oSome (eVar b)) (eVar a) env S = .ok (.lst (xs.take i)) S := c_sl (c_v h1) c_none (c_some (c_v h2)) (by rw [cut_lst, cut_take (by omega)])
  have e2 : eFz (lLst (aCons E aNil)) env S = .ok (.lst [d]) S1 := c_fz (bnd_k (bnd_k hE rfl) (by simp [need, show (1 : Nat) ≤ LIM by decide]))
  have e3 : eSl (oSome (eBin gAdd (eVar b) (eC (.int 1)))) oNone (eVar a) env S1 = .ok (.lst (xs.drop (i + 1))) S1 := c_sl (c_v h1) (c_some (c_bin (c_v h2) rfl rfl)) c_none (by
    rw [cut_lst]
    have := cut_drop (xs := xs) (i := i + 1) (by omega)
    have e : (((i + 1 : Nat)) : Int) = (i : Int) + 1 := by omega
    rw [e] at this
    rw [this])
  exact c_bin (c_bin e1 e2 (gAdd_lst (by simp; omega))) e3 (gAdd_lst (by simp; omega))
def BadR (n : Nat) (d : D) : Prop := ∀ S, d_is_room [d, .int (n : Nat)] S = .ok (.bl false) S
theorem bad_lst {n : Nat} {ds : List D} (h : roomB n ds = false) (hg : ds.all gd = true) (hl : ds.length < 1000) : BadR n (.lst ds) := fun S => by
  have := room_sq (S := S) (n := n) (sqA_lst (xs := ds)) hg hl
  rw [h] at this
  exact this
theorem bad_no {n : Nat} {d : D} (hp : pl d = true) (hs : isSq d = false) : BadR n d := fun S => room_no hp hs
theorem rmAll_app {n : Nat} : ∀ {a : List D} {b : D}, rmP n b = none → rmAll n (a ++ [b]) = none
  | [], b, h => by rw [List.nil_append, rmAll, h]
  | c :: a, b, h => by
    rw [List.cons_append, rmAll, rmAll_app h]
    cases rmP n c <;> rfl
/-- the kinds of a spoilt room -/
inductive Bnt (n : Nat) (r : Rm) : D → Prop
  | a : Bnt n r (.lst (r.map encP ++ [.tup [.str [49], .int (n : Nat)]]))
  | b : Bnt n r (.lst [.tup [.str [49], .int 0], .tup [.str [48], .int 0]])
  | c : Bnt n r (.lst [.tup [.str [100], .int 0], .tup [.str [100], .int ((n : Int) - 1)]])
  | d : Bnt n r (.lst [.tup [.str [48], .int 0], .tup [.str [97], .int 0]])
  | e {x : D} : x ∈ [D.non, .str [97, 48], .int 0, .lst [.tup [.str [97]]], .lst [.tup [.str [97, 98], .int 0]], .lst [.tup [.str [101], .int 0]], .lst [.tup [.int 0, .int 0]], .lst [.tup [.str [97], .bl true]]] → Bnt n r x
  | f : Bnt n r (.lst [.tup [.str [97], .int (-1)]])
  | g : Bnt n r (.lst [.tup [.str [97], .str [48]]])
theorem below_self {n : Nat} : below n (.int (n : Nat)) = false := by simp [below]
theorem bnt_bad {n : Nat} {r : Rm} {d : D} (hn : 0 < n) (hr : RmOk n r) (h : Bnt n r d) : BadR n d := by
  have h0 : below n (.int 0) = true := by simp [below]; omega
  have gdp : ∀ (c : Nat) (x : D), pl x = true → strOk x = true → gd (.tup [.str [c], x]) = true := fun c x h1 h2 => by
    have e : gd (.tup [.str [c], x]) = (pl x && strOk x) := by simp [gd, itD, strOk, LIM, show pl (D.str [c]) = true from rfl, show pl (D.tup [.str [c], x]) = true from rfl]
    rw [e, h1, h2]; rfl
  have hl1 : ∀ c, c ∈ LET → isLt (.str [c]) = true := fun c h => decide_eq_true h
  cases h with
  | a =>
    refine bad_lst ?_ ?_ ?_
    · unfold roomB
      rw [rmAll_app]
      simp [rmP, itD, isSq, isLt, below_self]
    · rw [List.all_append, gd_all, List.all_cons, gdp 49 (.int (n : Nat)) rfl rfl]; rfl
    · have := hr.len; simp; omega
  | b =>
    refine bad_lst ?_ (by rw [List.all_cons, List.all_cons, gdp _ _ rfl rfl, gdp _ _ rfl rfl]; rfl) (by simp)
    have e1 : rmP n (.tup [.str [49], .int 0]) = some 5 := by
      have : ixL (.str [49]) = 5 := by decide
      simp only [rmP, itD, isSq, hl1 49 (by decide), h0, Bool.and_self, if_true, this]
    have e2 : rmP n (.tup [.str [48], .int 0]) = some 4 := by
      have : ixL (.str [48]) = 4 := by decide
      simp only [rmP, itD, isSq, hl1 48 (by decide), h0, Bool.and_self, if_true, this]
    simp only [roomB, rmAll, e1, e2]
    decide
  | c =>
    refine bad_lst ?_ (by rw [List.all_cons, List.all_cons, gdp _ _ rfl rfl, gdp _ _ rfl rfl]; rfl) (by simp)
    have h1 : below n (.int ((n : Int) - 1)) = true := by simp [below]; omega
    have e1 : rmP n (.tup [.str [100], .int 0]) = some 3 := by
      have : ixL (.str [100]) = 3 := by decide
      simp only [rmP, itD, isSq, hl1 100 (by decide), h0, Bool.and_self, if_true, this]
    have e2 : rmP n (.tup [.str [100], .int ((n : Int) - 1)]) = some 3 := by
      have : ixL (.str [100]) = 3 := by decide
      simp only [rmP, itD, isSq, hl1 100 (by decide), h1, Bool.and_self, if_true, this]
    simp only [roomB, rmAll, e1, e2]
    decide
  | d =>
    refine bad_lst ?_ (by rw [List.all_cons, List.all_cons, gdp _ _ rfl rfl, gdp _ _ rfl rfl]; rfl) (by simp)
    have e1 : rmP n (.tup [.str [48], .int 0]) = some 4 := by
      have : ixL (.str [48]) = 4 := by decide
      simp only [rmP, itD, isSq, hl1 48 (by decide), h0, Bool.and_self, if_true, this]
    have e2 : rmP n (.tup [.str [97], .int 0]) = some 0 := by
      have : ixL (.str [97]) = 0 := by decide
      simp only [rmP, itD, isSq, hl1 97 (by decide), h0, Bool.and_self, if_true, this]
    simp only [roomB, rmAll, e1, e2]
    decide
  | e hx =>
    simp only [List.mem_cons, List.not_mem_nil, or_false] at hx
    rcases hx with rfl | rfl | rfl | rfl | rfl | rfl | rfl | rfl
    · exact bad_no rfl rfl
    · exact bad_no rfl rfl
    · exact bad_no rfl rfl
    · exact bad_lst (by simp [roomB, rmAll, rmP, itD]) (by simp [gd, pl, itD, strOk, LIM]) (by simp)
    · exact bad_lst (by simp [roomB, rmAll, rmP, itD, isLt]) (by simp [gd, pl, itD, strOk, LIM]) (by simp)
    · exact bad_lst (by simp [roomB, rmAll, rmP, itD, isLt]) (by simp [gd, pl, itD, strOk, LIM]) (by simp)
    · exact bad_lst (by simp [roomB, rmAll, rmP, itD, isLt]) (by simp [gd, pl, itD, strOk, LIM]) (by simp)
    · exact bad_lst (by simp [roomB, rmAll, rmP, itD, below]) (by simp [gd, pl, itD, strOk, LIM]) (by simp)
  | f => exact bad_lst (by simp [roomB, rmAll, rmP, itD, below]) (by simp [gd, pl, itD, strOk, LIM]) (by simp)
  | g => exact bad_lst (by simp [roomB, rmAll, rmP, itD, below]) (by simp [gd, pl, itD, strOk, LIM]) (by simp)
/-- a spoilt room's number -/
theorem wfault_bent (hb : bdS S.length S = true) (ok : StOk s) {i : Nat} {d : D} (hi : i < s.length) (bad : BadR s.length d) :
    d__law_wants_fault [.lst ((s.map rL).take i ++ [d] ++ (s.map rL).drop (i + 1))] S = .ok (.int (i : Nat)) S := by
  have h6 := ok.most
  have hlen : ((s.map rL).take i ++ [d] ++ (s.map rL).drop (i + 1)).length = s.length := by simp; omega
  have good : ∀ e ∈ s.map rL, ∀ S', d_is_room [e, .int (s.length : Nat)] S' = .ok (.bl true) S' := fun e he S' => by
    obtain ⟨r, hr, rfl⟩ := List.mem_map.mp he
    have := room_sq (S := S') (n := s.length) (sqA_lst (xs := r.map encP)) (gd_all r) (by have := (ok.room r hr).len; simp; omega)
    rw [roomB_of (ok.room r hr)] at this
    exact this
  refine wfault_er (mk_er hb (by simp [bdf, D.bd]) ?_)
  have fb : ∀ (k : Nat) (l : List Bool), fstBad (List.replicate k true ++ false :: l) = some k := fun k l => by
    induction k with
    | zero => rfl
    | succ k ih => simp [List.replicate_succ, fstBad, ih]
  refine init_bad (bs := List.replicate i true ++ false :: List.replicate (s.length - i - 1) true) .lst (by rw [hlen]; exact ok.pos) (by rw [hlen]; exact h6) (by rw [hlen]; simp; omega) (fun j e b q1 q2 => ?_) (fb i _)
  rw [hlen]
  rw [List.append_assoc] at q1
  have l1 : ((s.map rL).take i).length = i := by simp; omega
  rcases Nat.lt_trichotomy j i with h | h | h
  · rw [List.getElem?_append_left (by omega)] at q1
    rw [List.getElem?_append_left (by simp; omega)] at q2
    have : b = true := (List.mem_replicate.mp (List.mem_of_getElem? q2)).2
    rw [this]
    exact good e (List.mem_of_mem_take (List.mem_of_getElem? q1)) _
  · subst h
    rw [List.getElem?_append_right (by omega), l1, Nat.sub_self] at q1
    rw [List.getElem?_append_right (by simp)] at q2
    simp at q1 q2
    subst q1 q2
    exact bad _
  · rw [List.getElem?_append_right (by omega), l1] at q1
    rw [List.getElem?_append_right (by simp; omega)] at q2
    simp only [List.length_replicate] at q2
    obtain ⟨m, hm⟩ : ∃ m, j - i = m + 1 := ⟨j - i - 1, by omega⟩
    rw [hm] at q1 q2
    simp only [List.singleton_append, List.getElem?_cons_succ] at q1 q2
    have : b = true := (List.mem_replicate.mp (List.mem_of_getElem? q2)).2
    rw [this]
    exact good e (List.mem_of_mem_drop (List.mem_of_getElem? q1)) _
end
end K75
set_option maxRecDepth 100000
set_option maxHeartbeats 2000000
namespace K75
set_option autoImplicit false
open Dm
section
variable {S S1 S2 : Sto} {s t : List Rm}
theorem eq_int {a b : Int} : gEq (.int a) (.int b) S = .ok (.bl (a == b)) S := rfl
theorem lit {env : Ev} {a : Nat} {d : D} {E : EX} (h : E env S = .ok d S1) : eFz (lLst (aCons E aNil)) env S = .ok (.lst [d]) S1 := c_fz (bnd_k (bnd_k h rfl) (by simp [need, show (1 : Nat) ≤ LIM by decide]))
theorem lit1 {env : Ev} {d : D} {E : EX} (h : E env S = .ok d S1) : eFz (lLst (aCons E aNil)) env S = .ok (.lst [d]) S1 := c_fz (bnd_k (bnd_k h rfl) (by simp [need, show (1 : Nat) ≤ LIM by decide]))
theorem lit2 {env : Ev} {d e : D} {E F : EX} (h : E env S = .ok d S1) (h2 : F env S1 = .ok e S2) : eFz (lLst (aCons E (aCons F aNil))) env S = .ok (.lst [d, e]) S2 := c_fz (bnd_k (bnd_k h (bnd_k (bnd_k h2 rfl) rfl)) (by simp [need, show (2 : Nat) ≤ LIM by decide]))
theorem tu2 {env : Ev} {d e : D} {E F : EX} (h : E env S = .ok d S1) (h2 : F env S1 = .ok e S2) : eTup (aCons E (aCons F aNil)) env S = .ok (.tup [d, e]) S2 := bnd_k (bnd_k h (bnd_k (bnd_k h2 rfl) rfl)) (by simp [need, show (2 : Nat) ≤ LIM by decide])
theorem bent_ok {n i : Nat} (b : Bx n S) (ok : StOk s) {r : Rm} (hr : s[i]? = some r) : ∃ d S', d__law_bent [.ref n, sL s, .int (i : Nat)] S = .ok (.lst ((s.map rL).take i ++ [d] ++ (s.map rL).drop (i + 1))) S' ∧ Bnt s.length r d ∧ Bx n S' ∧ Kp n S S' := by
  have hi := (List.getElem?_eq_some_iff.mp hr).1
  have h6 := ok.most
  obtain ⟨k, S1, e1, k0, k1, b1, kp1⟩ := take_ok b (m := 7) (by omega) (by omega)
  have hd : ∀ o : Out D, outS ((match m__law_bent with | m => m) [.sh (.ref n), .sh (sL s), .sh (.int (i : Nat)), .un, .un, .un] S) = o → d__law_bent [.ref n, sL s, .int (i : Nat)] S = o := fun o h => fn_run rfl h
  have st1 : sAsg (eArgs fLen (aCons (eVar 1) aNil)) (tNm 3) [.sh (.ref n), .sh (sL s), .sh (.int (i : Nat)), .un, .un, .un] S = .nx [.sh (.ref n), .sh (sL s), .sh (.int (i : Nat)), .sh (.int (s.length : Nat)), .un, .un] S :=
    x_asg (c_args1 (x := sL s) (c_v rfl) (by unfold sL; rw [len_lst, List.length_map])) rfl
  have st2 : sAsg (eBin gIx (eVar 1) (eVar 2)) (tNm 4) [.sh (.ref n), .sh (sL s), .sh (.int (i : Nat)), .sh (.int (s.length : Nat)), .un, .un] S = .nx [.sh (.ref n), .sh (sL s), .sh (.int (i : Nat)), .sh (.int (s.length : Nat)), .sh (rL r), .un] S :=
    x_asg (c_bin (x := sL s) (c_v rfl) (c_v rfl) (ix_lst (by rw [List.getElem?_map, hr]; rfl))) rfl
  have st3 : sAsg (eCall 2 d__law_take (aCons (eVar 0) (aCons (eC (.int 7)) aNil))) (tNm 5) [.sh (.ref n), .sh (sL s), .sh (.int (i : Nat)), .sh (.int (s.length : Nat)), .sh (rL r), .un] S = .nx [.sh (.ref n), .sh (sL s), .sh (.int (i : Nat)), .sh (.int (s.length : Nat)), .sh (rL r), .sh (.int k)] S1 :=
    x_asg (c_call2 (c_v rfl) rfl e1) rfl
  have fin : ∀ {E : EX} {d : D} {S2 : Sto}, E [.sh (.ref n), .sh (sL s), .sh (.int (i : Nat)), .sh (.int (s.length : Nat)), .sh (rL r), .sh (.int k)] S1 = .ok d S2 →
      eBin gAdd (eBin gAdd (eSl oNone (oSome (eVar 2)) (eVar 1)) (eFz (lLst (aCons E aNil)))) (eSl (oSome (eBin gAdd (eVar 2) (eC (.int 1)))) oNone (eVar 1)) [.sh (.ref n), .sh (sL s), .sh (.int (i : Nat)), .sh (.int (s.length : Nat)), .sh (rL r), .sh (.int k)] S1 = .ok (.lst ((s.map rL).take i ++ [d] ++ (s.map rL).drop (i + 1))) S2 := fun h =>
    spl_ok (a := 1) (b := 2) rfl rfl (by simpa using hi) (by simp; omega) h
  have cond : ∀ j : Int, cBl (eBin gEq (eVar 5) (eC (.int j))) [.sh (.ref n), .sh (sL s), .sh (.int (i : Nat)), .sh (.int (s.length : Nat)), .sh (rL r), .sh (.int k)] S1 = .ok (k == j) S1 := fun j => c_bl (c_bin (c_v rfl) rfl eq_int)
  have kk : k = 0 ∨ k = 1 ∨ k = 2 ∨ k = 3 ∨ k = 4 ∨ k = 5 ∨ k = 6 := by omega
  rcases kk with rfl | rfl | rfl | rfl | rfl | rfl | rfl
  · refine ⟨_, S1, hd _ ?_, .a, b1, kp1⟩
    unfold m__law_bent
    refine o_nx st1 (o_nx st2 (o_nx st3 ?_))
    exact o_rt (x_ret (cond 0) (fin (c_bin (x := rL r) (c_v rfl) (lit1 (tu2 rfl (c_v rfl))) (gAdd_lst (by have := (ok.room r (List.mem_of_getElem? hr)).len; simp; omega)))))
  · refine ⟨_, S1, hd _ ?_, .b, b1, kp1⟩
    unfold m__law_bent
    refine o_nx st1 (o_nx st2 (o_nx st3 (o_nx (x_pass (cond 0)) ?_)))
    exact o_rt (x_ret (cond 1) (fin (c_bin (lit1 (tu2 rfl rfl)) (lit1 (tu2 rfl rfl)) (gAdd_lst (by simp)))))
  · refine ⟨_, S1, hd _ ?_, .c, b1, kp1⟩
    unfold m__law_bent
    refine o_nx st1 (o_nx st2 (o_nx st3 (o_nx (x_pass (cond 0)) (o_nx (x_pass (cond 1)) ?_))))
    exact o_rt (x_ret (cond 2) (fin (lit2 (tu2 rfl rfl) (tu2 rfl (c_bin (c_v rfl) rfl rfl)))))
  · refine ⟨_, S1, hd _ ?_, .d, b1, kp1⟩
    unfold m__law_bent
    refine o_nx st1 (o_nx st2 (o_nx st3 (o_nx (x_pass (cond 0)) (o_nx (x_pass (cond 1)) (o_nx (x_pass (cond 2)) ?_)))))
    exact o_rt (x_ret (cond 3) (fin (lit2 (tu2 rfl rfl) (tu2 rfl rfl))))
  · obtain ⟨d, S2, e2, dm, b2, kp2⟩ := pick_lst b1 (xs := [D.non, .str [97, 48], .int 0, .lst [.tup [.str [97]]], .lst [.tup [.str [97, 98], .int 0]], .lst [.tup [.str [101], .int 0]], .lst [.tup [.int 0, .int 0]], .lst [.tup [.str [97], .bl true]]]) (by simp) (by simp)
    refine ⟨d, S2, hd _ ?_, .e dm, b2, kp1.trans kp2⟩
    unfold m__law_bent
    refine o_nx st1 (o_nx st2 (o_nx st3 (o_nx (x_pass (cond 0)) (o_nx (x_pass (cond 1)) (o_nx (x_pass (cond 2)) (o_nx (x_pass (cond 3)) ?_))))))
    refine o_rt (x_ret (cond 4) (fin (c_call2 (c_v rfl) ?_ e2)))
    simp [need, show (1 : Nat) ≤ LIM by decide, show (2 : Nat) ≤ LIM by decide, show (8 : Nat) ≤ LIM by decide]
  · refine ⟨_, S1, hd _ ?_, .f, b1, kp1⟩
    unfold m__law_bent
    refine o_nx st1 (o_nx st2 (o_nx st3 (o_nx (x_pass (cond 0)) (o_nx (x_pass (cond 1)) (o_nx (x_pass (cond 2)) (o_nx (x_pass (cond 3)) (o_nx (x_pass (cond 4)) ?_)))))))
    exact o_rt (x_ret (cond 5) (fin (lit1 (tu2 rfl (c_bin rfl rfl rfl)))))
  · refine ⟨_, S1, hd _ ?_, .g, b1, kp1⟩
    unfold m__law_bent
    refine o_nx st1 (o_nx st2 (o_nx st3 (o_nx (x_pass (cond 0)) (o_nx (x_pass (cond 1)) (o_nx (x_pass (cond 2)) (o_nx (x_pass (cond 3)) (o_nx (x_pass (cond 4)) (o_nx (x_pass (cond 5)) ?_))))))))
    exact o_ret (fin (lit1 (tu2 rfl rfl)))
/-! ### strange values -/
theorem forL_keep {ok : Sto → Prop} {t : TX} {b : SX} {mk : D → Ev} (hok : ok S) (hm : ∀ d e, t d (mk e) = some (mk d)) : ∀ (ds : List D) (x : D), (∀ d ∈ ds, b (mk d) S = .nx (mk d) S) → ∃ y, forL ok t b ds (mk x) S = .nx (mk y) S
  | [], x, _ => ⟨x, by simp [forL, hok]⟩
  | d :: ds, x, h => by
    obtain ⟨y, e⟩ := forL_keep hok hm ds d fun z hz => h z (List.mem_cons_of_mem _ hz)
    refine ⟨y, ?_⟩
    simp only [forL, hok, if_true, hm]
    rw [h d List.mem_cons_self]
    exact e
/-- .. from an unset name -/
theorem forL_keep1 {ok : Sto → Prop} {t : TX} {b : SX} {mk : D → Ev} {r : Ev} (hok : ok S) (hm : ∀ d e, t d (mk e) = some (mk d)) (hr : ∀ d, t d r = some (mk d)) {d : D} {ds : List D} (h : ∀ z ∈ d :: ds, b (mk z) S = .nx (mk z) S) : ∃ y, forL ok t b (d :: ds) r S = .nx (mk y) S := by
  obtain ⟨y, e⟩ := forL_keep (b := b) hok hm ds d fun z hz => h z (List.mem_cons_of_mem _ hz)
  refine ⟨y, ?_⟩
  simp only [forL, hok, if_true, hr]
  rw [h d List.mem_cons_self]
  exact e
theorem gMul_str {w : List Nat} {k : Int} (h0 : 0 ≤ k) (h1 : k < 1000000000) (h : w.length * k.toNat ≤ 1000000) : gMul (.str w) (.int k) S = .ok (.str (List.replicate k.toNat w).flatten) S := by
  have h2 : w.length * k.toNat ≤ LIM := by unfold LIM; omega
  have e : decide (-(2 ^ 63) ≤ k ∧ k < 2 ^ 63 ∧ w.length * k.toNat ≤ LIM) = true := decide_eq_true ⟨by omega, by omega, h2⟩
  show need _ _ S = _
  rw [e]
  rfl
theorem rep_str {c : Nat} {n : Nat} (h : n ≤ 1000) : gMul (.str [c]) (.int (n : Nat)) S = .ok (.str (List.replicate n c)) S := by
  have := gMul_str (S := S) (w := [c]) (k := (n : Int)) (by omega) (by omega) (by rw [List.length_singleton, Int.toNat_natCast]; omega)
  rw [Int.toNat_natCast] at this
  rw [this]
  have e : ∀ n : Nat, (List.replicate n [c]).flatten = List.replicate n c := fun n => by
    induction n with
    | zero => rfl
    | succ n ih => simp [List.replicate_succ, ih]
  rw [e]
abbrev Z7 : List Rm := List.replicate 7 []
abbrev Z6 : List Rm := List.replicate 6 []
theorem z6_ok : StOk Z6 := ⟨by decide, by decide, fun r hr => by
  have : r = [] := (List.mem_replicate.mp hr).2
  subst this
  exact ⟨by simp [Inc], by simp, by simp⟩⟩
theorem gNis_ff : gNis (.bl false) (.bl false) S = .ok (.bl false) S := rfl
theorem fr_a (ok : StOk s) : ∀ d ∈ [D.str [101], .str (List.replicate 201 97), .int 0, .non, .lst [.str [97]], .tup [.str [97]], .str [65], .str [32]], ∀ x3 x4 : Sl,
    (sIf (cOr (cBl (eBin gNis (eMeth 0 10 2 d_Wants_wants_row (eVar 1) (aCons (eVar 2) aNil)) (eC (.bl false)))) (cNot (cTru (eCall 2 d__law_row_fault (aCons (eVar 1) (aCons (eVar 2) aNil))))))
      (sRet (eC (.bl false))) sPass) [.sh (sL s), .sh (WO s), .sh d, x3, x4] S = .nx [.sh (sL s), .sh (WO s), .sh d, x3, x4] S := fun d hd x3 x4 => by
  have h : pl d = true ∧ strOk d = true ∧ anyRow d = false := by
    simp only [List.mem_cons, List.not_mem_nil, or_false] at hd
    rcases hd with rfl | rfl | rfl | rfl | rfl | rfl | rfl | rfl
    · exact ⟨rfl, by decide, by decide⟩
    · exact ⟨rfl, by simp [strOk, LIM], by simp [anyRow]⟩
    · exact ⟨rfl, rfl, rfl⟩
    · exact ⟨rfl, rfl, rfl⟩
    · exact ⟨rfl, rfl, rfl⟩
    · exact ⟨rfl, rfl, rfl⟩
    · exact ⟨rfl, by decide, by decide⟩
    · exact ⟨rfl, by decide, by decide⟩
  obtain ⟨h1, h2, h3⟩ := h
  refine x_pass (c_or_f (S1 := S) (c_bl (c_bin (c_meth1 (c_v rfl) obj10 (c_v rfl) (wrow_no h1 h2 h3)) rfl gNis_ff)) ?_)
  exact c_nt (t := true) (c_tr (c_call2 (c_v rfl) (c_v rfl) (rfault (roomof_er h1 h2 h3))))
theorem fr_b : ∀ d ∈ [D.int (-1), .int 201, .non, .str [50], .bl true], ∀ x3 x4 : Sl,
    (sIf (cNot (cTru (eCall 2 d__law_length_fault (aCons (eVar 1) (aCons (eVar 2) aNil))))) (sRet (eC (.bl false))) sPass) [.sh (sL s), .sh (WO s), .sh d, x3, x4] S = .nx [.sh (sL s), .sh (WO s), .sh d, x3, x4] S := fun d hd x3 x4 => by
  have h : pl d = true ∧ below 201 d = false ∧ fRepr [d] S = .ok (.str (reprD d)) S := by
    simp only [List.mem_cons, List.not_mem_nil, or_false] at hd
    rcases hd with rfl | rfl | rfl | rfl | rfl
    · exact ⟨rfl, rfl, repr_int_ok (by decide)⟩
    · exact ⟨rfl, rfl, repr_int_ok (by decide)⟩
    · exact ⟨rfl, rfl, repr_non_ok⟩
    · exact ⟨rfl, rfl, repr_s2⟩
    · exact ⟨rfl, rfl, repr_bl_ok⟩
  obtain ⟨h1, h2, h3⟩ := h
  exact x_pass (c_nt (t := true) (c_tr (c_call2 (c_v rfl) (c_v rfl) (lfault (rcount_er h1 h2) h3))))
theorem fr_c (ok : StOk s) : ∀ d ∈ [D.int (s.length : Nat), .int (-1), .non, .str [48], .bl false], ∀ x3 x4 : Sl,
    (sIf (cNot (cTru (eCall 2 d__law_room_fault (aCons (eVar 1) (aCons (eVar 2) aNil))))) (sRet (eC (.bl false))) sPass) [.sh (sL s), .sh (WO s), .sh d, x3, x4] S = .nx [.sh (sL s), .sh (WO s), .sh d, x3, x4] S := fun d hd x3 x4 => by
  have h6 := ok.most
  have h : pl d = true ∧ below s.length d = false ∧ fRepr [d] S = .ok (.str (reprD d)) S := by
    simp only [List.mem_cons, List.not_mem_nil, or_false] at hd
    rcases hd with rfl | rfl | rfl | rfl | rfl
    · exact ⟨rfl, below_self, repr_int_ok (Nat.lt_trans (log2_lt (by omega)) (by decide))⟩
    · exact ⟨rfl, rfl, repr_int_ok (by decide)⟩
    · exact ⟨rfl, rfl, repr_non_ok⟩
    · exact ⟨rfl, rfl, repr_s0⟩
    · exact ⟨rfl, rfl, repr_bl_ok⟩
  obtain ⟨h1, h2, h3⟩ := h
  exact x_pass (c_nt (t := true) (c_tr (c_call2 (c_v rfl) (c_v rfl) (mfault h1 h2 h3))))
theorem long_ok {x0 x1 x2 : D} {r : Ev} (hr : r = [.sh x0, .sh x1, .sh x2, .un, .un]) : eS1 mJoin (eC (.str [10])) (eFz (lLc [4] (iRng1D (eC (.int 7))) (tNm 4) cYes (eBin gAdd (eArgs fStr (aCons (eVar 4) aNil)) (eC (.str [58, 32, 110, 111, 110, 101]))))) r S = .ok (.str (TL.joinL [10] (linesTx 0 Z7))) S := by
  have en := lc_map (own := [4]) (src := iRng1D (eC (.int 7))) (t := tNm 4) (e := eBin gAdd (eArgs fStr (aCons (eVar 4) aNil)) (eC (.str [58, 32, 110, 111, 110, 101]))) (r := r) (S := S) (ok := fun _ => True) (xs := List.range 7) (g := fun i => .int (0 + (i : Nat))) (f := fun i => .str [48 + i, 58, 32, 110, 111, 110, 101])
    (by exact rng_ok (k := 7) (by omega) rfl) trivial (by decide) fun i hi => ⟨_, rfl, c_bin (x := .str [48 + i]) (c_args1 (x := .int (i : Nat)) (by rw [hr]; simp [wipeD]) (fstr_of (by rw [List.mem_range] at hi; omega))) rfl (cat_str (by simp))⟩
  have e2 : ((List.range 7).map fun i => D.str [48 + i, 58, 32, 110, 111, 110, 101]) = (linesTx 0 Z7).map .str := by kernel_rfl
  rw [e2] at en
  exact c_s1 rfl (c_fz en) (join_ok (n := 7) (by decide) (by decide))
theorem faults_ok (hb : bdS S.length S = true) (ok : StOk s) : d__law_faults_right [sL s, WO s] S = .ok (.bl true) S := by
  refine fn_run (g := m__law_faults_right) (env := [.sh (sL s), .sh (WO s), .un, .un, .un]) rfl ?_
  unfold m__law_faults_right
  have i1 : iIter (eTup (aCons (eC (.str [101])) (aCons (eBin gMul (eC (.str [97])) (eC (.int 201))) (aCons (eC (.int 0)) (aCons (eC .non) (aCons (eFz (lLst (aCons (eC (.str [97])) aNil))) (aCons (eTup (aCons (eC (.str [97])) aNil)) (aCons (eC (.str [65])) (aCons (eC (.str [32])) aNil))))))))) [.sh (sL s), .sh (WO s), .un, .un, .un] S = .ok ⟨[D.str [101], .str (List.replicate 201 97), .int 0, .non, .lst [.str [97]], .tup [.str [97]], .str [65], .str [32]], fun _ => True⟩ S := by
    have := rep_str (S := S) (c := 97) (n := 201) (by omega)
    rw [show ((201 : Nat) : Int) = 201 from rfl] at this
    simp [this, need, show (1 : Nat) ≤ LIM by decide, show (8 : Nat) ≤ LIM by decide, dIter]
  obtain ⟨y1, l1⟩ := forL_keep1 (S := S) (ok := fun _ => True) (t := tNm 2) (mk := fun d => [.sh (sL s), .sh (WO s), .sh d, .un, .un]) (r := [.sh (sL s), .sh (WO s), .un, .un, .un]) trivial (fun d e => rfl) (fun d => rfl) fun z hz => fr_a ok z hz .un .un
  refine o_nx (x_for i1 l1) ?_
  have i2 : iIter (eTup (aCons (eBin gSub (eC (.int 0)) (eC (.int 1))) (aCons (eC (.int 201)) (aCons (eC .non) (aCons (eC (.str [50])) (aCons (eC (.bl true)) aNil)))))) [.sh (sL s), .sh (WO s), .sh y1, .un, .un] S = .ok ⟨[D.int (-1), .int 201, .non, .str [50], .bl true], fun _ => True⟩ S := by
    simp [need, show (5 : Nat) ≤ LIM by decide, dIter, gSub]
  obtain ⟨y2, l2⟩ := forL_keep1 (S := S) (ok := fun _ => True) (t := tNm 2) (mk := fun d => [.sh (sL s), .sh (WO s), .sh d, .un, .un]) (r := [.sh (sL s), .sh (WO s), .sh y1, .un, .un]) trivial (fun d e => rfl) (fun d => rfl) fun z hz => fr_b (s := s) z hz .un .un
  refine o_nx (x_for i2 l2) ?_
  have i3 : iIter (eTup (aCons (eArgs fLen (aCons (eVar 0) aNil)) (aCons (eBin gSub (eC (.int 0)) (eC (.int 1))) (aCons (eC .non) (aCons (eC (.str [48])) (aCons (eC (.bl false)) aNil)))))) [.sh (sL s), .sh (WO s), .sh y2, .un, .un] S = .ok ⟨[D.int (s.length : Nat), .int (-1), .non, .str [48], .bl false], fun _ => True⟩ S := by
    have : eArgs fLen (aCons (eVar 0) aNil) [.sh (sL s), .sh (WO s), .sh y2, .un, .un] S = .ok (.int (s.length : Nat)) S := c_args1 (x := sL s) (c_v rfl) (by unfold sL; rw [len_lst, List.length_map])
    simp [-a_eArgs, this, need, show (5 : Nat) ≤ LIM by decide, dIter, gSub]
  obtain ⟨y3, l3⟩ := forL_keep1 (S := S) (ok := fun _ => True) (t := tNm 2) (mk := fun d => [.sh (sL s), .sh (WO s), .sh d, .un, .un]) (r := [.sh (sL s), .sh (WO s), .sh y2, .un, .un]) trivial (fun d e => rfl) (fun d => rfl) fun z hz => fr_c ok z hz .un .un
  refine o_nx (x_for i3 l3) ?_
  refine o_nx (x_asg (long_ok rfl) rfl) ?_
  refine o_ret ?_
  have ln : ∀ l ∈ linesTx 0 Z7, 10 ∉ l := by decide
  have ll : ∀ l ∈ linesTx 0 Z7, l.length ≤ 800 := by decide
  have t7 := tfault_er (parse_er (S := S) (ls := linesTx 0 Z7) (by decide) ln ll (by decide) (e := 7) (by kernel_rfl))
  have t6 := tfault_none (parse_txt (S := S) hb z6_ok)
  have lj : (TL.joinL [10] (linesTx 0 Z7)).length = 55 := by decide +kernel
  refine e_and_t (S1 := S) (c_bin (c_call1 (c_v rfl) t7) rfl rfl) (e_and_t (S1 := S) (c_bin (c_call1 (x := .str (txt Z6)) ?_ t6) rfl rfl) (c_bin (c_call1 rfl (tfault_er parse_none)) rfl rfl))
  refine c_sl (c_v rfl) c_none (c_some (c_bin (c_args1 (c_v rfl) (len_str (by rw [lj]; omega))) rfl rfl)) ?_
  rw [lj, cut_str (by rw [lj]; omega)]
  have e47 : ((55 : Nat) : Int) - 8 = ((47 : Nat) : Int) := by decide
  rw [e47, cut_take (by rw [lj]; omega)]
  have : (TL.joinL [10] (linesTx 0 Z7)).take 47 = txt Z6 := by decide +kernel
  rw [this]
end
end K75
set_option maxRecDepth 100000
set_option maxHeartbeats 2000000
namespace K75
set_option autoImplicit false
open Dm
section
variable {S S1 S2 : Sto} {s t : List Rm}
/-- the numbers are bounded -/
theorem cnt_bd (ok : StOk s) : ∀ k : Nat, ∀ x ∈ cnt s k, 0 ≤ x ∧ x ≤ ((6 ^ k : Nat) : Int)
  | 0, x, h => by
    have : x = 1 := (List.mem_replicate.mp h).2
    subst this; decide
  | k + 1, x, h => by
    obtain ⟨r, hr, rfl⟩ := List.mem_map.mp h
    have ih := cnt_bd ok k
    have hl := (ok.room r hr).len
    have hlt := (ok.room r hr).lt
    have key : ∀ r : Rm, (∀ p ∈ r, p.2 < s.length) → 0 ≤ (r.map fun p => (cnt s k)[p.2]?.getD 0).sum ∧ (r.map fun p => (cnt s k)[p.2]?.getD 0).sum ≤ (r.length : Int) * ((6 ^ k : Nat) : Int) := fun r => by
      induction r with
      | nil => intro _; simp
      | cons p r ihr =>
        intro hp
        obtain ⟨a1, a2⟩ := ihr fun q hq => hp q (List.mem_cons_of_mem _ hq)
        have h1 := hp p List.mem_cons_self
        have h2 : p.2 < (cnt s k).length := by rw [cnt_len]; exact h1
        have e : (cnt s k)[p.2]?.getD 0 = (cnt s k)[p.2] := by simp [h2]
        obtain ⟨b1, b2⟩ := ih _ (List.getElem_mem h2)
        simp only [List.map_cons, List.sum_cons, List.length_cons, e]
        have : (((r.length + 1 : Nat) : Int)) * ((6 ^ k : Nat) : Int) = (r.length : Int) * ((6 ^ k : Nat) : Int) + ((6 ^ k : Nat) : Int) := by
          rw [Int.natCast_add, Int.add_mul]; simp
        rw [this]
        omega
    obtain ⟨c1, c2⟩ := key r hlt
    refine ⟨c1, Int.le_trans c2 ?_⟩
    have : r.length * 6 ^ k ≤ 6 ^ (k + 1) := by rw [Nat.pow_succ, Nat.mul_comm]; exact Nat.mul_le_mul_left _ hl
    rw [← Int.natCast_mul]
    omega
theorem cnt_log (ok : StOk s) {k : Nat} (hk : k ≤ 200) : ((cnt s k)[0]?.getD 0).natAbs.log2 < 1900 := by
  have h0 : 0 < (cnt s k).length := by rw [cnt_len]; exact ok.pos
  have e : (cnt s k)[0]?.getD 0 = (cnt s k)[0] := by simp [h0]
  obtain ⟨h1, h2⟩ := cnt_bd ok k _ (List.getElem_mem h0)
  rw [e]
  have h3 : (cnt s k)[0].natAbs ≤ 6 ^ 200 := Nat.le_trans (by omega) (Nat.pow_le_pow_right (by decide) hk)
  by_cases z : (cnt s k)[0].natAbs = 0
  · rw [z]; decide
  · exact (Nat.log2_lt z).mpr (Nat.lt_of_le_of_lt h3 (by decide +kernel))
theorem any_row {w : List Nat} (h : ∀ c ∈ w, c ∈ LET) (hl : w.length ≤ 200) : anyRow (.str w) = true := by
  simp only [anyRow, hl, decide_true, Bool.true_and]
  exact List.all_eq_true.mpr fun c hc => decide_eq_true (h c hc)
theorem repr_o {o : Option Nat} (h : ∀ j, o = some j → j < 1000) : fRepr [encO o] S = .ok (.str (reprD (encO o))) S := by
  cases o with
  | none => exact repr_non_ok
  | some j => exact repr_int_ok (Nat.lt_trans (log2_lt (by have := h j rfl; omega)) (by decide))
theorem gis_o {o : Option Nat} : gIs (encO o) .non S = .ok (.bl o.isNone) S := by cases o <;> rfl
theorem gnis_o {o : Option Nat} : gNis (encO o) .non S = .ok (.bl o.isSome) S := by cases o <;> rfl
noncomputable def bodyU : SX := sSeq (sAsg (eCall 2 d__law_walk (aCons (eVar 1) (aCons (eVar 3) aNil))) (tNm 6))
  (sSeq (sIf (cOr (cBl (eBin gNe (eArgs fRepr (aCons (eMeth 0 7 2 d_Wants_room_of (eVar 2) (aCons (eVar 3) aNil)) aNil)) (eArgs fRepr (aCons (eVar 6) aNil)))) (cBl (eBin gNe (eArgs fRepr (aCons (eMeth 0 10 2 d_Wants_wants_row (eVar 2) (aCons (eVar 3) aNil)) aNil)) (eArgs fRepr (aCons (eBin gNis (eVar 6) (eC .non)) aNil)))))
  (sRet (eC (.bl false)))
  sPass)
  (sSeq (sAsg (eIf (cBl (eBin gIs (eVar 6) (eC .non))) (eC (.str [])) (eMeth 0 8 2 d_Wants_letters_at (eVar 2) (aCons (eVar 6) aNil))) (tNm 7))
  (sAsg (eBin gAdd (eVar 3) (eIf (cAnd (cBl (eBin gNe (eVar 7) (eC (.str [])))) (cBl (eBin gGt (eCall 2 d__law_take (aCons (eVar 0) (aCons (eC (.int 6)) aNil))) (eC (.int 0))))) (eCall 2 d__law_pick (aCons (eVar 0) (aCons (eVar 7) aNil))) (eCall 2 d__law_pick (aCons (eVar 0) (aCons (eC (.str [97, 98, 99, 100, 48, 49])) aNil))))) (tNm 3))))
theorem e_if_t {c : CX} {a b : EX} {r : Ev} {o : Out D} (h : c r S = .ok true S1) (h2 : a r S1 = o) : eIf c a b r S = o := bnd_k h h2
theorem e_if_f {c : CX} {a b : EX} {r : Ev} {o : Out D} (h : c r S = .ok false S1) (h2 : b r S1 = o) : eIf c a b r S = o := bnd_k h h2
theorem turnU (ok : StOk s) {n : Nat} (b : Bx n S) {row : List Nat} (hr : ∀ c ∈ row, c ∈ LET) (hl : row.length ≤ 100) {x4 x6 x7 : Sl} :
    ∃ c S' y6 y7, c ∈ LET ∧ Bx n S' ∧ Kp n S S' ∧ bodyU [.sh (.ref n), .sh (sL s), .sh (WO s), .sh (.str row), x4, .un, x6, x7] S = .nx [.sh (.ref n), .sh (sL s), .sh (WO s), .sh (.str (row ++ [c])), x4, .un, y6, y7] S' := by
  have ar := any_row hr (by omega)
  have wl : ∀ j, wk s 0 row = some j → j < s.length := fun j e => wk_lt ok ok.pos e
  have h6 := ok.most
  generalize ho : wk s 0 row = o at wl
  have e1 := lwalk_ok (S := S) ok (w := row)
  have e2 := roomof_ok (S := S) ok ar
  have e3 := wrow_ok (S := S) ok ar
  rw [ho] at e1 e2 e3
  have er := repr_o (S := S) (o := o) fun j e => by have := wl j e; omega
  have s1 : sAsg (eCall 2 d__law_walk (aCons (eVar 1) (aCons (eVar 3) aNil))) (tNm 6) [.sh (.ref n), .sh (sL s), .sh (WO s), .sh (.str row), x4, .un, x6, x7] S = .nx [.sh (.ref n), .sh (sL s), .sh (WO s), .sh (.str row), x4, .un, .sh (encO o), x7] S :=
    x_asg (c_call2 (c_v rfl) (c_v rfl) e1) rfl
  have s2 := x_pass (r := [.sh (.ref n), .sh (sL s), .sh (WO s), .sh (.str row), x4, .un, .sh (encO o), x7]) (S := S) (S' := S) (a := sRet (eC (.bl false)))
    (c := cOr (cBl (eBin gNe (eArgs fRepr (aCons (eMeth 0 7 2 d_Wants_room_of (eVar 2) (aCons (eVar 3) aNil)) aNil)) (eArgs fRepr (aCons (eVar 6) aNil)))) (cBl (eBin gNe (eArgs fRepr (aCons (eMeth 0 10 2 d_Wants_wants_row (eVar 2) (aCons (eVar 3) aNil)) aNil)) (eArgs fRepr (aCons (eBin gNis (eVar 6) (eC .non)) aNil)))))
    (c_or_f (S1 := S) (c_bl (c_bin (c_args1 (c_meth1 (c_v rfl) obj7 (c_v rfl) e2) er) (c_args1 (c_v rfl) er) (by rw [ne_str]; simp))) (c_bl (c_bin (c_args1 (c_meth1 (c_v rfl) obj10 (c_v rfl) e3) repr_bl_ok) (c_args1 (c_bin (c_v rfl) rfl gnis_o) repr_bl_ok) (by rw [ne_str]; simp))))
  -- what lies ahead
  obtain ⟨ah, hah, hal, e4⟩ : ∃ ah : List Nat, (∀ c ∈ ah, c ∈ LET) ∧ ah.length ≤ 6 ∧ eIf (cBl (eBin gIs (eVar 6) (eC .non))) (eC (.str [])) (eMeth 0 8 2 d_Wants_letters_at (eVar 2) (aCons (eVar 6) aNil)) [.sh (.ref n), .sh (sL s), .sh (WO s), .sh (.str row), x4, .un, .sh (encO o), x7] S = .ok (.str ah) S := by
    cases o with
    | none => exact ⟨[], by simp, by simp, e_if_t (S1 := S) (c_bl (c_bin (c_v rfl) rfl gis_o)) rfl⟩
    | some j =>
      have hj := wl j rfl
      have hs := st_at hj
      have hm := ok.room _ (List.mem_of_getElem? hs)
      refine ⟨(s[j]?.getD []).map (·.1), fun c hc => ?_, by simpa using hm.len, ?_⟩
      · obtain ⟨p, hp, rfl⟩ := List.mem_map.mp hc
        exact hm.let_ p hp
      · exact e_if_f (S1 := S) (c_bl (c_bin (c_v rfl) rfl gis_o)) (c_meth1 (c_v rfl) obj8 (c_v rfl) (letters_ok hs hm.len))
  have s3 : sAsg (eIf (cBl (eBin gIs (eVar 6) (eC .non))) (eC (.str [])) (eMeth 0 8 2 d_Wants_letters_at (eVar 2) (aCons (eVar 6) aNil))) (tNm 7) [.sh (.ref n), .sh (sL s), .sh (WO s), .sh (.str row), x4, .un, .sh (encO o), x7] S = .nx [.sh (.ref n), .sh (sL s), .sh (WO s), .sh (.str row), x4, .un, .sh (encO o), .sh (.str ah)] S := x_asg e4 rfl
  have fin : ∀ {S3 : Sto} {c : Nat}, eIf (cAnd (cBl (eBin gNe (eVar 7) (eC (.str [])))) (cBl (eBin gGt (eCall 2 d__law_take (aCons (eVar 0) (aCons (eC (.int 6)) aNil))) (eC (.int 0))))) (eCall 2 d__law_pick (aCons (eVar 0) (aCons (eVar 7) aNil))) (eCall 2 d__law_pick (aCons (eVar 0) (aCons (eC (.str [97, 98, 99, 100, 48, 49])) aNil))) [.sh (.ref n), .sh (sL s), .sh (WO s), .sh (.str row), x4, .un, .sh (encO o), .sh (.str ah)] S = .ok (.str [c]) S3 →
      bodyU [.sh (.ref n), .sh (sL s), .sh (WO s), .sh (.str row), x4, .un, x6, x7] S = .nx [.sh (.ref n), .sh (sL s), .sh (WO s), .sh (.str (row ++ [c])), x4, .un, .sh (encO o), .sh (.str ah)] S3 := fun h => by
    unfold bodyU
    rw [seq_nx s1, seq_nx s2, seq_nx s3]
    exact x_asg (c_bin (c_v rfl) h (cat_str (by simp; omega))) rfl
  by_cases hz : ah = []
  · subst hz
    obtain ⟨c, S3, e5, hc, b3, k3⟩ := pick_str b (s := [97, 98, 99, 100, 48, 49]) (by simp) (by simp)
    exact ⟨c, S3, _, _, hc, b3, k3, fin (e_if_f (S1 := S) (c_and_f (c_bl (c_bin (c_v rfl) rfl ne_str))) (c_call2 (c_v rfl) rfl e5))⟩
  · obtain ⟨k, S1, e5, k0, k1, b1, kp1⟩ := take_ok b (m := 6) (by omega) (by omega)
    have hne : cBl (eBin gNe (eVar 7) (eC (.str []))) [.sh (.ref n), .sh (sL s), .sh (WO s), .sh (.str row), x4, .un, .sh (encO o), .sh (.str ah)] S = .ok true S := c_bl (c_bin (c_v rfl) rfl (by rw [ne_str]; simp [hz]))
    have hgt : cBl (eBin gGt (eCall 2 d__law_take (aCons (eVar 0) (aCons (eC (.int 6)) aNil))) (eC (.int 0))) [.sh (.ref n), .sh (sL s), .sh (WO s), .sh (.str row), x4, .un, .sh (encO o), .sh (.str ah)] S = .ok (decide (0 < k)) S1 := c_bl (c_bin (c_call2 (c_v rfl) rfl e5) rfl int_gt)
    by_cases hk : 0 < k
    · rw [decide_eq_true hk] at hgt
      obtain ⟨c, S3, e6, hc, b3, k3⟩ := pick_str b1 (s := ah) hz (by omega)
      exact ⟨c, S3, _, _, hah c hc, b3, kp1.trans k3, fin (e_if_t (c_and_t hne hgt) (c_call2 (c_v rfl) (c_v rfl) e6))⟩
    · rw [decide_eq_false hk] at hgt
      obtain ⟨c, S3, e6, hc, b3, k3⟩ := pick_str b1 (s := [97, 98, 99, 100, 48, 49]) (by simp) (by simp)
      exact ⟨c, S3, _, _, hc, b3, kp1.trans k3, fin (e_if_f (c_and_t hne hgt) (c_call2 (c_v rfl) rfl e6))⟩
theorem loopU (ok : StOk s) {n : Nat} : ∀ (ds : List D) (row : List Nat) (x4 x6 x7 : Sl) (S : Sto), Bx n S → (∀ c ∈ row, c ∈ LET) → row.length + ds.length ≤ 100 →
    ∃ row' S' y4 y6 y7, (∀ c ∈ row', c ∈ LET) ∧ Bx n S' ∧ Kp n S S' ∧ forL (fun _ => True) (tNm 4) bodyU ds [.sh (.ref n), .sh (sL s), .sh (WO s), .sh (.str row), x4, .un, x6, x7] S = .nx [.sh (.ref n), .sh (sL s), .sh (WO s), .sh (.str row'), y4, .un, y6, y7] S'
  | [], row, x4, x6, x7, S, b, hr, _ => ⟨row, S, x4, x6, x7, hr, b, .refl n S, by simp [forL]⟩
  | d :: ds, row, x4, x6, x7, S, b, hr, hl => by
    simp only [List.length_cons] at hl
    obtain ⟨c, S1, y6, y7, hc, b1, k1, e1⟩ := turnU ok b hr (by omega) (x4 := .sh d) (x6 := x6) (x7 := x7)
    obtain ⟨row', S2, z4, z6, z7, h1, b2, k2, e2⟩ := loopU ok ds (row ++ [c]) (.sh d) y6 y7 S1 b1 (fun z hz => by
      rcases List.mem_append.mp hz with hz | hz
      · exact hr z hz
      · rw [List.mem_singleton.mp hz]; exact hc) (by simp; omega)
    refine ⟨row', S2, z4, z6, z7, h1, b2, k1.trans k2, ?_⟩
    simp only [forL, if_true, a_tNm, List.set]
    rw [e1]
    exact e2
theorem walked_ok (ok : StOk s) {n : Nat} (b : Bx n S) : ∃ S', d__law_walked_right [.ref n, sL s, WO s] S = .ok (.bl true) S' ∧ Bx n S' ∧ Kp n S S' := by
  have h6 := ok.most
  obtain ⟨row', S1, y4, y6, y7, hr, b1, k1, e1⟩ := loopU ok (n := n) (rngD 0 8).ds [] .un .un .un S b (by simp) (by simp [rngD])
  obtain ⟨c, S2, e2, hc, b2, k2⟩ := pick_str b1 (s := [97, 98, 99, 100, 48, 49]) (by simp) (by simp)
  obtain ⟨m, S3, e3, hm, b3, k3⟩ := pick_lst b2 (xs := [D.int 200, .int 199, .int 7]) (by simp) (by simp)
  obtain ⟨q, S4, e4, q0, q1, b4, k4⟩ := take_ok b3 (m := 40) (by omega) (by omega)
  obtain ⟨l, S5, e5, hl, b5, k5⟩ := pick_lst b4 (xs := [D.int 0, .int 1, .int 2, .int 3, .int 200, .int q]) (by simp) (by simp)
  refine ⟨S5, ?_, b5, (((k1.trans k2).trans k3).trans k4).trans k5⟩
  obtain ⟨mn, rfl, hmn⟩ : ∃ mn : Nat, m = .int (mn : Nat) ∧ mn ≤ 200 := by
    simp only [List.mem_cons, List.not_mem_nil, or_false] at hm
    rcases hm with rfl | rfl | rfl
    · exact ⟨200, rfl, by omega⟩
    · exact ⟨199, rfl, by omega⟩
    · exact ⟨7, rfl, by omega⟩
  obtain ⟨ln, rfl, hln⟩ : ∃ ln : Nat, l = .int (ln : Nat) ∧ ln ≤ 200 := by
    simp only [List.mem_cons, List.not_mem_nil, or_false] at hl
    rcases hl with rfl | rfl | rfl | rfl | rfl | rfl
    · exact ⟨0, rfl, by omega⟩
    · exact ⟨1, rfl, by omega⟩
    · exact ⟨2, rfl, by omega⟩
    · exact ⟨3, rfl, by omega⟩
    · exact ⟨200, rfl, by omega⟩
    · exact ⟨q.toNat, by rw [Int.toNat_of_nonneg q0], by omega⟩
  refine fn_run (g := m__law_walked_right) (env := [.sh (.ref n), .sh (sL s), .sh (WO s), .un, .un, .un, .un, .un]) rfl ?_
  unfold m__law_walked_right
  refine o_nx (x_asg rfl rfl) ?_
  refine o_nx (x_for (rng_ok (k := 8) (by omega) rfl) e1) ?_
  refine o_nx (x_asg (c_bin (c_call2 (c_v rfl) rfl e2) (c_call2 (c_v rfl) (x := .ref n) (y := .lst [D.int 200, .int 199, .int 7]) (by simp [need, show (3 : Nat) ≤ LIM by decide]) e3) (rep_str (by omega))) rfl) ?_
  have el6 : eFz (lLst (aCons (eC (.int 0)) (aCons (eC (.int 1)) (aCons (eC (.int 2)) (aCons (eC (.int 3)) (aCons (eC (.int 200)) (aCons (eCall 2 d__law_take (aCons (eVar 0) (aCons (eC (.int 40)) aNil))) aNil))))))) [.sh (.ref n), .sh (sL s), .sh (WO s), .sh (.str (List.replicate mn c)), y4, .un, y6, y7] S3 = .ok (.lst [D.int 0, .int 1, .int 2, .int 3, .int 200, .int q]) S4 := by
    have := c_call2 (a := eVar 0) (b := eC (.int 40)) (r := [.sh (.ref n), .sh (sL s), .sh (WO s), .sh (.str (List.replicate mn c)), y4, .un, y6, y7]) (S := S3) (c_v rfl) rfl e4
    simp only [a_eFz, a_bnd, a_lLst, a_aCons, a_eC, this, a_aNil, a_pur]
    simp [need, show (6 : Nat) ≤ LIM by decide]
  refine o_nx (x_asg (c_call2 (c_v rfl) el6 e5) rfl) ?_
  have ar := any_row (w := List.replicate mn c) (fun z hz => by rw [(List.mem_replicate.mp hz).2]; exact hc) (by simpa using hmn)
  have wl : ∀ j, wk s 0 (List.replicate mn c) = some j → j < 1000 := fun j e => by have := wk_lt ok ok.pos e; omega
  have er := repr_o (S := S5) wl
  refine o_nx (x_pass (S' := S5) (c_bl (c_bin (c_args1 (c_meth1 (c_v rfl) obj7 (c_v rfl) (roomof_ok ok ar)) er) (c_args1 (c_call2 (c_v rfl) (c_v rfl) (lwalk_ok ok)) er) (by rw [ne_str]; simp)))) ?_
  have ec := repr_int_ok (S := S5) (cnt_log ok hln)
  exact o_ret (c_bin (c_args1 (c_meth1 (c_v rfl) obj9 (c_v rfl) (rcount_ok ok hln)) ec) (c_args1 (c_call2 (c_v rfl) (c_v rfl) (lcount_ok ok hln)) ec) (by rw [eq_str]; simp))
end
end K75
set_option maxRecDepth 100000
set_option maxHeartbeats 2000000
namespace Dm
set_option autoImplicit false
mutual
theorem bd_mono {n m : Nat} (h : n ≤ m) : ∀ d : D, d.bd n = true → d.bd m = true
  | .non, _ => rfl
  | .bl _, _ => rfl
  | .int _, _ => rfl
  | .str _, _ => rfl
  | .lst xs, e => bds_mono h xs e
  | .tup xs, e => bds_mono h xs e
  | .ro xs, e => bds_mono h xs e
  | .obj _ fs, e => bdf_mono h fs e
  | .ref k, e => by
    have : k < n := of_decide_eq_true e
    exact decide_eq_true (Nat.lt_of_lt_of_le this h)
theorem bds_mono {n m : Nat} (h : n ≤ m) : ∀ ds : List D, bds n ds = true → bds m ds = true
  | [], _ => rfl
  | d :: ds, e => by
    rw [bds, Bool.and_eq_true] at e
    rw [bds, bd_mono h d e.1, bds_mono h ds e.2]; rfl
theorem bdf_mono {n m : Nat} (h : n ≤ m) : ∀ fs : List (Nat × D), bdf n fs = true → bdf m fs = true
  | [], _ => rfl
  | (k, d) :: fs, e => by
    rw [bdf, Bool.and_eq_true] at e
    rw [bdf, bd_mono h d e.1, bdf_mono h fs e.2]; rfl
end
theorem cbd_mono {n m : Nat} (h : n ≤ m) {c : Cell} (e : c.bd n = true) : c.bd m = true := by
  cases c with
  | lst xs => exact bds_mono h xs e
  | obj k fs => exact bdf_mono h fs e
theorem bds_all {n : Nat} : ∀ {xs : List D}, bds n xs = true ↔ ∀ x ∈ xs, x.bd n = true
  | [] => by simp [bds]
  | x :: xs => by rw [bds, Bool.and_eq_true, bds_all]; simp
/-- a draw's cell, and a store that is closed -/
structure SI (n : Nat) (S : Sto) : Prop where
  bx : Bx n S
  bd : bdS S.length S = true
theorem bdS_all {n : Nat} {S : Sto} : bdS n S = true ↔ ∀ c ∈ S, c.bd n = true := by simp [bdS]
theorem bdS_app {S T : Sto} (h : bdS S.length S = true) (h2 : ∀ c ∈ T, c.bd (S.length + T.length) = true) : bdS (S ++ T).length (S ++ T) = true := by
  rw [bdS_all, List.length_append]
  intro c hc
  rcases List.mem_append.mp hc with hc | hc
  · exact cbd_mono (Nat.le_add_right _ _) (bdS_all.mp h c hc)
  · exact h2 c hc
theorem bdS_set {S : Sto} {i : Nat} {c : Cell} (h : bdS S.length S = true) (h2 : c.bd S.length = true) : bdS (S.set i c).length (S.set i c) = true := by
  rw [bdS_all, List.length_set]
  intro e he
  rcases List.mem_or_eq_of_mem_set he with he | rfl
  · exact bdS_all.mp h e he
  · exact h2
theorem SI.kp {n : Nat} {S S' : Sto} (h : SI n S) (k : Kp n S S') (b : Bx n S') : SI n S' := by
  refine ⟨b, bdS_all.mpr fun c hc => ?_⟩
  obtain ⟨j, hj, e⟩ := List.getElem_of_mem hc
  have e' : S'[j]? = some c := by rw [List.getElem?_eq_getElem hj, e]
  rw [k.len]
  by_cases q : j = n
  · subst q
    obtain ⟨g, s, e2, _⟩ := b
    rw [e2] at e'
    cases e'
    rfl
  · rw [k.oth j q] at e'
    exact bdS_all.mp h.bd c (List.mem_of_getElem? e')
theorem Bx.app {n : Nat} {S : Sto} (b : Bx n S) (T : Sto) : Bx n (S ++ T) := by
  obtain ⟨g, s, e, h⟩ := b
  exact ⟨g, s, by rw [List.getElem?_append_left (List.getElem?_eq_some_iff.mp e).1]; exact e, h⟩
theorem Bx.set {n i : Nat} {S : Sto} {c : Cell} (b : Bx n S) (h : i ≠ n) : Bx n (S.set i c) := by
  obtain ⟨g, s, e, h'⟩ := b
  exact ⟨g, s, by rw [List.getElem?_set_ne h]; exact e, h'⟩
theorem Bx.lt {n : Nat} {S : Sto} (b : Bx n S) : n < S.length := by
  obtain ⟨g, s, e, h'⟩ := b
  exact (List.getElem?_eq_some_iff.mp e).1
end Dm
namespace K75
set_option autoImplicit false
open Dm
section
variable {S S1 S2 : Sto} {s t : List Rm}
def refsFrom (m k : Nat) : List D := (List.range k).map fun i => .ref (m + i)
theorem refsFrom_succ {m k : Nat} : refsFrom m (k + 1) = .ref m :: refsFrom (m + 1) k := by
  unfold refsFrom
  rw [List.range_succ_eq_map, List.map_cons, List.map_map]
  have : (List.range k).map ((fun i => D.ref (m + i)) ∘ Nat.succ) = (List.range k).map fun i => D.ref (m + 1 + i) := List.map_congr_left fun i _ => by
    show D.ref (m + (i + 1)) = D.ref (m + 1 + i)
    rw [show m + (i + 1) = m + 1 + i by omega]
  rw [this]
  rfl
/-- the rooms as new cells -/
theorem lcF_cells {r : Ev} : ∀ (s : List Rm) (S : Sto) (hl : ∀ q ∈ s, q.length ≤ 1000) (ht : ∀ q : Rm, q ∈ s → ∀ S, eCell (lArgs lList (aCons (eVar 14) aNil)) (r.set 14 (.sh (rL q))) S = .ok (.ref S.length) (S ++ [.lst (q.map encP)])),
    lcF (fun _ => True) (tNm 14) cYes (eCell (lArgs lList (aCons (eVar 14) aNil))) r (s.map rL) S = .ok (refsFrom S.length s.length) (S ++ s.map fun q => .lst (q.map encP))
  | [], S, _, _ => by simp [lcF, refsFrom]
  | q :: s, S, hl, ht => by
    have ih := lcF_cells (r := r) s (S ++ [.lst (q.map encP)]) (fun z hz => hl z (List.mem_cons_of_mem _ hz)) fun z hz => ht z (List.mem_cons_of_mem _ hz)
    rw [List.map_cons]
    unfold lcF
    rw [if_pos trivial]
    simp only [a_tNm]
    rw [bnd_k (m := cYes (r.set 14 (.sh (rL q)))) rfl rfl]
    rw [if_pos rfl]
    rw [bnd_k (ht q List.mem_cons_self S) rfl]
    rw [bnd_k ih rfl]
    rw [List.length_append, List.length_singleton, List.length_cons, refsFrom_succ, List.append_assoc]
    rfl
theorem zip_fst {m : Nat} : ∀ {s : List Rm}, ((refsFrom m s.length).zip s).map (·.1) = refsFrom m s.length := fun {s} => by
  rw [List.map_fst_zip]
  simp [refsFrom]
theorem zip_snd {m : Nat} : ∀ {s : List Rm}, ((refsFrom m s.length).zip s).map (·.2) = s := fun {s} => by
  rw [List.map_snd_zip]
  simp [refsFrom]
theorem zip_at {m : Nat} {s : List Rm} {p : D × Rm} (h : p ∈ (refsFrom m s.length).zip s) : ∃ i, s[i]? = some p.2 ∧ p.1 = .ref (m + i) := by
  obtain ⟨i, hi, e⟩ := List.getElem_of_mem h
  have hi' : i < s.length := by simp at hi; omega
  rw [List.getElem_zip] at e
  subst e
  exact ⟨i, by simp [hi'], by simp [refsFrom]⟩
theorem copies_ok {n : Nat} (h : SI n S) (ok : StOk s) :
    (∃ S1, S1 = S ++ (s.map fun q => Cell.lst (q.map encP)) ++ [.lst (refsFrom S.length s.length)] ∧ SI n S1 ∧ Rms S1 (.ref (S.length + s.length)) ((refsFrom S.length s.length).zip s)) := by
  refine ⟨_, rfl, ⟨(h.bx.app _).app _, ?_⟩, ?_⟩
  · rw [List.append_assoc]
    refine bdS_app h.bd fun c hc => ?_
    rcases List.mem_append.mp hc with hc | hc
    · obtain ⟨q, _, rfl⟩ := List.mem_map.mp hc
      refine bds_all.mpr fun x hx => ?_
      obtain ⟨p, _, rfl⟩ := List.mem_map.mp hx
      simp [encP, D.bd, bds]
    · rw [List.mem_singleton.mp hc]
      refine bds_all.mpr fun x hx => ?_
      obtain ⟨i, hi, rfl⟩ := List.mem_map.mp hx
      rw [List.mem_range] at hi
      refine decide_eq_true ?_
      simp; omega
  · refine ⟨?_, fun p hp => ?_⟩
    · rw [zip_fst]
      refine .ref ?_
      rw [List.getElem?_append_right (by simp)]
      simp
    · obtain ⟨i, h1, h2⟩ := zip_at hp
      have hi := (List.getElem?_eq_some_iff.mp h1).1
      rw [h2]
      refine .ref ?_
      rw [List.append_assoc, List.getElem?_append_right (by omega), Nat.add_sub_cancel_left, List.getElem?_append_left (by simpa using hi), List.getElem?_map, h1]
      rfl
end
end K75
set_option maxRecDepth 100000
set_option maxHeartbeats 2000000
namespace K75
set_option autoImplicit false
open Dm
section
variable {S S1 S2 S3 : Sto} {s t : List Rm}
theorem x_par2 {i j : Nat} {e1 e2 : EX} {r r' : Ev} {a d : D} (h1 : e1 r S = .ok a S1) (h2 : e2 r S1 = .ok d S2) (hij : i ≠ j) (hr : (r.set i (.sh a)).set j (.sh d) = r') : sPar2 i j e1 e2 r S = .nx r' S2 := by
  unfold sPar2
  rw [h1]
  simp only [onS]
  rw [h2]
  simp only []
  rw [if_pos hij, hr]
theorem x_appR {o e : EX} {r : Ev} {k : Nat} {xs0 xs : List D} {d : D} (h1 : o r S = .ok (.ref k) S1) (h2 : S1[k]? = some (.lst xs0)) (h3 : e r S1 = .ok d S2) (h4 : S2[k]? = some (.lst xs)) (hl : xs.length ≤ 1000) : sAppR o e r S = .nx r (S2.set k (.lst (xs ++ [d]))) := by
  have hlim : xs.length < LIM := by unfold LIM; omega
  have e0 : isLst (.ref k) S1 = .ok () S1 := by simp [isLst, lstOf, h2]
  have e1 : (bnd (o r) (fun x => bnd (isLst x) fun _ => bnd (e r) fun y => pur (x, y))) S = .ok (.ref k, d) S2 := bnd_k h1 (bnd_k e0 (bnd_k h3 rfl))
  unfold sAppR
  rw [e1]
  simp only [onS, h4]
  rw [if_pos hlim]
abbrev EV (n : Nat) (s : List Rm) (l kept H : D) (x3 x4 x5 x6 x7 x8 : Sl) (x13 x14 x15 x16 : Sl) : Ev := [.sh (.ref n), .sh l, .sh (sL s), x3, x4, x5, x6, x7, x8, .sh kept, .sh H, .sh (WO s), .sh (WO s), x13, x14, x15, x16, .un, .un, .un, .un]
noncomputable def bodyC : SX := sSeq (sAsg (eFz (lLc [19, 17] (iIter (eVar 14)) (tTp [(tNm 19), (tNm 17)]) (cBl (eBin gEq (eVar 19) (eVar 15))) (eVar 17))) (tNm 16))
  (sIf (cBl (eBin gNe (eArgs fRepr (aCons (eMeth 0 6 3 d_Wants_after (eVar 11) (aCons (eVar 13) (aCons (eVar 15) aNil))) aNil)) (eArgs fRepr (aCons (eIf (cBl (eBin gNe (eVar 16) (eFz (lLst aNil)))) (eBin gIx (eVar 16) (eC (.int 0))) (eC .non)) aNil))))
  (sRet (eC (.bl false)))
  sPass)
section
variable {n : Nat} {l kept H : D} {x3 x4 x5 x6 x7 x8 : Sl}
theorem turnC {k : Nat} {r : Rm} (hs : s[k]? = some r) (hr : RmOk s.length r) (h6 : s.length ≤ 6) (c : Nat) {x16 : Sl} : ∃ y16, bodyC (EV n s l kept H x3 x4 x5 x6 x7 x8 (.sh (.int (k : Nat))) (.sh (rL r)) (.sh (.str [c])) x16) S = .nx (EV n s l kept H x3 x4 x5 x6 x7 x8 (.sh (.int (k : Nat))) (.sh (rL r)) (.sh (.str [c])) y16) S := by
  have e3 := lc_fil (own := [19, 17]) (src := iIter (eVar 14)) (t := tTp [tNm 19, tNm 17]) (c := cBl (eBin gEq (eVar 19) (eVar 15))) (e := eVar 17) (r := EV n s l kept H x3 x4 x5 x6 x7 x8 (.sh (.int (k : Nat))) (.sh (rL r)) (.sh (.str [c])) x16) (S := S) (ok := fun _ => True) (xs := r) (g := encP) (p := fun p => eqD (.str [p.1]) (.str [c])) (f := fun p => .int (p.2 : Nat))
      (by simp [rL, dIter]) trivial (len_lim (by have := hr.len; omega)) fun p hp => ⟨_, pair_t, c_bl (c_bin (c_v rfl) (c_v rfl) (eq_fl (x := .str [p.1]) (y := .str [c]) rfl rfl)), fun _ => c_v rfl⟩
  have ew : (r.filter fun p => eqD (.str [p.1]) (.str [c])).map (fun p => D.int (p.2 : Nat)) = ((r.filter fun p => eqD (.str [p.1]) (.str [c])).map (·.2)).map fun n => D.int ((n : Nat) : Int) := by simp
  rw [ew] at e3
  have ef := fil_find (r := r) (d := .str [c])
  have ea := after_ok (S := S) hs (d := .str [c]) rfl
  have hlt : ∀ j, aftR r (.str [c]) = some j → j < 1000 := fun j e => by have := aft_lt hr.lt e; omega
  have er := repr_o (S := S) hlt
  generalize hf : (r.filter fun p => eqD (.str [p.1]) (.str [c])).map (·.2) = fs at e3 ef
  have eq1 := nenil (S := S) (wf_ints (n := 59) (fun n : Nat => (n : Int)) fs)
  refine ⟨.sh (.lst (fs.map fun n => D.int ((n : Nat) : Int))), ?_⟩
  unfold bodyC
  refine (seq_nx (x_asg (c_fz e3) rfl)).trans ?_
  have ev : eIf (cBl (eBin gNe (eVar 16) (eFz (lLst aNil)))) (eBin gIx (eVar 16) (eC (.int 0))) (eC .non) (EV n s l kept H x3 x4 x5 x6 x7 x8 (.sh (.int (k : Nat))) (.sh (rL r)) (.sh (.str [c])) (.sh (.lst (fs.map fun n => D.int ((n : Nat) : Int))))) S = .ok (encO (aftR r (.str [c]))) S := by
    have hc := c_bl (c_bin (a := eVar 16) (b := eFz (lLst aNil)) (r := EV n s l kept H x3 x4 x5 x6 x7 x8 (.sh (.int (k : Nat))) (.sh (rL r)) (.sh (.str [c])) (.sh (.lst (fs.map fun n => D.int ((n : Nat) : Int))))) (S := S) (c_v rfl) (c_fz (l := lLst aNil) (xs := []) (S1 := S) (by simp [need])) eq1)
    rw [ef]
    cases fs with
    | nil => exact e_if_f hc rfl
    | cons j fs => exact e_if_t hc (c_bin (c_v rfl) rfl (ix_lst (i := 0) rfl))
  exact x_pass (c_bl (c_bin (c_args1 (c_meth2 (c_v rfl) obj6 (c_v rfl) (c_v rfl) ea) er) (c_args1 ev er) (by rw [ne_str]; simp)))
theorem loopC {k : Nat} {r : Rm} (hs : s[k]? = some r) (hr : RmOk s.length r) (h6 : s.length ≤ 6) : ∀ (cs : List Nat) (x15 x16 : Sl), ∃ y15 y16, forL (fun _ => True) (tNm 15) bodyC (cs.map fun c => .str [c]) (EV n s l kept H x3 x4 x5 x6 x7 x8 (.sh (.int (k : Nat))) (.sh (rL r)) x15 x16) S = .nx (EV n s l kept H x3 x4 x5 x6 x7 x8 (.sh (.int (k : Nat))) (.sh (rL r)) y15 y16) S
  | [], x15, x16 => ⟨x15, x16, by simp [forL]⟩
  | c :: cs, x15, x16 => by
    obtain ⟨y16, e1⟩ := turnC (S := S) (n := n) (l := l) (kept := kept) (H := H) (x3 := x3) (x4 := x4) (x5 := x5) (x6 := x6) (x7 := x7) (x8 := x8) hs hr h6 c (x16 := x16)
    obtain ⟨z15, z16, e2⟩ := loopC hs hr h6 cs (.sh (.str [c])) y16
    refine ⟨z15, z16, ?_⟩
    simp only [List.map_cons, forL, if_true, a_tNm, List.set]
    rw [e1]
    exact e2
noncomputable def bodyR2 : SX := sSeq (sIf (cBl (eBin gNe (eMeth 0 8 2 d_Wants_letters_at (eVar 11) (aCons (eVar 13) aNil)) (eS1 mJoin (eC (.str [])) (eFz (lLc [15, 17] (iIter (eVar 14)) (tTp [(tNm 15), (tNm 17)]) cYes (eVar 15))))))
  (sRet (eC (.bl false)))
  sPass)
  (sFor (iIter (eC (.str [97, 98, 99, 100, 48, 49]))) (tNm 15) bodyC)
theorem turnR {k : Nat} {r : Rm} (hs : s[k]? = some r) (hr : RmOk s.length r) (h6 : s.length ≤ 6) {x15 x16 : Sl} : ∃ y15 y16, bodyR2 (EV n s l kept H x3 x4 x5 x6 x7 x8 (.sh (.int (k : Nat))) (.sh (rL r)) x15 x16) S = .nx (EV n s l kept H x3 x4 x5 x6 x7 x8 (.sh (.int (k : Nat))) (.sh (rL r)) y15 y16) S := by
  obtain ⟨y15, y16, e⟩ := loopC (S := S) (n := n) (l := l) (kept := kept) (H := H) (x3 := x3) (x4 := x4) (x5 := x5) (x6 := x6) (x7 := x7) (x8 := x8) hs hr h6 LET x15 x16
  refine ⟨y15, y16, ?_⟩
  have e3 := lc_map (own := [15, 17]) (src := iIter (eVar 14)) (t := tTp [tNm 15, tNm 17]) (e := eVar 15) (r := EV n s l kept H x3 x4 x5 x6 x7 x8 (.sh (.int (k : Nat))) (.sh (rL r)) x15 x16) (S := S) (ok := fun _ => True) (xs := r) (g := encP) (f := fun p => .str [p.1]) (by simp [rL, dIter]) trivial (len_lim (by have := hr.len; omega)) fun p hp => ⟨_, pair_t, c_v rfl⟩
  have e4 : (r.map fun p => D.str [p.1]) = (r.map (·.1)).map fun c => .str [c] := by simp
  rw [e4] at e3
  have e5 := str_join (S := S) (l := r.map (·.1)) (by have := hr.len; simp; omega)
  have h1 := x_pass (a := sRet (eC (.bl false))) (c_bl (t := false) (S1 := S) (c_bin (g := gNe) (c_meth1 (a := eVar 13) (e := eVar 11) (r := EV n s l kept H x3 x4 x5 x6 x7 x8 (.sh (.int (k : Nat))) (.sh (rL r)) x15 x16) (S := S) (c_v rfl) obj8 (c_v rfl) (letters_ok hs hr.len)) (c_s1 (a := eC (.str [])) rfl (c_fz e3) e5) (by rw [ne_str]; simp)))
  unfold bodyR2
  rw [seq_nx h1]
  exact x_for (s := ⟨LET.map fun c => .str [c], fun _ => True⟩) rfl e
theorem loopR2 (ok : StOk s) : ∀ (rs : List Rm) (k : Nat) (x13 x14 x15 x16 : Sl), (∀ i r, rs[i]? = some r → s[k + i]? = some r) → ∃ y13 y14 y15 y16, forL (fun _ => True) (tTp [tNm 13, tNm 14]) bodyR2 (enuD k (rs.map rL)) (EV n s l kept H x3 x4 x5 x6 x7 x8 x13 x14 x15 x16) S = .nx (EV n s l kept H x3 x4 x5 x6 x7 x8 y13 y14 y15 y16) S
  | [], k, x13, x14, x15, x16, _ => ⟨x13, x14, x15, x16, by simp [enuD, forL]⟩
  | r :: rs, k, x13, x14, x15, x16, h => by
    have hs : s[k]? = some r := h 0 r rfl
    obtain ⟨y15, y16, e1⟩ := turnR (S := S) (n := n) (l := l) (kept := kept) (H := H) (x3 := x3) (x4 := x4) (x5 := x5) (x6 := x6) (x7 := x7) (x8 := x8) hs (ok.room r (List.mem_of_getElem? hs)) ok.most (x15 := x15) (x16 := x16)
    obtain ⟨z13, z14, z15, z16, e2⟩ := loopR2 ok rs (k + 1) (.sh (.int (k : Nat))) (.sh (rL r)) y15 y16 fun i q hq => by
      rw [show k + 1 + i = k + (i + 1) by omega]; exact h (i + 1) q (by simpa using hq)
    refine ⟨z13, z14, z15, z16, ?_⟩
    have ht : tTp [tNm 13, tNm 14] (.tup [.int (k : Nat), rL r]) (EV n s l kept H x3 x4 x5 x6 x7 x8 x13 x14 x15 x16) = some (EV n s l kept H x3 x4 x5 x6 x7 x8 (.sh (.int (k : Nat))) (.sh (rL r)) x15 x16) := rfl
    simp only [List.map_cons, enuD, forL, if_true]
    rw [ht]
    simp only []
    rw [e1]
    exact e2
end
theorem catD_ok : ∀ {s : List Rm}, catD (s.map rL) = some ((s.flatMap fun r => r).map encP)
  | [] => rfl
  | r :: s => by
    rw [List.map_cons, rL, catD, catD_ok]
    simp
theorem sumL_ok (h0 : 0 < s.length) (hl : (s.flatMap fun r => r).length ≤ 1000) : fSumL [sL s, .lst []] S = .ok (.lst ((s.flatMap fun r => r).map encP)) S := by
  unfold fSumL sL
  simp only [lstOf, Option.bind_some]
  have : (s.map rL).isEmpty = false := by cases s <;> simp at h0 ⊢
  rw [this]
  simp only [catD_ok]
  rw [if_neg (by decide)]
  simp only []
  rw [if_pos (by rw [List.length_map]; exact len_lim hl)]
/-! ### wants without a letter of one room -/
def cutA (r : Rm) : Rm := r.filter fun p => decide (p.1 ≠ 97)
def othS (s : List Rm) (i : Nat) (r : Rm) : List Rm := s.take i ++ [cutA r] ++ s.drop (i + 1)
theorem cutA_ok {n : Nat} {r : Rm} (h : RmOk n r) : RmOk n (cutA r) := by
  refine ⟨?_, fun p hp => h.let_ p ((List.mem_filter.mp hp).1), fun p hp => h.lt p ((List.mem_filter.mp hp).1)⟩
  have : ((cutA r).map (·.1)).Sublist (r.map (·.1)) := List.Sublist.map _ List.filter_sublist
  exact inc_of this h.inc
theorem oth_len {i : Nat} {r : Rm} (hi : i < s.length) : (othS s i r).length = s.length := by simp [othS]; omega
theorem oth_mem {i : Nat} {r q : Rm} (h : q ∈ othS s i r) : q = cutA r ∨ q ∈ s := by
  unfold othS at h
  rcases List.mem_append.mp h with h | h
  · rcases List.mem_append.mp h with h | h
    · exact .inr (List.mem_of_mem_take h)
    · exact .inl (List.mem_singleton.mp h)
  · exact .inr (List.mem_of_mem_drop h)
theorem oth_ok (ok : StOk s) {i : Nat} {r : Rm} (hr : s[i]? = some r) : StOk (othS s i r) := by
  have hi := (List.getElem?_eq_some_iff.mp hr).1
  refine ⟨by rw [oth_len hi]; exact ok.pos, by rw [oth_len hi]; exact ok.most, fun q hq => ?_⟩
  rw [oth_len hi]
  rcases oth_mem hq with rfl | hq
  · exact cutA_ok (ok.room r (List.mem_of_getElem? hr))
  · exact ok.room q hq
theorem StOk.rs (ok : StOk s) : ∀ r ∈ s, RmS r := fun r hr p hp => ⟨(ok.room r hr).let_ p hp, by have := (ok.room r hr).lt p hp; have := ok.most; omega⟩
theorem StOk.ne (ok : StOk s) : s ≠ [] := fun z => by have := ok.pos; rw [z] at this; simp at this
theorem split_at {i : Nat} {r : Rm} (hr : s[i]? = some r) : s = s.take i ++ [r] ++ s.drop (i + 1) := by
  obtain ⟨hi, e⟩ := List.getElem?_eq_some_iff.mp hr
  have : s.drop i = r :: s.drop (i + 1) := by rw [List.drop_eq_getElem_cons hi, e]
  rw [List.append_assoc, List.singleton_append, ← this, List.take_append_drop]
/-- shown alike just where alike -/
theorem oth_repr (ok : StOk s) {i : Nat} {r : Rm} (hr : s[i]? = some r) : (reprD (sL (othS s i r)) == reprD (sL s)) = decide (othS s i r = s) := by
  by_cases h : cutA r = r
  · have e : othS s i r = s := by
      have := split_at hr
      unfold othS
      rw [h]; exact this.symm
    rw [e]; simp
  · have ne : othS s i r ≠ s := fun z => h (by
      have e := split_at hr
      unfold othS at z
      have z2 : s.take i ++ [cutA r] ++ s.drop (i + 1) = s.take i ++ [r] ++ s.drop (i + 1) := z.trans e
      rw [List.append_assoc, List.append_assoc] at z2
      have := List.append_cancel_left z2
      simpa using this)
    have l1 := repr_sL (oth_ok ok hr).rs (oth_ok ok hr).ne
    have l2 := repr_sL ok.rs ok.ne
    have hlt : (cutA r).length < r.length := by
      have := List.length_filter_le (fun p : Nat × Nat => decide (p.1 ≠ 97)) r
      rcases Nat.lt_or_ge (cutA r).length r.length with g | g
      · exact g
      · exact absurd (List.filter_eq_self.mpr (List.length_filter_eq_length_iff.mp (Nat.le_antisymm this g))) h
    have hr2 : rlen (cutA r).length < rlen r.length := by unfold rlen; split <;> split <;> omega
    have e2 : (s.map fun r => rlen r.length + 2).sum = ((s.take i ++ [r] ++ s.drop (i + 1)).map fun r => rlen r.length + 2).sum := by rw [← split_at hr]
    have : (reprD (sL (othS s i r))).length < (reprD (sL s)).length := by
      rw [l1, l2, e2]
      simp only [othS, List.map_append, List.sum_append, List.map_cons, List.map_nil, List.sum_cons, List.sum_nil]
      omega
    have ne2 : reprD (sL (othS s i r)) ≠ reprD (sL s) := fun z => by rw [z] at this; omega
    simp [ne, ne2]
end
end K75
set_option maxRecDepth 100000
set_option maxHeartbeats 4000000
namespace K75
set_option autoImplicit false
open Dm
section
variable {S S1 S2 S3 : Sto} {s t : List Rm}
theorem c_ls1 {g : List Nat → D → M (List D)} {a b : EX} {r : Ev} {y : D} {w : List Nat} {o : Out (List D)} (h : a r S = .ok (.str w) S1) (h2 : b r S1 = .ok y S2) (hf : g w y S2 = o) : lS1 g a b r S = o := bnd_k h (bnd_k h2 hf)
theorem ac {a : EX} {t : AX} {r : Ev} {x : D} {xs : List D} (h : a r S = .ok x S1) (h2 : t r S1 = .ok xs S2) : aCons a t r S = .ok (x :: xs) S2 := bnd_k h (bnd_k h2 rfl)
theorem six_ok {d : D} (h : d ∈ [D.str [97, 98, 99, 100, 48, 49], .str [97, 98], .str [98, 48], .str [97, 99, 100, 49], .str [100]]) : ∃ L : List Nat, d = .str L ∧ L.length ≤ 6 ∧ Inc L ∧ ∀ c ∈ L, c ∈ LET := by
  simp only [List.mem_cons, List.not_mem_nil, or_false] at h
  rcases h with rfl | rfl | rfl | rfl | rfl
  · exact ⟨_, rfl, by decide, by unfold Inc; decide, by decide⟩
  · exact ⟨_, rfl, by decide, by unfold Inc; decide, by decide⟩
  · exact ⟨_, rfl, by decide, by unfold Inc; decide, by decide⟩
  · exact ⟨_, rfl, by decide, by unfold Inc; decide, by decide⟩
  · exact ⟨_, rfl, by decide, by unfold Inc; decide, by decide⟩
theorem mk_sL (hb : bdS S.length S = true) (ok : StOk s) : mkD 0 d_Wants___init__ [sL s] S = .ok (WO s) S := by
  have es : (s.map fun r => (rL r, r)).map (·.2) = s := by rw [List.map_map]; exact List.map_id' s
  have em := make_ok (v := sL s) (ps := s.map fun r => (rL r, r)) hb ⟨by rw [List.map_map]; exact .lst, fun p hp => by
    obtain ⟨r, _, rfl⟩ := List.mem_map.mp hp
    exact .lst⟩ (by rw [es]; exact ok)
  rw [es] at em
  exact em
theorem mk_sT (hb : bdS S.length S = true) (ok : StOk s) : mkD 0 d_Wants___init__ [.tup (s.map rT)] S = .ok (WO s) S := by
  have es : (s.map fun r => (rT r, r)).map (·.2) = s := by rw [List.map_map]; exact List.map_id' s
  have em := make_ok (v := .tup (s.map rT)) (ps := s.map fun r => (rT r, r)) hb ⟨by rw [List.map_map]; exact .tup, fun p hp => by
    obtain ⟨r, _, rfl⟩ := List.mem_map.mp hp
    exact .tup⟩ (by rw [es]; exact ok)
  rw [es] at em
  exact em
theorem fm_le (ok : StOk s) : (s.flatMap fun r => r).length ≤ 36 := by
  have h1 := fM_le (ps := s) fun r hr => (ok.room r hr).len
  have h2 := ok.most
  have : (s.flatMap fun r => r).length = (s.flatMap fun r => r.map (·.1)).length := by simp [List.length_flatMap]
  rw [this]; omega
/-- values that are no rooms -/
theorem nowants {d : D} (hb : bdS S.length S = true) (h : (pl d = true ∧ isSq d = false) ∨ ∃ es, Sq S d es ∧ (es.length = 0 ∨ 6 < es.length)) : d__law_wants_fault [d] S = .ok (.int (-1)) S := by
  refine wfault_er (mk_er hb (by simp [bdf, D.bd]) (init_no ?_))
  rcases h with ⟨h1, h2⟩ | ⟨es, h1, h2⟩
  · have := seq_ok (S := S ++ [.obj 0 []]) h1
    rw [h2] at this
    exact .inl this
  · exact .inr ⟨es, h1.app _, h2⟩
/-- the first part: what is made, and changed behind -/
theorem case_hd {n : Nat} (h : SI n S) : ∃ (s : List Rm) (l H : D) (S' : Sto), StOk s ∧ SI n S' ∧ ∀ k : SX, outS (sSeq (sAsg (eCall 2 d__law_pick (aCons (eVar 0) (aCons (eFz (lLst (aCons (eC (.str [97, 98, 99, 100, 48, 49])) (aCons (eC (.str [97, 98])) (aCons (eC (.str [98, 48])) (aCons (eC (.str [97, 99, 100, 49])) (aCons (eC (.str [100])) aNil))))))) aNil))) (tNm 1))
      (sSeq (sAsg (eCall 3 d__law_steps (aCons (eVar 0) (aCons (eVar 1) (aCons (eC (.int 6)) aNil)))) (tNm 2))
      (sSeq (sPar2 9 10 (eArgs fRepr (aCons (eVar 2) aNil)) (eCell (lLc [14] (iIter (eVar 2)) (tNm 14) cYes (eCell (lArgs lList (aCons (eVar 14) aNil))))))
      (sSeq (sPar2 11 12 (eMake 2 (mkD 0 d_Wants___init__) (aCons (eVar 10) aNil)) (eMake 2 (mkD 0 d_Wants___init__) (aCons (eArgs fTup (aCons (eFz (lLc [14] (iIter (eVar 2)) (tNm 14) cYes (eArgs fTup (aCons (eVar 14) aNil)))) aNil)) aNil)))
      (sSeq (sAppR (eBin gIx (eVar 10) (eC (.int 0))) (eTup (aCons (eC (.str [49])) (aCons (eC (.int 0)) aNil))))
      (sSeq (sAppR (eVar 10) (eCell (lLst aNil)))
      k))))) (Sl.sh (.ref n) :: List.replicate 20 .un) S) = outS (k (EV n s l (.str (reprD (sL s))) H .un .un .un .un .un .un .un .un .un .un) S') := by
  obtain ⟨d, S1, e1, hd, b1, k1⟩ := pick_lst h.bx (xs := [D.str [97, 98, 99, 100, 48, 49], .str [97, 98], .str [98, 48], .str [97, 99, 100, 49], .str [100]]) (by simp) (by simp)
  obtain ⟨L, rfl, l1, l2, l3⟩ := six_ok hd
  obtain ⟨s, S2, e2, ok, b2, k2⟩ := steps_ok b1 l1 l2 l3
  have h2 : SI n S2 := h.kp (k1.trans k2) b2
  obtain ⟨S3, d3, h3, rms⟩ := copies_ok h2 ok
  have h6 := ok.most
  have h0 := ok.pos
  have e3 : eCell (lLc [14] (iIter (eVar 2)) (tNm 14) cYes (eCell (lArgs lList (aCons (eVar 14) aNil)))) (Sl.sh (.ref n) :: .sh (.str L) :: .sh (sL s) :: List.replicate 18 .un) S2 = .ok (.ref (S2.length + s.length)) S3 := by
    have := lcF_cells (r := Sl.sh (.ref n) :: .sh (.str L) :: .sh (sL s) :: List.replicate 18 .un) s S2 (fun q hq => by have := (ok.room q hq).len; omega) fun q hq S' => by
      refine bnd_k (a := q.map encP) (S1 := S') (bnd_k (bnd_k (c_v rfl) rfl) rfl) rfl
    refine bnd_k (a := refsFrom S2.length s.length) (S1 := S2 ++ s.map fun q => .lst (q.map encP)) ?_ ?_
    · unfold lLc
      refine bnd_k (a := ⟨s.map rL, fun _ => True⟩) (S1 := S2) rfl ?_
      refine bnd_k (a := refsFrom S2.length s.length) (S1 := S2 ++ s.map fun q => .lst (q.map encP)) ?_ ?_
      · unfold noE
        have e : lcF (fun _ => True) (tNm 14) cYes (eCell (lArgs lList (aCons (eVar 14) aNil))) (wipeD (Sl.sh (.ref n) :: .sh (.str L) :: .sh (sL s) :: List.replicate 18 .un) [14]) (s.map rL) S2 = _ := this
        rw [e]
      · have : (refsFrom S2.length s.length).length ≤ LIM := by simp [refsFrom]; exact len_lim (by omega)
        simp [need, this]
    · rw [d3]
      simp
  have em1 : mkD 0 d_Wants___init__ [.ref (S2.length + s.length)] S3 = .ok (WO s) S3 := by
    have := make_ok h3.bd rms (by rw [zip_snd]; exact ok)
    rw [zip_snd] at this
    exact this
  have em2 := mk_sT (s := s) h3.bd ok
  have er := repr_sL_ok (S := S2) ok.rs (fun r hr => (ok.room r hr).len) ok.ne h6
  have elt : eArgs fTup (aCons (eFz (lLc [14] (iIter (eVar 2)) (tNm 14) cYes (eArgs fTup (aCons (eVar 14) aNil)))) aNil) (EV n s (.str L) (.str (reprD (sL s))) (.ref (S2.length + s.length)) .un .un .un .un .un .un .un .un .un .un |>.set 11 .un |>.set 12 .un) S3 = .ok (.tup (s.map rT)) S3 := by
    have e := lc_map (own := [14]) (src := iIter (eVar 2)) (t := tNm 14) (e := eArgs fTup (aCons (eVar 14) aNil)) (r := (EV n s (.str L) (.str (reprD (sL s))) (.ref (S2.length + s.length)) .un .un .un .un .un .un .un .un .un .un |>.set 11 .un |>.set 12 .un)) (S := S3) (ok := fun _ => True) (xs := s) (g := rL) (f := rT) rfl trivial (len_lim (by omega)) fun r hr => ⟨_, rfl, c_args1 (x := rL r) (c_v rfl) rfl⟩
    exact c_args1 (c_fz e) rfl
  obtain ⟨r0, hr0⟩ : ∃ r, s[0]? = some r := ⟨s[0], by simp [h0]⟩
  have g0 : S3[S2.length]? = some (.lst (r0.map encP)) := by
    rw [d3, List.append_assoc, List.getElem?_append_right (Nat.le_refl _), Nat.sub_self, List.getElem?_append_left (by simpa using h0), List.getElem?_map, hr0]
    rfl
  have gH : S3[S2.length + s.length]? = some (.lst (refsFrom S2.length s.length)) := by
    rw [d3, List.getElem?_append_right (by simp)]
    simp
  have l3 : S3.length = S2.length + s.length + 1 := by rw [d3]; simp; omega
  have nb : S2.length ≠ n := by have := b2.lt; omega
  have nb2 : S2.length + s.length ≠ n := by have := b2.lt; omega
  have n12 : S2.length ≠ S2.length + s.length := by omega
  have rl0 := (ok.room r0 (List.mem_of_getElem? hr0)).len
  -- the stores behind
  let S4 := S3.set S2.length (.lst (r0.map encP ++ [.tup [.str [49], .int 0]]))
  have h4 : SI n S4 := ⟨h3.bx.set nb, bdS_set h3.bd (bds_all.mpr fun x hx => by
    rcases List.mem_append.mp hx with hx | hx
    · obtain ⟨p, _, rfl⟩ := List.mem_map.mp hx
      simp [encP, D.bd, bds]
    · rw [List.mem_singleton.mp hx]; rfl)⟩
  have g4 : S4[S2.length + s.length]? = some (.lst (refsFrom S2.length s.length)) := by
    rw [List.getElem?_set_ne n12]; exact gH
  have l4 : S4.length = S2.length + s.length + 1 := by rw [List.length_set, l3]
  let S5 := S4 ++ [Cell.lst []]
  have h5 : SI n S5 := ⟨h4.bx.app _, bdS_app h4.bd fun c hc => by rw [List.mem_singleton.mp hc]; rfl⟩
  have g5 : S5[S2.length + s.length]? = some (.lst (refsFrom S2.length s.length)) := by
    rw [List.getElem?_append_left (by omega)]; exact g4
  let S6 := S5.set (S2.length + s.length) (.lst (refsFrom S2.length s.length ++ [.ref S4.length]))
  have h6' : SI n S6 := ⟨h5.bx.set nb2, bdS_set h5.bd (bds_all.mpr fun x hx => by
    have l5 : S5.length = S2.length + s.length + 2 := by rw [List.length_append, l4]; rfl
    rcases List.mem_append.mp hx with hx | hx
    · obtain ⟨i, hi, rfl⟩ := List.mem_map.mp hx
      rw [List.mem_range] at hi
      refine decide_eq_true ?_
      rw [l5]; omega
    · rw [List.mem_singleton.mp hx]
      refine decide_eq_true ?_
      rw [l5, l4]; omega)⟩
  refine ⟨s, .str L, .ref (S2.length + s.length), S6, ok, h6', fun k => ?_⟩
  refine o_nx (x_asg (c_call2 (c_v rfl) (x := .ref n) (y := .lst [D.str [97, 98, 99, 100, 48, 49], .str [97, 98], .str [98, 48], .str [97, 99, 100, 49], .str [100]]) (by simp [need, show (5 : Nat) ≤ LIM by decide]) e1) rfl) ?_
  refine o_nx (x_asg (c_call3 (c_v rfl) (c_v rfl) rfl e2) rfl) ?_
  refine o_nx (x_par2 (a := .str (reprD (sL s))) (d := .ref (S2.length + s.length)) (c_args1 (c_v rfl) er) e3 (by decide) rfl) ?_
  refine o_nx (x_par2 (a := WO s) (d := WO s) (c_make1 (x := .ref (S2.length + s.length)) (c_v rfl) em1) (c_make1 elt em2) (by decide) rfl) ?_
  have gx : gIx (.ref (S2.length + s.length)) (.int 0) S3 = .ok (.ref S2.length) S3 := by
    have : (refsFrom S2.length s.length)[0]? = some (.ref S2.length) := by
      obtain ⟨m, hm⟩ : ∃ m, s.length = m + 1 := ⟨s.length - 1, by omega⟩
      rw [hm, refsFrom_succ]; rfl
    have := atD_nat this
    simp only [gIx, itmS, lstOf, gH]
    rw [show (0 : Int) = ((0 : Nat) : Int) from rfl, this]
    rfl
  refine o_nx (x_appR (k := S2.length) (c_bin (x := .ref (S2.length + s.length)) (c_v rfl) rfl gx) g0 (tu2 rfl rfl) g0 (by simp; omega)) ?_
  refine o_nx (x_appR (k := S2.length + s.length) (S1 := S4) (S2 := S5) (d := .ref S4.length) (c_v rfl) g4 (bnd_k (a := []) (S1 := S4) (by simp [need]) rfl) g5 (by simp [refsFrom]; omega)) ?_
  rfl
theorem lines_split (ok : StOk s) : mSplit (txt s) (.str [10]) S = .ok ((linesTx 0 s).map .str) S := by
  have jl := joinL_len (sep := [10]) (lines_le (k := 0) ok)
  have h6 := ok.most
  have e2 := split_ok (S := S) (sep := [10]) (w := txt s) (by simp) (by decide) (by
    refine Nat.le_trans jl ?_
    rw [linesTx_len]
    simp
    omega)
  unfold txt at e2 ⊢
  rw [TL.spl_join (lines_ne ok) (lines_no ok)] at e2
  exact e2
theorem seven {i : Nat} {r : Rm} {d : D} (h : d ∈ [D.str (lineTx i r ++ [32]), .str ((lineTx i r).drop 1), .str [48 + i, 58, 32], .str [48 + i, 58, 32, 101, 32, 48], .str [48 + i, 58, 32, 97, 32, 57], .str [48 + i, 58, 32, 97, 32, 48, 48], .str []]) : ∃ l, d = .str l ∧ Spl i r l := by
  simp only [List.mem_cons, List.not_mem_nil, or_false] at h
  rcases h with rfl | rfl | rfl | rfl | rfl | rfl | rfl
  · exact ⟨_, rfl, .a⟩
  · exact ⟨_, rfl, .b⟩
  · exact ⟨_, rfl, .c⟩
  · exact ⟨_, rfl, .d⟩
  · exact ⟨_, rfl, .e⟩
  · exact ⟨_, rfl, .f⟩
  · exact ⟨_, rfl, .g⟩
theorem ne_int' {a b : Int} (h : a = b) : gNe (.int a) (.int b) S = .ok (.bl false) S := by rw [ne_int]; simp [h]
theorem case_ok {n : Nat} (h : SI n S) : ∃ S', d__law_case_right [.ref n] S = .ok (.bl true) S' ∧ SI n S' := by
  obtain ⟨s, l, H, S1, ok, h1, hd⟩ := case_hd h
  have h6 := ok.most
  have h0 := ok.pos
  obtain ⟨S2, e2, b2, k2⟩ := walked_ok ok h1.bx
  have h2 := h1.kp k2 b2
  have ef := faults_ok (S := S2) h2.bd ok
  obtain ⟨iZ, S3, e3, i0, i1, b3, k3⟩ := take_ok b2 (m := (s.length : Nat)) (by omega) (by omega)
  have h3 := h2.kp k3 b3
  obtain ⟨i, rfl⟩ : ∃ i : Nat, iZ = (i : Int) := ⟨iZ.toNat, by omega⟩
  have hi : i < s.length := by omega
  obtain ⟨r, hr⟩ : ∃ r, s[i]? = some r := ⟨s[i], by simp [hi]⟩
  have rmo := ok.room r (List.mem_of_getElem? hr)
  obtain ⟨sp, S4, e4, hsp, b4, k4⟩ := pick_lst b3 (xs := [D.str (lineTx i r ++ [32]), .str ((lineTx i r).drop 1), .str [48 + i, 58, 32], .str [48 + i, 58, 32, 101, 32, 48], .str [48 + i, 58, 32, 97, 32, 57], .str [48 + i, 58, 32, 97, 32, 48, 48], .str []]) (by simp) (by simp)
  have h4 := h3.kp k4 b4
  obtain ⟨sl, rfl, hsl⟩ := seven hsp
  obtain ⟨bd, S5, e5, hbd, b5, k5⟩ := bent_ok b4 ok hr
  have h5 := h4.kp k5 b5
  refine ⟨S5, ?_, h5⟩
  refine fn_run (g := m__law_case_right) (env := Sl.sh (.ref n) :: List.replicate 20 .un) rfl ?_
  unfold m__law_case_right
  refine (hd _).trans ?_
  -- used
  have eu := lc_map (own := [15, 17]) (src := iIter (eArgs fSumL (aCons (eVar 2) (aCons (eFz (lLst aNil)) aNil)))) (t := tTp [tNm 15, tNm 17]) (e := eVar 15) (r := EV n s l (.str (reprD (sL s))) H .un .un .un .un .un .un .un .un .un .un) (S := S1) (ok := fun _ => True) (xs := s.flatMap fun r => r) (g := encP) (f := fun p => .str [p.1])
    (bnd_k (c_args2 (c_v rfl) (c_fz (l := lLst aNil) (xs := []) (S1 := S1) (by simp [need])) (sumL_ok h0 (by have := fm_le ok; omega))) rfl) trivial (len_lim (by have := fm_le ok; omega)) fun p hp => ⟨_, pair_t, c_v rfl⟩
  have e3' : ((s.flatMap fun r => r).map fun p => D.str [p.1]) = (s.flatMap fun r => r.map (·.1)).map fun c => .str [c] := by
    simp only [List.map_flatMap, List.map_map, Function.comp_def]
  rw [e3'] at eu
  refine o_nx (x_asg (c_fz eu) rfl) ?_
  -- ways, rooms
  have lens : ∀ r ∈ s, r.length ≤ 6 := fun r hr => (ok.room r hr).len
  have erT := repr_sT_ok (S := S1) ok.rs lens h6
  have erL := repr_sL_ok (S := S1) ok.rs lens ok.ne h6
  have ern := repr_int_ok (S := S1) (i := (s.length : Nat)) (Nat.lt_trans (log2_lt (by omega)) (by decide))
  have elt : ∀ x3, eArgs fTup (aCons (eFz (lLc [14] (iIter (eVar 2)) (tNm 14) cYes (eArgs fTup (aCons (eVar 14) aNil)))) aNil) (EV n s l (.str (reprD (sL s))) H x3 .un .un .un .un .un .un .un .un .un) S1 = .ok (.tup (s.map rT)) S1 := fun x3 => by
    have e := lc_map (own := [14]) (src := iIter (eVar 2)) (t := tNm 14) (e := eArgs fTup (aCons (eVar 14) aNil)) (r := EV n s l (.str (reprD (sL s))) H x3 .un .un .un .un .un .un .un .un .un) (S := S1) (ok := fun _ => True) (xs := s) (g := rL) (f := rT) rfl trivial (len_lim (by omega)) fun r hr => ⟨_, rfl, c_args1 (x := rL r) (c_v rfl) rfl⟩
    exact c_args1 (c_fz e) rfl
  refine o_nx (x_pass (S' := S1) (c_or_f (S1 := S1) (c_bl (t := false) (c_bin (g := gNe) (c_args1 (c_un (c_v rfl) fld2) erT) (c_args1 (elt _) erT) (by rw [ne_str]; simp))) (c_bl (t := false) (c_bin (g := gNe) (c_args1 (c_un (c_v rfl) fld3) ern) (c_args1 (c_args1 (x := sL s) (c_v rfl) (by unfold sL; rw [len_lst, List.length_map])) ern) (by rw [ne_str]; simp))))) ?_
  -- letters, beside, kept
  have e4' := lc_fil (own := [15]) (src := iIter (eC (.str [97, 98, 99, 100, 48, 49]))) (t := tNm 15) (c := cBl (eBin gIn (eVar 15) (eVar 3))) (e := eVar 15) (r := EV n s l (.str (reprD (sL s))) H (.sh (.lst ((s.flatMap fun r => r.map (·.1)).map fun c => .str [c]))) .un .un .un .un .un .un .un .un .un) (S := S1) (ok := fun _ => True)
    (xs := LET) (g := fun c => .str [c]) (p := fun c => decide (c ∈ s.flatMap fun r => r.map (·.1))) (f := fun c => .str [c]) rfl trivial (by simp [LIM]) fun c hc => ⟨_, rfl, c_bl (c_bin (c_v rfl) (c_v rfl) in_strs), fun _ => c_v rfl⟩
  have ej := str_join (S := S1) (l := used s) (filter_le (by simp))
  refine o_nx (x_pass (S' := S1) (c_or_f (S1 := S1) (c_bl (t := false) (c_bin (g := gNe) (c_un (c_v rfl) fld4) (c_s1 (a := eC (.str [])) rfl (c_fz e4') ej) (by rw [ne_str]; simp))) (c_or_f (S1 := S1) (c_bl (t := false) (c_bin (c_v rfl) (c_v rfl) (by rw [one_ok ok.sg ok.sg]; simp))) (c_bl (t := false) (c_bin (g := gNe) (c_args1 (c_v rfl) erL) (c_v rfl) (by rw [ne_str]; simp)))))) ?_
  -- each room
  obtain ⟨y13, y14, y15, y16, er⟩ := loopR2 (S := S1) (n := n) (l := l) (kept := .str (reprD (sL s))) (H := H) (x3 := .sh (.lst ((s.flatMap fun r => r.map (·.1)).map fun c => .str [c]))) (x4 := .un) (x5 := .un) (x6 := .un) (x7 := .un) (x8 := .un) ok s 0 .un .un .un .un fun i r hr => by rw [Nat.zero_add]; exact hr
  refine o_nx (x_for (s := ⟨enuD 0 (s.map rL), fun _ => True⟩) (S1 := S1) rfl er) ?_
  -- strange letters
  obtain ⟨q0, hq0⟩ : ∃ r, s[0]? = some r := ⟨s[0], by simp [h0]⟩
  have an : ∀ d : D, (∀ p ∈ q0, eqD (.str [p.1]) d = false) → aftR q0 d = none := fun d hd => by
    unfold aftR
    rw [List.find?_eq_none.mpr fun p hp => by rw [hd p hp]; decide]
    rfl
  have ea1 := after_ok (S := S1) hq0 (d := .str [97, 98]) rfl
  rw [an _ fun p _ => by simp [eqD]] at ea1
  have ea2 := after_ok (S := S1) hq0 (d := .non) rfl
  rw [an _ fun p _ => by simp [eqD]] at ea2
  refine o_nx (x_pass (S' := S1) (c_or_f (S1 := S1) (c_bl (t := false) (c_bin (g := gNis) (c_meth2 (c_v rfl) obj6 rfl rfl ea1) rfl rfl)) (c_bl (t := false) (c_bin (g := gNis) (c_meth2 (c_v rfl) obj6 rfl rfl ea2) rfl rfl)))) ?_
  -- walks, faults
  refine o_nx (x_pass (S' := S2) (c_or_f (S1 := S2) (c_nt (t := true) (c_tr (c_call3 (c_v rfl) (c_v rfl) (c_v rfl) e2))) (c_nt (t := true) (c_tr (c_call2 (c_v rfl) (c_v rfl) ef))))) ?_
  -- text
  refine o_nx (x_asg (c_call1 (c_v rfl) (ltext_ok ok)) rfl) ?_
  have etx : eProp 0 1 d_Wants_text (eVar 11) (EV n s l (.str (reprD (sL s))) H (.sh (.lst ((s.flatMap fun r => r.map (·.1)).map fun c => .str [c]))) (.sh (.str (txt s))) .un .un .un .un y13 y14 y15 y16) S2 = .ok (.str (txt s)) S2 := by
    refine bnd_k (a := WO s) (S1 := S2) (c_v rfl) ?_
    show (if (0 : Nat) = 0 ∧ (1 : Nat) = 1 then noE (d_Wants_text [WO s]) S2 else .no) = _
    rw [if_pos ⟨rfl, rfl⟩]
    unfold noE
    rw [text_prop ok]
  have epa := parse_txt (S := S2) h2.bd ok
  refine o_nx (x_pass (S' := S2) (c_or_f (S1 := S2) (c_bl (t := false) (c_bin (g := gNe) etx (c_v rfl) (by rw [ne_str]; simp))) (c_or_f (S1 := S2) (c_bl (t := false) (c_bin (c_call1 (c_v rfl) epa) (c_v rfl) (by rw [one_ok ok.sg ok.sg]; simp))) (c_bl (t := false) (c_bin (g := gNe) (c_un (c_call1 (c_v rfl) epa) fld2) (c_un (c_v rfl) fld2) (by unfold gNe; rw [eqS_tup ok.sg ok.sg]; simp [ofO])))))) ?_
  -- at, lines, spoilt
  refine o_nx (x_asg (c_call2 (c_v rfl) (c_args1 (x := sL s) (c_v rfl) (by unfold sL; rw [len_lst, List.length_map])) e3) rfl) ?_
  refine o_nx (x_asg (c_fz (c_ls1 (c_v rfl) rfl (lines_split ok))) rfl) ?_
  let E7 : Ev := EV n s l (.str (reprD (sL s))) H (.sh (.lst ((s.flatMap fun r => r.map (·.1)).map fun c => .str [c]))) (.sh (.str (txt s))) (.sh (.int (i : Nat))) (.sh (.lst ((linesTx 0 s).map .str))) .un .un y13 y14 y15 y16
  have hbl := bodyTx_len rmo.len
  have hll : (lineTx i r).length ≤ 43 := by simp [lineTx]; omega
  have lat : eBin gIx (eVar 6) (eVar 5) E7 S3 = .ok (.str (lineTx i r)) S3 := c_bin (x := .lst ((linesTx 0 s).map .str)) (c_v rfl) (c_v rfl) (ix_lst (by rw [List.getElem?_map, linesTx_get hr, Nat.zero_add]; rfl))
  have sat : eArgs fStr (aCons (eVar 5) aNil) E7 S3 = .ok (.str [48 + i]) S3 := c_args1 (c_v rfl) (fstr_of (by omega))
  have p1 : eBin gAdd (eBin gIx (eVar 6) (eVar 5)) (eC (.str [32])) E7 S3 = .ok (.str (lineTx i r ++ [32])) S3 := c_bin lat rfl (cat_str (by simp; omega))
  have p2 : eSl (oSome (eC (.int 1))) oNone (eBin gIx (eVar 6) (eVar 5)) E7 S3 = .ok (.str ((lineTx i r).drop 1)) S3 := c_sl lat (c_some rfl) c_none (by rw [cut_str (by omega), show (1 : Int) = ((1 : Nat) : Int) from rfl, cut_drop (by simp [lineTx])])
  have pp : ∀ w : List Nat, w.length ≤ 100 → eBin gAdd (eArgs fStr (aCons (eVar 5) aNil)) (eC (.str w)) E7 S3 = .ok (.str ([48 + i] ++ w)) S3 := fun w hw => c_bin sat rfl (cat_str (by simp; omega))
  have esp : eFz (lLst (aCons (eBin gAdd (eBin gIx (eVar 6) (eVar 5)) (eC (.str [32]))) (aCons (eSl (oSome (eC (.int 1))) oNone (eBin gIx (eVar 6) (eVar 5))) (aCons (eBin gAdd (eArgs fStr (aCons (eVar 5) aNil)) (eC (.str [58, 32]))) (aCons (eBin gAdd (eArgs fStr (aCons (eVar 5) aNil)) (eC (.str [58, 32, 101, 32, 48]))) (aCons (eBin gAdd (eArgs fStr (aCons (eVar 5) aNil)) (eC (.str [58, 32, 97, 32, 57]))) (aCons (eBin gAdd (eArgs fStr (aCons (eVar 5) aNil)) (eC (.str [58, 32, 97, 32, 48, 48]))) (aCons (eC (.str [])) aNil)))))))) E7 S3 = .ok (.lst [D.str (lineTx i r ++ [32]), .str ((lineTx i r).drop 1), .str [48 + i, 58, 32], .str [48 + i, 58, 32, 101, 32, 48], .str [48 + i, 58, 32, 97, 32, 57], .str [48 + i, 58, 32, 97, 32, 48, 48], .str []]) S3 := by
    simp only [a_eFz, a_bnd, a_lLst, a_aCons, p1, p2, pp _ (show [58, 32].length ≤ 100 by decide), pp _ (show [58, 32, 101, 32, 48].length ≤ 100 by decide), pp _ (show [58, 32, 97, 32, 57].length ≤ 100 by decide), pp _ (show [58, 32, 97, 32, 48, 48].length ≤ 100 by decide), a_eC, a_aNil, a_pur]
    simp [need, show (7 : Nat) ≤ LIM by decide]
  refine o_nx (x_asg (c_call2 (c_v rfl) esp e4) rfl) ?_
  -- the spoilt text
  have hnl : ((linesTx 0 s).map D.str).length = s.length := by rw [List.length_map, linesTx_len]
  have emap : ((linesTx 0 s).map D.str).take i ++ [D.str sl] ++ ((linesTx 0 s).map D.str).drop (i + 1) = ((linesTx 0 s).take i ++ [sl] ++ (linesTx 0 s).drop (i + 1)).map .str := by simp
  obtain ⟨sf1, _⟩ := spl_facts rmo h6 (by omega) hsl
  have ejn := join_ok (S := S4) (sep := [10]) (ls := (linesTx 0 s).take i ++ [sl] ++ (linesTx 0 s).drop (i + 1)) (n := 50) (fun z hz => by
    rcases List.mem_append.mp hz with hz | hz
    · rcases List.mem_append.mp hz with hz | hz
      · have := lines_le ok z (List.mem_of_mem_take hz); omega
      · rw [List.mem_singleton.mp hz]; exact sf1
    · have := lines_le ok z (List.mem_of_mem_drop hz); omega) (by simp [linesTx_len]; omega)
  have etf := tfault_er (parse_spl (S := S4) ok hr hsl)
  refine o_nx (x_pass (S' := S4) (c_bl (t := false) (c_bin (g := gNe) (c_call1 (c_s1 (a := eC (.str [10])) rfl ((spl_ok (a := 6) (b := 5) (xs := (linesTx 0 s).map .str) rfl rfl (by rw [hnl]; exact hi) (by rw [hnl]; omega) (c_v rfl)).trans (by rw [emap])) ejn) etf) (c_bin (c_v rfl) rfl rfl) (ne_int' (by omega))))) ?_
  -- a spoilt room
  refine o_nx (x_pass (S' := S5) (c_or_f (S1 := S5) (c_bl (t := false) (c_bin (g := gNe) (c_call1 (c_call3 (c_v rfl) (c_v rfl) (c_v rfl) e5) (wfault_bent h5.bd ok hi (bnt_bad h0 rmo hbd))) (c_v rfl) (ne_int' rfl))) (c_bl (t := false) (c_bin (g := gNis) (c_call1 (c_v rfl) (wfault_none (mk_sL h5.bd ok))) rfl rfl)))) ?_
  -- other wants
  have hsz : (s.map rL).length = s.length := List.length_map ..
  have eoth : (s.map rL).take i ++ [rL (cutA r)] ++ (s.map rL).drop (i + 1) = (othS s i r).map rL := by simp [othS]
  let E8 : Ev := EV n s l (.str (reprD (sL s))) H (.sh (.lst ((s.flatMap fun r => r.map (·.1)).map fun c => .str [c]))) (.sh (.str (txt s))) (.sh (.int (i : Nat))) (.sh (.lst ((linesTx 0 s).map .str))) (.sh (.str sl)) .un y13 y14 y15 y16
  have eca := lc_fil (own := [20]) (src := iIter (eBin gIx (eVar 2) (eVar 5))) (t := tNm 20) (c := cBl (eBin gNe (eBin gIx (eVar 20) (eC (.int 0))) (eC (.str [97])))) (e := eVar 20) (r := E8) (S := S5) (ok := fun _ => True) (xs := r) (g := encP) (p := fun p => decide (p.1 ≠ 97)) (f := encP)
    (bnd_k (c_bin (x := sL s) (c_v rfl) (c_v rfl) (ix_lst (by rw [List.getElem?_map, hr]; rfl))) rfl) trivial (len_lim (by have := rmo.len; omega)) fun p hp => ⟨_, rfl, c_bl (c_bin (g := gNe) (c_bin (x := encP p) (c_v rfl) rfl (ix_tup (i := 0) rfl)) rfl (by
      rw [ne_str]
      by_cases hp : p.1 = 97 <;> simp [hp])), fun _ => c_v rfl⟩
  have e6 : eBin gAdd (eFz (lLc [20] (iIter (eBin gIx (eVar 2) (eVar 5))) (tNm 20) (cBl (eBin gNe (eBin gIx (eVar 20) (eC (.int 0))) (eC (.str [97])))) (eVar 20))) (eFz (lLst aNil)) E8 S5 = .ok (rL (cutA r)) S5 :=
    c_bin (c_fz eca) (c_fz (l := lLst aNil) (xs := []) (S1 := S5) (by simp [need])) ((gAdd_lst (by
      have := List.length_filter_le (fun p : Nat × Nat => decide (p.1 ≠ 97)) r
      have := rmo.len
      simp at *; omega)).trans (by rw [List.append_nil]; rfl))
  refine o_nx (x_asg ((spl_ok (a := 2) (b := 5) (xs := s.map rL) (i := i) rfl rfl (by rw [hsz]; exact hi) (by rw [hsz]; omega) e6).trans (by rw [eoth])) rfl) ?_
  have oko := oth_ok ok hr
  have emk : mkD 0 d_Wants___init__ [.lst ((othS s i r).map rL)] S5 = .ok (WO (othS s i r)) S5 := mk_sL h5.bd oko
  have ero := repr_sL_ok (S := S5) oko.rs (fun r hr => (oko.room r hr).len) oko.ne oko.most
  have erL5 := repr_sL_ok (S := S5) ok.rs lens ok.ne h6
  have hne_bl : ∀ b : Bool, gNe (.bl b) (.bl b) S5 = .ok (.bl false) S5 := fun b => by cases b <;> rfl
  refine o_nx (x_pass (S' := S5) (c_or_f (S1 := S5) (c_bl (t := false) (c_bin (g := gNe) (c_bin (c_make1 (c_v rfl) emk) (c_v rfl) (oe_ok oko.sg ok.sg)) (c_bin (g := gEq) (c_args1 (x := sL (othS s i r)) (c_v rfl) ero) (c_args1 (c_v rfl) erL5) (by rw [eq_str, oth_repr ok hr])) (hne_bl _))) (c_bl (t := false) (c_bin (c_v rfl) (c_un (c_v rfl) fld2) oe_tup)))) ?_
  -- no wants at all
  let E9 : Ev := EV n s l (.str (reprD (sL s))) H (.sh (.lst ((s.flatMap fun r => r.map (·.1)).map fun c => .str [c]))) (.sh (.str (txt s))) (.sh (.int (i : Nat))) (.sh (.lst ((linesTx 0 s).map .str))) (.sh (.str sl)) (.sh (.lst ((othS s i r).map rL))) y13 y14 y15 y16
  have e7 : eBin gMul (eFz (lLst (aCons (eFz (lLst aNil)) aNil))) (eC (.int 7)) E9 S5 = .ok (.lst (List.replicate 7 (.lst []))) S5 := c_bin (lit1 (c_fz (l := lLst aNil) (xs := []) (S1 := S5) (by simp [need]))) rfl (lst_rep (n := 7) (by omega))
  have evs : iIter (eTup (aCons (eFz (lLst aNil)) (aCons (eTup aNil) (aCons (eC .non) (aCons (eC (.int 0)) (aCons (eC (.str [97, 98])) (aCons (eBin gMul (eFz (lLst (aCons (eFz (lLst aNil)) aNil))) (eC (.int 7))) aNil))))))) E9 S5 = .ok ⟨[D.lst [], .tup [], .non, .int 0, .str [97, 98], .lst (List.replicate 7 (.lst []))].map id, fun _ => True⟩ S5 := by
    refine bnd_k (a := .tup [D.lst [], .tup [], .non, .int 0, .str [97, 98], .lst (List.replicate 7 (.lst []))]) (S1 := S5) (bnd_k (ac (c_fz (l := lLst aNil) (xs := []) (S1 := S5) (by simp [need])) (ac (x := .tup []) (S1 := S5) (by simp [need]) (ac rfl (ac rfl (ac rfl (ac e7 rfl)))))) (by simp [need, show (6 : Nat) ≤ LIM by decide])) rfl
  have elc := lc_map (own := [18]) (t := tNm 18) (e := eCall 1 d__law_wants_fault (aCons (eVar 18) aNil)) (f := fun _ => D.int (-1)) evs trivial (by decide) fun d hd => ⟨_, rfl, c_call1 (c_v rfl) (nowants h5.bd (by
    simp only [List.mem_cons, List.not_mem_nil, or_false] at hd
    rcases hd with rfl | rfl | rfl | rfl | rfl | rfl
    · exact .inr ⟨[], .lst, .inl rfl⟩
    · exact .inr ⟨[], .tup, .inl rfl⟩
    · exact .inl ⟨rfl, rfl⟩
    · exact .inl ⟨rfl, rfl⟩
    · exact .inl ⟨rfl, rfl⟩
    · exact .inr ⟨List.replicate 7 (.lst []), .lst, .inr (by simp)⟩))⟩
  have e8 : eBin gMul (eFz (lLst (aCons (eBin gSub (eC (.int 0)) (eC (.int 1))) aNil))) (eC (.int 6)) E9 S5 = .ok (.lst (List.replicate 6 (.int (-1)))) S5 := c_bin (lit1 (c_bin rfl rfl rfl)) rfl (lst_rep (n := 6) (by omega))
  exact o_ret (c_bin (c_fz elc) e8 rfl)
theorem good (ns : List Int) (hn : ns.length ≤ 63) : ∃ S, d_law [.ro (ns.map D.int)] [] = .ok (.bl true) S := by
  obtain ⟨g, sd, e0, s0, s1⟩ := box_ok (S := []) (ns := ns) (k := 0) (by omega) hn
  have hb0 : SI 0 ([] ++ [Cell.lst [.int g, .int sd]]) := ⟨⟨g, sd, rfl, s0, s1⟩, rfl⟩
  obtain ⟨S1, e1, h1⟩ := case_ok hb0
  obtain ⟨g2, sd2, e2, s2, s3⟩ := box_ok (S := S1) (ns := ns) (k := 1) (by omega) hn
  have hb1 : SI S1.length (S1 ++ [Cell.lst [.int g2, .int sd2]]) := ⟨⟨g2, sd2, by simp, s2, s3⟩, bdS_app h1.bd fun c hc => by rw [List.mem_singleton.mp hc]; rfl⟩
  obtain ⟨S2, e3, h2⟩ := case_ok hb1
  refine ⟨S2, fn_run (g := m_law) (env := [.sh (.ro (ns.map D.int)), .un]) rfl ?_⟩
  unfold m_law
  have t0 : (sIf (cNot (cTru (eCall 1 d__law_case_right (aCons (eCall 2 d__law_box (aCons (eVar 0) (aCons (eVar 1) aNil))) aNil)))) (sRet (eC (.bl false))) sPass) [.sh (.ro (ns.map D.int)), .sh (.int 0)] [] = .nx [.sh (.ro (ns.map D.int)), .sh (.int 0)] S1 :=
    x_pass (c_nt (t := true) (c_tr (c_call1 (c_call2 (c_v rfl) (c_v rfl) e0) e1)))
  have t1 : (sIf (cNot (cTru (eCall 1 d__law_case_right (aCons (eCall 2 d__law_box (aCons (eVar 0) (aCons (eVar 1) aNil))) aNil)))) (sRet (eC (.bl false))) sPass) [.sh (.ro (ns.map D.int)), .sh (.int 1)] S1 = .nx [.sh (.ro (ns.map D.int)), .sh (.int 1)] S2 :=
    x_pass (c_nt (t := true) (c_tr (c_call1 (c_call2 (c_v rfl) (c_v rfl) e2) e3)))
  refine o_nx (r' := [.sh (.ro (ns.map D.int)), .sh (.int 1)]) (S' := S2) (x_for (rng_ok (k := 2) (by omega) rfl) ?_) (o_ret rfl)
  show forL (fun _ => True) (tNm 1) _ [D.int 0, D.int 1] _ _ = _
  simp only [forL, if_true, a_tNm, List.set]
  rw [t0]
  simp only [List.set]
  rw [t1]
end
end K75
set_option maxRecDepth 100000
set_option maxHeartbeats 0
namespace K75
set_option autoImplicit false
open PySem L2 Dm
def st (i : Nat) : Stmt := PySem.Challenge.pw_rueless_k75_wants_walked_and_written.main.body.getD i (.Pass ⟨0, 0, 0, 0⟩)
abbrev names : List Str := ["at", "take_ways", "ways", "rooms", "letters", "room", "after", "room_of", "letters_at", "row_count", "wants_row"]
theorem names_nd : (names : List Str).Nodup := by decide +kernel
section
variable {K : PySem.W.Frag} {mg : Str → Option Value} {C : Nat → Addr}
structure Fx (K : PySem.W.Frag) (mg : Str → Option Value) (C : Nat → Addr) where
  is_int : FkOk ⟨K, C, names, none⟩ (fun v => PySem.W.kitOne K v (.type "int")) false true true false false false []
  n_int : mg "int" = none
  n_isinstance : mg "isinstance" = none
  is_bool : FkOk ⟨K, C, names, none⟩ (fun v => PySem.W.kitOne K v (.type "bool")) false true false false false false []
  n_bool : mg "bool" = none
  f_is_integer : DefG K mg "is_integer" (st 12) ["value"]
  is_str : FkOk ⟨K, C, names, none⟩ (fun v => PySem.W.kitOne K v (.type "str")) false false false true false false []
  n_str : mg "str" = none
  is_list_tuple : FkOk ⟨K, C, names, none⟩ (fun v => PySem.W.kitAny K v [.type "list", .type "tuple"]) false false false false true true []
  n_tuple : mg "tuple" = none
  n_list : mg "list" = none
  f_is_text : DefG K mg "is_text" (st 14) ["value"]
  n_len : mg "len" = none
  f_is_number : DefG K mg "is_number" (st 13) ["value"]
  f_is_sequence : DefG K mg "is_sequence" (st 15) ["value"]
  f_is_letter_of : DefG K mg "is_letter_of" (st 16) ["value", "letters"]
  c_LETTERS : ∃ s t, mg "LETTERS" = some (.str s t) ∧ s.cps.toList = [97, 98, 99, 100, 48, 49]
  f_is_number_below : DefG K mg "is_number_below" (st 20) ["value", "bound"]
  n_range : mg "range" = none
  n_all : mg "all" = none
  c_MOST_ROW : ∃ t, mg "MOST_ROW" = some (.int 200 t)
  c_TYPED_ROOMS : ∃ t, mg "TYPED_ROOMS" = some (.int 6 t)
  er_BadWants : ErrD PySem.Challenge.pw_rueless_k75_wants_walked_and_written K mg "BadWants" ["at"] xTail "Exception" "Exception.__init__" (C 4)
  n_enumerate : mg "enumerate" = none
  f_is_room : DefG K mg "is_room" (st 21) ["value", "rooms"]
  f_Wants_take_ways : DefM K (C 0) "take_ways" "Wants.take_ways" (L2.inClass (st 23) 1) ["self", "ways"]
  k_Wants : KlsI K (C 0)
  na_Wants_ways : NoAttr K (C 0) "ways"
  na_Wants_rooms : NoAttr K (C 0) "rooms"
  na_Wants_letters : NoAttr K (C 0) "letters"
  er_BadText : ErrD PySem.Challenge.pw_rueless_k75_wants_walked_and_written K mg "BadText" ["at"] xTail "Exception" "Exception.__init__" (C 3)
  f_read_pairs : DefG K mg "read_pairs" (st 24) ["text"]
  f_Wants___init__ : DefI K (C 0) "Wants.__init__" (L2.inClass (st 23) 0) ["self", "ways"]
  g_Wants : mg "Wants" = some (.ref (C 0))
  is_Wants : FkOk ⟨K, C, names, none⟩ (fun v => PySem.W.kitOne K v (.ref (C 0))) false false false false false false [(0, true)]
  er_NoRoom : ErrD PySem.Challenge.pw_rueless_k75_wants_walked_and_written K mg "NoRoom" ["room"] kTail "KeyError" "KeyError.__init__" (C 6)
  f_is_any_row : DefG K mg "is_any_row" (st 22) ["value"]
  er_BadRow : ErrD PySem.Challenge.pw_rueless_k75_wants_walked_and_written K mg "BadRow" ["at"] xTail "Exception" "Exception.__init__" (C 2)
  f_Wants_after : DefM K (C 0) "after" "Wants.after" (L2.inClass (st 23) 8) ["self", "room", "letter"]
  f_Wants_room_of : DefM K (C 0) "room_of" "Wants.room_of" (L2.inClass (st 23) 10) ["self", "row"]
  er_Refused : ErrD PySem.Challenge.pw_rueless_k75_wants_walked_and_written K mg "Refused" ["at"] xTail "Exception" "Exception.__init__" (C 5)
  n_sum : mg "sum" = none
  n_abs : mg "abs" = none
  f__law_take : DefG K mg "_law_take" (st 27) ["box", "many"]
  g_BadWants : mg "BadWants" = some (.ref (C 4))
  ex__law_wants_fault_BadWants : ∀ m b, ([(1, false), (2, false), (3, false), (4, true), (5, false), (6, false)] : List (Nat × Bool)).lookup m = some b → PySem.W.exmOne K (.ref (C m)) (.ref (C 4)) = some b
  xi_BadWants_RuelessError : ∀ m b, ([(4, true)] : List (Nat × Bool)).lookup m = some b → ExcC K (C m) ∧ PySem.W.kitOne K (.ref (C m)) (.ref (C 1)) = some b
  g_RuelessError : mg "RuelessError" = some (.ref (C 1))
  xi_BadWants_Refused : ∀ m b, ([(4, false)] : List (Nat × Bool)).lookup m = some b → ExcC K (C m) ∧ PySem.W.kitOne K (.ref (C m)) (.ref (C 5)) = some b
  g_Refused : mg "Refused" = some (.ref (C 5))
  xf_BadWants : XfC K (C 4)
  xn_BadWants_at : PySem.W.findIn K (.ref (C 4)) "at" = some none
  g_BadText : mg "BadText" = some (.ref (C 3))
  ex__law_text_fault_BadText : ∀ m b, ([(1, false), (2, false), (3, true), (4, false), (5, false), (6, false)] : List (Nat × Bool)).lookup m = some b → PySem.W.exmOne K (.ref (C m)) (.ref (C 3)) = some b
  f_Wants_parse : DefS K (C 0) "parse" "Wants.parse" (L2.inClass (st 23) 5) ["text"]
  xf_BadText : XfC K (C 3)
  xn_BadText_at : PySem.W.findIn K (.ref (C 3)) "at" = some none
  g_BadRow : mg "BadRow" = some (.ref (C 2))
  ex__law_row_fault_BadRow : ∀ m b, ([(1, false), (2, true), (3, false), (4, false), (5, false), (6, false)] : List (Nat × Bool)).lookup m = some b → PySem.W.exmOne K (.ref (C m)) (.ref (C 2)) = some b
  xf_BadRow : XfC K (C 2)
  xn_BadRow_at : PySem.W.findIn K (.ref (C 2)) "at" = some none
  g_NoRoom : mg "NoRoom" = some (.ref (C 6))
  ex__law_room_fault_NoRoom : ∀ m b, ([(1, false), (2, false), (3, false), (4, false), (5, false), (6, true)] : List (Nat × Bool)).lookup m = some b → PySem.W.exmOne K (.ref (C m)) (.ref (C 6)) = some b
  xf_NoRoom : XfC K (C 6)
  xn_NoRoom_room : PySem.W.findIn K (.ref (C 6)) "room" = some none
  n_repr : mg "repr" = none
  xi_NoRoom_RuelessError : ∀ m b, ([(6, false)] : List (Nat × Bool)).lookup m = some b → ExcC K (C m) ∧ PySem.W.kitOne K (.ref (C m)) (.ref (C 1)) = some b
  n_KeyError : mg "KeyError" = none
  ex__law_room_fault_KeyError : ∀ m b, ([(1, false), (2, false), (3, false), (4, false), (5, false), (6, true)] : List (Nat × Bool)).lookup m = some b → PySem.W.exmOne K (.ref (C m)) (.type "KeyError") = some b
  f_Wants_letters_at : DefM K (C 0) "letters_at" "Wants.letters_at" (L2.inClass (st 23) 9) ["self", "room"]
  ex__law_length_fault_Refused : ∀ m b, ([(1, false), (2, false), (3, false), (4, false), (5, true), (6, false)] : List (Nat × Bool)).lookup m = some b → PySem.W.exmOne K (.ref (C m)) (.ref (C 5)) = some b
  f_Wants_row_count : DefM K (C 0) "row_count" "Wants.row_count" (L2.inClass (st 23) 15) ["self", "length"]
  xf_Refused : XfC K (C 5)
  xn_Refused_at : PySem.W.findIn K (.ref (C 5)) "at" = some none
  f__law_pick : DefG K mg "_law_pick" (st 28) ["box", "some"]
  f_Wants_wants_row : DefM K (C 0) "wants_row" "Wants.wants_row" (L2.inClass (st 23) 11) ["self", "value"]
  f__law_row_fault : DefG K mg "_law_row_fault" (st 35) ["wants", "value"]
  f__law_length_fault : DefG K mg "_law_length_fault" (st 37) ["wants", "value"]
  f__law_room_fault : DefG K mg "_law_room_fault" (st 36) ["wants", "value"]
  f__law_text_fault : DefG K mg "_law_text_fault" (st 34) ["value"]
  f__law_walk : DefG K mg "_law_walk" (st 30) ["steps", "row"]
  f__law_count : DefG K mg "_law_count" (st 31) ["steps", "length"]
  f__law_steps : DefG K mg "_law_steps" (st 29) ["box", "letters", "size"]
  f_Wants___eq__ : DefQ K (C 0) "Wants.__eq__" (L2.inClass (st 23) 7) ["self", "other"]
  nf_Wants : NfOk ⟨K, C, names, none⟩ 0 (nfK 0)
  f__law_walked_right : DefG K mg "_law_walked_right" (st 40) ["box", "steps", "wants"]
  f__law_faults_right : DefG K mg "_law_faults_right" (st 39) ["steps", "wants"]
  f__law_text : DefG K mg "_law_text" (st 32) ["steps"]
  f_Wants_text : DefP K (C 0) "text" "Wants.text" (L2.inClass (st 23) 6) ["self"]
  f__law_wants_fault : DefG K mg "_law_wants_fault" (st 33) ["value"]
  f__law_bent : DefG K mg "_law_bent" (st 38) ["box", "steps", "at"]
  f__law_case_right : DefG K mg "_law_case_right" (st 41) ["box"]
  f__law_box : DefG K mg "_law_box" (st 26) ["script", "k"]
  f_law : DefG K mg "law" (st 42) ["script"]
abbrev Fx.T (x : Fx K mg C) : Tb := ⟨K, C, names, none⟩
end
section
variable {w : World} {K : PySem.W.Frag} {mg : Str → Option Value} {base : Heap} {C : Nat → Addr}
theorem nd__law_box : (["script", "k", "cell", "great"] : List Str).Nodup := by decide +kernel
theorem ok__law_box (x : Fx K mg C) : FnG PySem.Challenge.pw_rueless_k75_wants_walked_and_written w x.T.K mg base 1 x.f__law_box.f x.f__law_box.fd ["script", "k"] (spD x.T 2 d__law_box) :=
  fn_g (N := ["script", "k", "cell", "great"]) (k := 0) (g := m__law_box) x.f__law_box.F (C8.fnScope_by (by decide +kernel)) rfl fun cdv A outer s H E ck =>
  (ss_cons (s_set (i := 2) nd__law_box (e_bin o_add (or_add ck.u) (eb (e_bin o_mul or_mul (eb e_int) (eb (e_var (i := 1))))) (eb e_int)))
  (ss_cons (s_if (c_cmpB o_lt op_lt (by rfl) (eb (e_var (i := 1))) (eb (e_bi b_len (cr_len rfl) x.n_len PySem.boot_len (ab_cons (eb (e_var (i := 0))) ab_nil))))
  (ss_one (s_set (i := 2) nd__law_box (e_bi b_abs call_abs x.n_abs (by decide +kernel) (ab_cons (eb (e_ty b_int call_int1 x.n_int (by decide +kernel) (ab_cons (eb (e_ix o_ix (or_ix ck.u) (eb (e_var (i := 0))) (eb (e_var (i := 1))))) ab_nil))) ab_nil))))
  (ss_one (s_if (c_cmpB o_gt op_gt (by rfl) (eb (e_bi b_len (cr_len rfl) x.n_len PySem.boot_len (ab_cons (eb (e_var (i := 0))) ab_nil))) (eb e_int))
  (ss_one (s_set (i := 2) nd__law_box (e_bin o_add (or_add ck.u) (eb (e_var (i := 2))) (eb (e_bin o_mul or_mul (eb (e_bin o_mod op_mod (eb (e_ty b_int call_int1 x.n_int (by decide +kernel) (ab_cons (eb (e_bi b_abs call_abs x.n_abs (by decide +kernel) (ab_cons (eb (e_ty b_int call_int1 x.n_int (by decide +kernel) (ab_cons (eb (e_ix o_ix (or_ix ck.u) (eb (e_var (i := 0))) (eb (e_bin o_mod op_mod (eb (e_ty b_int call_int1 x.n_int (by decide +kernel) (ab_cons (eb (e_var (i := 1))) ab_nil))) (eb (e_bi b_len (cr_len rfl) x.n_len PySem.boot_len (ab_cons (eb (e_var (i := 0))) ab_nil))))))) ab_nil))) ab_nil))) ab_nil))) (eb e_int))) (eb e_int))))))
  ss_nil)))
  (ss_cons (s_set (i := 3) nd__law_box (e_if (c_cmpB o_ge op_ge (by rfl) (eb (e_var (i := 2))) (eb (e_bin o_pow op_pow (eb e_int) (eb e_int)))) (e_var (i := 2)) e_int))
  (ss_one (s_ret (e_cell (l_lst (a_cons (e_var (i := 3)) (a_cons (e_bin o_add (or_add ck.u) (eb (e_bin o_mod op_mod (eb (e_ty b_int call_int1 x.n_int (by decide +kernel) (ab_cons (eb (e_bin o_add (or_add ck.u) (eb (e_bin o_add (or_add ck.u) (eb (e_bin o_mul or_mul (eb (e_bin o_mod op_mod (eb (e_ty b_int call_int1 x.n_int (by decide +kernel) (ab_cons (eb (e_var (i := 2))) ab_nil))) (eb e_int))) (eb e_int))) (eb (e_bin o_mul or_mul (eb e_int) (eb (e_var (i := 1))))))) (eb e_int))) ab_nil))) (eb e_int))) (eb e_int)) a_nil)))))))))
theorem nd_Wants___eq__ : (["self", "other"] : List Str).Nodup := by decide +kernel
theorem ok_Wants___eq__ (x : Fx K mg C) : FnG PySem.Challenge.pw_rueless_k75_wants_walked_and_written w x.T.K mg base 1 x.f_Wants___eq__.f x.f_Wants___eq__.fd ["self", "other"] (spD x.T 2 d_Wants___eq__) :=
  fn_g (N := ["self", "other"]) (k := 0) (g := m_Wants___eq__) x.f_Wants___eq__.F (C8.fnScope_by (by decide +kernel)) rfl fun cdv A outer s H E ck =>
  (ss_one (s_ret (e_and (e_isi (u := .ref (C 0)) rfl x.is_Wants.ok (.own _) (pe_glob (v := .ref (C 0)) rfl x.g_Wants rfl) x.n_isinstance (eb (e_var (i := 1)))) (e_and1 (e_cmp o_eq (or_eq ck.u) (by rfl) (eb (e_fld names_nd rfl (forall_c1 ⟨x.k_Wants.cl, x.na_Wants_ways⟩) (e_var (i := 0)))) (eb (e_fld names_nd rfl (forall_c1 ⟨x.k_Wants.cl, x.na_Wants_ways⟩) (e_var (i := 1)))))))))
theorem nd_Wants_take_ways : (["self", "ways", "used", "pairs", "letter", "room"] : List Str).Nodup := by decide +kernel
theorem ok_Wants_take_ways (x : Fx K mg C) : FnG PySem.Challenge.pw_rueless_k75_wants_walked_and_written w x.T.K mg base 1 x.f_Wants_take_ways.f x.f_Wants_take_ways.fd ["self", "ways"] (spD x.T 2 d_Wants_take_ways) :=
  fn_g (N := ["self", "ways", "used", "pairs", "letter", "room"]) (k := 0) (g := m_Wants_take_ways) x.f_Wants_take_ways.F (C8.fnScope_by (by decide +kernel)) rfl fun cdv A outer s H E ck =>
  (ss_cons (s_fld names_nd rfl (forall_c1 ⟨x.k_Wants.cl, x.na_Wants_ways⟩) (e_var (i := 0)) (e_ty b_tup (cr_tup rfl) x.n_tuple (by decide +kernel) (ab_cons (eb (e_fz (l_lc (own := [("pairs", 3)]) rfl nd_Wants_take_ways (i_seq (eb (e_var (i := 1)))) (blkOk_by (by kernel_rfl)) (by decide) ⟨_, (fun s1 h1 c1 l1 p1 => (pg_name (i := 3) nd_Wants_take_ways rfl (by first | exact Or.inl rfl | exact Or.inr rfl) (by first | exact .inl rfl | exact .inr rfl))), tgs_nm⟩ (fun s1 h1 c1 l1 p1 => tests_nil) (fun s1 h1 c1 l1 p1 => (e_ty b_tup (cr_tup rfl) x.n_tuple (by decide +kernel) (ab_cons (eb (e_fz (l_lc (own := [("letter", 4), ("room", 5)]) rfl nd_Wants_take_ways (i_seq (eb (e_var (i := 3)))) (blkOk_by (by kernel_rfl)) (by decide) ⟨_, (fun s2 h2 c2 l2 p2 => (pg_tup (n := 2) rfl (pgs_cons (pg_name (i := 4) nd_Wants_take_ways rfl (by first | exact Or.inl rfl | exact Or.inr rfl) (by first | exact .inl rfl | exact .inr rfl)) (pgs_cons (pg_name (i := 5) nd_Wants_take_ways rfl (by first | exact Or.inl rfl | exact Or.inr rfl) (by first | exact .inl rfl | exact .inr rfl)) pgs_nil rfl) rfl) rfl rfl)), (tgs_tp (tgss_cons tgs_nm (tgss_cons tgs_nm tgss_nil)))⟩ (fun s2 h2 c2 l2 p2 => tests_nil) (fun s2 h2 c2 l2 p2 => (e_tup (a_cons (e_var (i := 4)) (a_cons (e_var (i := 5)) a_nil))))))) ab_nil)))))) ab_nil)))
  (ss_cons (s_fld names_nd rfl (forall_c1 ⟨x.k_Wants.cl, x.na_Wants_rooms⟩) (e_var (i := 0)) (e_bi b_len (cr_len rfl) x.n_len PySem.boot_len (ab_cons (eb (e_fld names_nd rfl (forall_c1 ⟨x.k_Wants.cl, x.na_Wants_ways⟩) (e_var (i := 0)))) ab_nil)))
  (ss_cons (s_set (i := 2) nd_Wants_take_ways (e_fz (l_lc2 (own := [("pairs", 3), ("letter", 4), ("room", 5)]) (own1 := [4, 5]) rfl nd_Wants_take_ways (i_seq (eb (e_fld names_nd rfl (forall_c1 ⟨x.k_Wants.cl, x.na_Wants_ways⟩) (e_var (i := 0))))) (blkOk_by (by kernel_rfl)) (by decide) (by decide) (by decide) ⟨_, (fun s1 h1 c1 l1 p1 => (pg_name (i := 3) nd_Wants_take_ways rfl (by first | exact Or.inl rfl | exact Or.inr rfl) (by first | exact .inl rfl | exact .inr rfl))), tgs_nm⟩ (fun s1 h1 c1 l1 p1 => tests_nil) (fun s1 h1 c1 l1 p1 => (i_seqF (e_var (i := 3)))) ⟨_, (fun s1 h1 c1 l1 p1 => (pg_tup (n := 2) rfl (pgs_cons (pg_name (i := 4) nd_Wants_take_ways rfl (by first | exact Or.inl rfl | exact Or.inr rfl) (by first | exact .inl rfl | exact .inr rfl)) (pgs_cons (pg_name (i := 5) nd_Wants_take_ways rfl (by first | exact Or.inl rfl | exact Or.inr rfl) (by first | exact .inl rfl | exact .inr rfl)) pgs_nil rfl) rfl) rfl rfl)), (tgs_tp (tgss_cons tgs_nm (tgss_cons tgs_nm tgss_nil)))⟩ (fun s1 h1 c1 l1 p1 => tests_nil) (fun s1 h1 c1 l1 p1 => (e_var (i := 4))))))
  (ss_one (s_fld names_nd rfl (forall_c1 ⟨x.k_Wants.cl, x.na_Wants_letters⟩) (e_var (i := 0)) (e_join e_str (eb (e_fz (l_lc (own := [("letter", 4)]) rfl nd_Wants_take_ways (i_seq (eb (e_gstr x.c_LETTERS))) (blkOk_by (by kernel_rfl)) (by decide) ⟨_, (fun s1 h1 c1 l1 p1 => (pg_name (i := 4) nd_Wants_take_ways rfl (by first | exact Or.inl rfl | exact Or.inr rfl) (by first | exact .inl rfl | exact .inr rfl))), tgs_nm⟩ (fun s1 h1 c1 l1 p1 => (tests_one (c_cmpB o_in (or_in ((Cok.blk ck s1 h1 c1 l1 p1)).u) (by rfl) (eb (e_var (i := 4))) (eb (e_var (i := 2)))))) (fun s1 h1 c1 l1 p1 => (e_var (i := 4))))))))))))
theorem nd_is_text : (["value"] : List Str).Nodup := by decide +kernel
theorem ok_is_text (x : Fx K mg C) : FnG PySem.Challenge.pw_rueless_k75_wants_walked_and_written w x.T.K mg base 1 x.f_is_text.f x.f_is_text.fd ["value"] (spD x.T 1 d_is_text) :=
  fn_g (N := ["value"]) (k := 0) (g := m_is_text) x.f_is_text.F (C8.fnScope_by (by decide +kernel)) rfl fun cdv A outer s H E ck =>
  (ss_one (s_ret (e_isi (u := .type "str") rfl x.is_str.ok (.ty _) (pe_bltn (v := .ty "str") rfl x.n_str (by decide +kernel) rfl) x.n_isinstance (eb (e_var (i := 0))))))
theorem nd_is_letter_of : (["value", "letters"] : List Str).Nodup := by decide +kernel
theorem ok_is_letter_of (x : Fx K mg C) : FnG PySem.Challenge.pw_rueless_k75_wants_walked_and_written w x.T.K mg base 2 x.f_is_letter_of.f x.f_is_letter_of.fd ["value", "letters"] (spD x.T 2 d_is_letter_of) :=
  fn_g (N := ["value", "letters"]) (k := 1) (g := m_is_letter_of) x.f_is_letter_of.F (C8.fnScope_by (by decide +kernel)) rfl fun cdv A outer s H E ck =>
  (ss_one (s_ret (e_and (e_call ((ok_is_text x).mono (by decide)) ck x.f_is_text.g x.f_is_text.F.kp x.f_is_text.B (a_cons (e_var (i := 0)) a_nil)) (e_and (e_cmp o_eq (or_eq ck.u) (by rfl) (eb (e_bi b_len (cr_len rfl) x.n_len PySem.boot_len (ab_cons (eb (e_var (i := 0))) ab_nil))) (eb e_int)) (e_and1 (e_cmp o_in (or_in ck.u) (by rfl) (eb (e_var (i := 0))) (eb (e_var (i := 1)))))))))
theorem nd_is_integer : (["value"] : List Str).Nodup := by decide +kernel
theorem ok_is_integer (x : Fx K mg C) : FnG PySem.Challenge.pw_rueless_k75_wants_walked_and_written w x.T.K mg base 1 x.f_is_integer.f x.f_is_integer.fd ["value"] (spD x.T 1 d_is_integer) :=
  fn_g (N := ["value"]) (k := 0) (g := m_is_integer) x.f_is_integer.F (C8.fnScope_by (by decide +kernel)) rfl fun cdv A outer s H E ck =>
  (ss_one (s_ret (e_and (e_isi (u := .type "int") rfl x.is_int.ok (.ty _) (pe_bltn (v := .ty "int") rfl x.n_int (by decide +kernel) rfl) x.n_isinstance (eb (e_var (i := 0)))) (e_and1 (e_not (eb (e_isi (u := .type "bool") rfl x.is_bool.ok (.ty _) (pe_bltn (v := .ty "bool") rfl x.n_bool (by decide +kernel) rfl) x.n_isinstance (eb (e_var (i := 0))))))))))
theorem nd_is_number : (["value"] : List Str).Nodup := by decide +kernel
theorem ok_is_number (x : Fx K mg C) : FnG PySem.Challenge.pw_rueless_k75_wants_walked_and_written w x.T.K mg base 2 x.f_is_number.f x.f_is_number.fd ["value"] (spD x.T 1 d_is_number) :=
  fn_g (N := ["value"]) (k := 1) (g := m_is_number) x.f_is_number.F (C8.fnScope_by (by decide +kernel)) rfl fun cdv A outer s H E ck =>
  (ss_one (s_ret (e_and (e_call ((ok_is_integer x).mono (by decide)) ck x.f_is_integer.g x.f_is_integer.F.kp x.f_is_integer.B (a_cons (e_var (i := 0)) a_nil)) (e_and1 (e_cmp o_ge op_ge (by rfl) (eb (e_var (i := 0))) (eb e_int))))))
theorem nd_is_number_below : (["value", "bound"] : List Str).Nodup := by decide +kernel
theorem ok_is_number_below (x : Fx K mg C) : FnG PySem.Challenge.pw_rueless_k75_wants_walked_and_written w x.T.K mg base 3 x.f_is_number_below.f x.f_is_number_below.fd ["value", "bound"] (spD x.T 2 d_is_number_below) :=
  fn_g (N := ["value", "bound"]) (k := 2) (g := m_is_number_below) x.f_is_number_below.F (C8.fnScope_by (by decide +kernel)) rfl fun cdv A outer s H E ck =>
  (ss_one (s_ret (e_and (e_call ((ok_is_number x).mono (by decide)) ck x.f_is_number.g x.f_is_number.F.kp x.f_is_number.B (a_cons (e_var (i := 0)) a_nil)) (e_and1 (e_cmp o_lt op_lt (by rfl) (eb (e_var (i := 0))) (eb (e_var (i := 1))))))))
theorem nd_is_sequence : (["value"] : List Str).Nodup := by decide +kernel
theorem ok_is_sequence (x : Fx K mg C) : FnG PySem.Challenge.pw_rueless_k75_wants_walked_and_written w x.T.K mg base 1 x.f_is_sequence.f x.f_is_sequence.fd ["value"] (spD x.T 1 d_is_sequence) :=
  fn_g (N := ["value"]) (k := 0) (g := m_is_sequence) x.f_is_sequence.F (C8.fnScope_by (by decide +kernel)) rfl fun cdv A outer s H E ck =>
  (ss_one (s_ret (e_isiT (cs := [.ty "list", .ty "tuple"]) (us := [.type "list", .type "tuple"]) rfl x.is_list_tuple.ok (.cons (.ty _) (.cons (.ty _) .nil)) (by decide) (pa_cons (pe_bltn (v := .ty "list") rfl x.n_list (by decide +kernel) rfl) (pa_cons (pe_bltn (v := .ty "tuple") rfl x.n_tuple (by decide +kernel) rfl) pa_nil rfl) rfl) (fun _ _ _ q => q) x.n_isinstance (eb (e_var (i := 0))))))
theorem nd_is_room : (["value", "rooms", "places", "pair", "at"] : List Str).Nodup := by decide +kernel
theorem ok_is_room (x : Fx K mg C) : FnG PySem.Challenge.pw_rueless_k75_wants_walked_and_written w x.T.K mg base 4 x.f_is_room.f x.f_is_room.fd ["value", "rooms"] (spD x.T 2 d_is_room) :=
  fn_g (N := ["value", "rooms", "places", "pair", "at"]) (k := 3) (g := m_is_room) x.f_is_room.F (C8.fnScope_by (by decide +kernel)) rfl fun cdv A outer s H E ck =>
  (ss_cons (s_if (c_not (c_tru (eb (e_call ((ok_is_sequence x).mono (by decide)) ck x.f_is_sequence.g x.f_is_sequence.F.kp x.f_is_sequence.B (a_cons (e_var (i := 0)) a_nil)))))
  (ss_one (s_ret e_bl))
  ss_nil)
  (ss_cons (s_own (i := 2) nd_is_room (l_lst a_nil))
  (ss_cons (s_for ck.po rfl (i_seqF (e_var (i := 0))) (t_nm (i := 3) nd_is_room)
  (ss_cons (s_if (c_w (c_or (c_not (c_tru (eb (e_call ((ok_is_sequence x).mono (by decide)) ck x.f_is_sequence.g x.f_is_sequence.F.kp x.f_is_sequence.B (a_cons (e_var (i := 3)) a_nil))))) (c_or1 (c_cmpB o_ne (or_ne ck.u) (by rfl) (eb (e_bi b_len (cr_len rfl) x.n_len PySem.boot_len (ab_cons (eb (e_var (i := 3))) ab_nil))) (eb e_int)))))
  (ss_one (s_ret e_bl))
  ss_nil)
  (ss_cons (s_if (c_w (c_or (c_not (c_tru (eb (e_call ((ok_is_letter_of x).mono (by decide)) ck x.f_is_letter_of.g x.f_is_letter_of.F.kp x.f_is_letter_of.B (a_cons (e_ix o_ix (or_ix ck.u) (eb (e_var (i := 3))) (eb e_int)) (a_cons (e_gstr x.c_LETTERS) a_nil)))))) (c_or1 (c_not (c_tru (eb (e_call ((ok_is_number_below x).mono (by decide)) ck x.f_is_number_below.g x.f_is_number_below.F.kp x.f_is_number_below.B (a_cons (e_ix o_ix (or_ix ck.u) (eb (e_var (i := 3))) (eb e_int)) (a_cons (e_var (i := 1)) a_nil)))))))))
  (ss_one (s_ret e_bl))
  ss_nil)
  (ss_one (s_app (i := 2) (e_sidx (e_gstr x.c_LETTERS) (eb (e_ix o_ix (or_ix ck.u) (eb (e_var (i := 3))) (eb e_int)))) rfl)))))
  (ss_one (s_ret (e_bi b_all (cr_allD rfl rfl) x.n_all (by decide +kernel) (ab_cons (eb (e_fz (l_lc (own := [("at", 4)]) rfl nd_is_room (i_b (i_rng1 (e_bin o_sub op_sub (eb (e_bi b_len (cr_len rfl) x.n_len PySem.boot_len (ab_cons (b_var (i := 2)) ab_nil))) (eb e_int)) x.n_range)) (blkOk_by (by kernel_rfl)) (by decide) ⟨_, (fun s1 h1 c1 l1 p1 => (pg_name (i := 4) nd_is_room rfl (by first | exact Or.inl rfl | exact Or.inr rfl) (by first | exact .inl rfl | exact .inr rfl))), tgs_nm⟩ (fun s1 h1 c1 l1 p1 => tests_nil) (fun s1 h1 c1 l1 p1 => (e_cmp o_lt op_lt (by rfl) (eb (e_ix o_ix (or_ix ((Cok.blk ck s1 h1 c1 l1 p1)).u) (b_var (i := 2)) (eb (e_var (i := 4))))) (eb (e_ix o_ix (or_ix ((Cok.blk ck s1 h1 c1 l1 p1)).u) (b_var (i := 2)) (eb (e_bin o_add (or_add ((Cok.blk ck s1 h1 c1 l1 p1)).u) (eb (e_var (i := 4))) (eb e_int)))))))))) ab_nil)))))))
theorem nd_Wants___init__ : (["self", "ways", "at", "room"] : List Str).Nodup := by decide +kernel
theorem ok_Wants___init__ (x : Fx K mg C) : FnG PySem.Challenge.pw_rueless_k75_wants_walked_and_written w x.T.K mg base 5 x.f_Wants___init__.f x.f_Wants___init__.fd ["self", "ways"] (spD x.T 2 d_Wants___init__) :=
  fn_g (N := ["self", "ways", "at", "room"]) (k := 4) (g := m_Wants___init__) x.f_Wants___init__.F (C8.fnScope_by (by decide +kernel)) rfl fun cdv A outer s H E ck =>
  (ss_cons (s_if (c_w (c_or (c_not (c_tru (eb (e_call ((ok_is_sequence x).mono (by decide)) ck x.f_is_sequence.g x.f_is_sequence.F.kp x.f_is_sequence.B (a_cons (e_var (i := 1)) a_nil))))) (c_or1 (c_not (c_chain o_lt op_lt o_le op_le (eb e_int) (eb (e_bi b_len (cr_len rfl) x.n_len PySem.boot_len (ab_cons (eb (e_var (i := 1))) ab_nil))) (eb (e_gint x.c_TYPED_ROOMS)))))))
  (ss_one (s_raise ck x.er_BadWants.E (by decide) rfl (ks_ok (ns := names) (by decide +kernel)) (a_cons (e_neg e_int) a_nil)))
  ss_nil)
  (ss_cons (s_for ck.po rfl (i_enu (e_var (i := 1)) x.n_enumerate) (t_tp rfl (ts_cons (t_nm (i := 2) nd_Wants___init__) (ts_cons (t_nm (i := 3) nd_Wants___init__) ts_nil)))
  (ss_one (s_if (c_not (c_tru (eb (e_call ((ok_is_room x).mono (by decide)) ck x.f_is_room.g x.f_is_room.F.kp x.f_is_room.B (a_cons (e_var (i := 3)) (a_cons (e_bi b_len (cr_len rfl) x.n_len PySem.boot_len (ab_cons (eb (e_var (i := 1))) ab_nil)) a_nil))))))
  (ss_one (s_raise ck x.er_BadWants.E (by decide) rfl (ks_ok (ns := names) (by decide +kernel)) (a_cons (e_var (i := 2)) a_nil)))
  ss_nil)))
  (ss_one (s_exp (e_meth names_nd rfl ((ok_Wants_take_ways x).mono (by decide)) ck x.k_Wants.cl x.f_Wants_take_ways.m x.f_Wants_take_ways.B (e_var (i := 0)) (a_cons (e_var (i := 1)) a_nil))))))
theorem nd_Wants_after : (["self", "room", "letter", "sign", "further"] : List Str).Nodup := by decide +kernel
theorem ok_Wants_after (x : Fx K mg C) : FnG PySem.Challenge.pw_rueless_k75_wants_walked_and_written w x.T.K mg base 4 x.f_Wants_after.f x.f_Wants_after.fd ["self", "room", "letter"] (spD x.T 3 d_Wants_after) :=
  fn_g (N := ["self", "room", "letter", "sign", "further"]) (k := 3) (g := m_Wants_after) x.f_Wants_after.F (C8.fnScope_by (by decide +kernel)) rfl fun cdv A outer s H E ck =>
  (ss_cons (s_if (c_not (c_tru (eb (e_call ((ok_is_number_below x).mono (by decide)) ck x.f_is_number_below.g x.f_is_number_below.F.kp x.f_is_number_below.B (a_cons (e_var (i := 1)) (a_cons (e_fld names_nd rfl (forall_c1 ⟨x.k_Wants.cl, x.na_Wants_rooms⟩) (e_var (i := 0))) a_nil))))))
  (ss_one (s_raise ck x.er_NoRoom.E (by decide) rfl (ks_ok (ns := names) (by decide +kernel)) (a_cons (e_var (i := 1)) a_nil)))
  ss_nil)
  (ss_cons (s_for ck.po rfl (i_seqF (e_ix o_ix (or_ix ck.u) (eb (e_fld names_nd rfl (forall_c1 ⟨x.k_Wants.cl, x.na_Wants_ways⟩) (e_var (i := 0)))) (eb (e_var (i := 1))))) (t_tp rfl (ts_cons (t_nm (i := 3) nd_Wants_after) (ts_cons (t_nm (i := 4) nd_Wants_after) ts_nil)))
  (ss_one (s_if (c_cmpB o_eq (or_eq ck.u) (by rfl) (eb (e_var (i := 3))) (eb (e_var (i := 2))))
  (ss_one (s_ret (e_var (i := 4))))
  ss_nil)))
  (ss_one (s_ret e_non))))
theorem nd_Wants_letters_at : (["self", "room", "letter", "further"] : List Str).Nodup := by decide +kernel
theorem ok_Wants_letters_at (x : Fx K mg C) : FnG PySem.Challenge.pw_rueless_k75_wants_walked_and_written w x.T.K mg base 4 x.f_Wants_letters_at.f x.f_Wants_letters_at.fd ["self", "room"] (spD x.T 2 d_Wants_letters_at) :=
  fn_g (N := ["self", "room", "letter", "further"]) (k := 3) (g := m_Wants_letters_at) x.f_Wants_letters_at.F (C8.fnScope_by (by decide +kernel)) rfl fun cdv A outer s H E ck =>
  (ss_cons (s_if (c_not (c_tru (eb (e_call ((ok_is_number_below x).mono (by decide)) ck x.f_is_number_below.g x.f_is_number_below.F.kp x.f_is_number_below.B (a_cons (e_var (i := 1)) (a_cons (e_fld names_nd rfl (forall_c1 ⟨x.k_Wants.cl, x.na_Wants_rooms⟩) (e_var (i := 0))) a_nil))))))
  (ss_one (s_raise ck x.er_NoRoom.E (by decide) rfl (ks_ok (ns := names) (by decide +kernel)) (a_cons (e_var (i := 1)) a_nil)))
  ss_nil)
  (ss_one (s_ret (e_join e_str (eb (e_fz (l_lc (own := [("letter", 2), ("further", 3)]) rfl nd_Wants_letters_at (i_seq (eb (e_ix o_ix (or_ix ck.u) (eb (e_fld names_nd rfl (forall_c1 ⟨x.k_Wants.cl, x.na_Wants_ways⟩) (e_var (i := 0)))) (eb (e_var (i := 1)))))) (blkOk_by (by kernel_rfl)) (by decide) ⟨_, (fun s1 h1 c1 l1 p1 => (pg_tup (n := 2) rfl (pgs_cons (pg_name (i := 2) nd_Wants_letters_at rfl (by first | exact Or.inl rfl | exact Or.inr rfl) (by first | exact .inl rfl | exact .inr rfl)) (pgs_cons (pg_name (i := 3) nd_Wants_letters_at rfl (by first | exact Or.inl rfl | exact Or.inr rfl) (by first | exact .inl rfl | exact .inr rfl)) pgs_nil rfl) rfl) rfl rfl)), (tgs_tp (tgss_cons tgs_nm (tgss_cons tgs_nm tgss_nil)))⟩ (fun s1 h1 c1 l1 p1 => tests_nil) (fun s1 h1 c1 l1 p1 => (e_var (i := 2))))))))))
theorem nd_read_pairs : (["text", "part", "pairs", "numbers", "words", "number"] : List Str).Nodup := by decide +kernel
theorem ok_read_pairs (x : Fx K mg C) : FnG PySem.Challenge.pw_rueless_k75_wants_walked_and_written w x.T.K mg base 1 x.f_read_pairs.f x.f_read_pairs.fd ["text"] (spD x.T 1 d_read_pairs) :=
  fn_g (N := ["text", "part", "pairs", "numbers", "words", "number"]) (k := 0) (g := m_read_pairs) x.f_read_pairs.F (C8.fnScope_by (by decide +kernel)) rfl fun cdv A outer s H E ck =>
  (ss_cons (s_if (c_cmpB o_eq (or_eq ck.u) (by rfl) (eb (e_var (i := 0))) (eb e_str))
  (ss_one (s_ret (e_tup a_nil)))
  ss_nil)
  (ss_cons (s_par2o (i := 2) (j := 3) nd_read_pairs rfl (l_lst a_nil) (e_fz (l_lc (own := [("number", 5)]) rfl nd_read_pairs (i_b (i_rng1 (e_gint x.c_TYPED_ROOMS) x.n_range)) (blkOk_by (by kernel_rfl)) (by decide) ⟨_, (fun s1 h1 c1 l1 p1 => (pg_name (i := 5) nd_read_pairs rfl (by first | exact Or.inl rfl | exact Or.inr rfl) (by first | exact .inl rfl | exact .inr rfl))), tgs_nm⟩ (fun s1 h1 c1 l1 p1 => tests_nil) (fun s1 h1 c1 l1 p1 => (e_ty b_str cr_str x.n_str (by decide +kernel) (ab_cons (eb (e_var (i := 5))) ab_nil))))) (by decide))
  (ss_cons (s_for ck.po rfl (i_seqF (e_fz (l_split (e_var (i := 0)) (eb e_str)))) (t_nm (i := 1) nd_read_pairs)
  (ss_cons (s_set (i := 4) nd_read_pairs (e_fz (l_split (e_var (i := 1)) (eb e_str))))
  (ss_cons (s_if (c_w (c_or (c_cmpB o_ne (or_ne ck.u) (by rfl) (eb (e_bi b_len (cr_len rfl) x.n_len PySem.boot_len (ab_cons (eb (e_var (i := 4))) ab_nil))) (eb e_int)) (c_or1 (c_cmpB o_nin (or_nin ck.u) (by rfl) (eb (e_ix o_ix (or_ix ck.u) (eb (e_var (i := 4))) (eb e_int))) (eb (e_var (i := 3)))))))
  (ss_one (s_ret e_non))
  ss_nil)
  (ss_one (s_app (i := 2) (e_tup (a_cons (e_ix o_ix (or_ix ck.u) (eb (e_var (i := 4))) (eb e_int)) (a_cons (e_lidx (eb (e_var (i := 3))) (e_ix o_ix (or_ix ck.u) (eb (e_var (i := 4))) (eb e_int))) a_nil))) rfl)))))
  (ss_one (s_ret (e_ty b_tup (cr_tup rfl) x.n_tuple (by decide +kernel) (ab_cons (b_var (i := 2)) ab_nil)))))))
theorem nd_Wants_parse : (["text", "rows", "steps", "at", "row", "head", "pairs"] : List Str).Nodup := by decide +kernel
theorem ok_Wants_parse (x : Fx K mg C) : FnG PySem.Challenge.pw_rueless_k75_wants_walked_and_written w x.T.K mg base 7 x.f_Wants_parse.f x.f_Wants_parse.fd ["text"] (spD x.T 1 d_Wants_parse) :=
  fn_g (N := ["text", "rows", "steps", "at", "row", "head", "pairs"]) (k := 6) (g := m_Wants_parse) x.f_Wants_parse.F (C8.fnScope_by (by decide +kernel)) rfl fun cdv A outer s H E ck =>
  (ss_cons (s_if (c_not (c_tru (eb (e_call ((ok_is_text x).mono (by decide)) ck x.f_is_text.g x.f_is_text.F.kp x.f_is_text.B (a_cons (e_var (i := 0)) a_nil)))))
  (ss_one (s_raise ck x.er_BadText.E (by decide) rfl (ks_ok (ns := names) (by decide +kernel)) (a_cons e_int a_nil)))
  ss_nil)
  (ss_cons (s_set (i := 1) nd_Wants_parse (e_fz (l_split (e_var (i := 0)) (eb e_str))))
  (ss_cons (s_own (i := 2) nd_Wants_parse (l_lst a_nil))
  (ss_cons (s_for ck.po rfl (i_enu (e_var (i := 1)) x.n_enumerate) (t_tp rfl (ts_cons (t_nm (i := 3) nd_Wants_parse) (ts_cons (t_nm (i := 4) nd_Wants_parse) ts_nil)))
  (ss_cons (s_set (i := 5) nd_Wants_parse (e_bin o_add (or_add ck.u) (eb (e_ty b_str cr_str x.n_str (by decide +kernel) (ab_cons (eb (e_var (i := 3))) ab_nil))) (eb e_str)))
  (ss_cons (s_if (c_w (c_or (c_not (c_tru (eb (e_starts (e_var (i := 4)) (eb (e_var (i := 5))))))) (c_or1 (c_cmpB o_ge op_ge (by rfl) (eb (e_var (i := 3))) (eb (e_gint x.c_TYPED_ROOMS))))))
  (ss_one (s_raise ck x.er_BadText.E (by decide) rfl (ks_ok (ns := names) (by decide +kernel)) (a_cons (e_bin o_add (or_add ck.u) (eb (e_var (i := 3))) (eb e_int)) a_nil)))
  ss_nil)
  (ss_cons (s_set (i := 6) nd_Wants_parse (e_call ((ok_read_pairs x).mono (by decide)) ck x.f_read_pairs.g x.f_read_pairs.F.kp x.f_read_pairs.B (a_cons (e_cut (eb (e_var (i := 4))) (p_some (e_bi b_len (cr_len rfl) x.n_len PySem.boot_len (ab_cons (eb (e_var (i := 5))) ab_nil))) p_none) a_nil)))
  (ss_cons (s_if (c_w (c_or (c_cmpB o_is or_is (by rfl) (eb (e_var (i := 6))) (eb e_non)) (c_or1 (c_not (c_tru (eb (e_call ((ok_is_room x).mono (by decide)) ck x.f_is_room.g x.f_is_room.F.kp x.f_is_room.B (a_cons (e_var (i := 6)) (a_cons (e_bi b_len (cr_len rfl) x.n_len PySem.boot_len (ab_cons (eb (e_var (i := 1))) ab_nil)) a_nil)))))))))
  (ss_one (s_raise ck x.er_BadText.E (by decide) rfl (ks_ok (ns := names) (by decide +kernel)) (a_cons (e_bin o_add (or_add ck.u) (eb (e_var (i := 3))) (eb e_int)) a_nil)))
  ss_nil)
  (ss_one (s_app (i := 2) (e_var (i := 6)) rfl)))))))
  (ss_one (s_frz 2 (s_ret (e_make x.f_Wants___init__.M ((ok_Wants___init__ x).mono (by decide)) ck x.g_Wants x.f_Wants___init__.B (a_cons (e_var (i := 2)) a_nil)))))))))
theorem nd_Wants_text : (["self", "rows", "at", "pairs", "told", "letter", "room"] : List Str).Nodup := by decide +kernel
theorem ok_Wants_text (x : Fx K mg C) : FnG PySem.Challenge.pw_rueless_k75_wants_walked_and_written w x.T.K mg base 1 x.f_Wants_text.f x.f_Wants_text.fd ["self"] (spD x.T 1 d_Wants_text) :=
  fn_g (N := ["self", "rows", "at", "pairs", "told", "letter", "room"]) (k := 0) (g := m_Wants_text) x.f_Wants_text.F (C8.fnScope_by (by decide +kernel)) rfl fun cdv A outer s H E ck =>
  (ss_cons (s_own (i := 1) nd_Wants_text (l_lst a_nil))
  (ss_cons (s_for ck.po rfl (i_enu (e_fld names_nd rfl (forall_c1 ⟨x.k_Wants.cl, x.na_Wants_ways⟩) (e_var (i := 0))) x.n_enumerate) (t_tp rfl (ts_cons (t_nm (i := 2) nd_Wants_text) (ts_cons (t_nm (i := 3) nd_Wants_text) ts_nil)))
  (ss_cons (s_set (i := 4) nd_Wants_text (e_join e_str (eb (e_fz (l_lc (own := [("letter", 5), ("room", 6)]) rfl nd_Wants_text (i_seq (eb (e_var (i := 3)))) (blkOk_by (by kernel_rfl)) (by decide) ⟨_, (fun s1 h1 c1 l1 p1 => (pg_tup (n := 2) rfl (pgs_cons (pg_name (i := 5) nd_Wants_text rfl (by first | exact Or.inl rfl | exact Or.inr rfl) (by first | exact .inl rfl | exact .inr rfl)) (pgs_cons (pg_name (i := 6) nd_Wants_text rfl (by first | exact Or.inl rfl | exact Or.inr rfl) (by first | exact .inl rfl | exact .inr rfl)) pgs_nil rfl) rfl) rfl rfl)), (tgs_tp (tgss_cons tgs_nm (tgss_cons tgs_nm tgss_nil)))⟩ (fun s1 h1 c1 l1 p1 => tests_nil) (fun s1 h1 c1 l1 p1 => (e_bin o_add (or_add ((Cok.blk ck s1 h1 c1 l1 p1)).u) (eb (e_bin o_add (or_add ((Cok.blk ck s1 h1 c1 l1 p1)).u) (eb (e_var (i := 5))) (eb e_str))) (eb (e_ty b_str cr_str x.n_str (by decide +kernel) (ab_cons (eb (e_var (i := 6))) ab_nil))))))))))
  (ss_one (s_app (i := 1) (e_bin o_add (or_add ck.u) (eb (e_bin o_add (or_add ck.u) (eb (e_ty b_str cr_str x.n_str (by decide +kernel) (ab_cons (eb (e_var (i := 2))) ab_nil))) (eb e_str))) (eb (e_if (c_tru (eb (e_var (i := 3)))) (e_var (i := 4)) e_str))) rfl))))
  (ss_one (s_ret (e_join e_str (b_var (i := 1)))))))
theorem nd__law_take : (["box", "many", "raw", "digit"] : List Str).Nodup := by decide +kernel
theorem ok__law_take (x : Fx K mg C) : FnG PySem.Challenge.pw_rueless_k75_wants_walked_and_written w x.T.K mg base 1 x.f__law_take.f x.f__law_take.fd ["box", "many"] (spD x.T 2 d__law_take) :=
  fn_g (N := ["box", "many", "raw", "digit"]) (k := 0) (g := m__law_take) x.f__law_take.F (C8.fnScope_by (by decide +kernel)) rfl fun cdv A outer s H E ck =>
  (ss_cons (s_if (c_cmpB o_gt op_gt (by rfl) (eb (e_ix o_ix (or_ix ck.u) (eb (e_var (i := 0))) (eb e_int))) (eb e_int))
  (ss_cons (s_set (i := 3) nd__law_take (e_bin o_mod op_mod (eb (e_ty b_int call_int1 x.n_int (by decide +kernel) (ab_cons (eb (e_ix o_ix (or_ix ck.u) (eb (e_var (i := 0))) (eb e_int))) ab_nil))) (eb (e_var (i := 1)))))
  (ss_cons (pg_ixR (e_var (i := 0)) e_int (e_bin o_fdv op_fdivW (eb (e_ix o_ix (or_ix ck.u) (eb (e_var (i := 0))) (eb e_int))) (eb (e_var (i := 1)))))
  (ss_one (s_ret (e_var (i := 3))))))
  ss_nil)
  (ss_cons (s_set (i := 2) nd__law_take (e_bin o_mod op_mod (eb (e_ty b_int call_int1 x.n_int (by decide +kernel) (ab_cons (eb (e_bin o_add (or_add ck.u) (eb (e_bin o_mul or_mul (eb (e_ix o_ix (or_ix ck.u) (eb (e_var (i := 0))) (eb e_int))) (eb e_int))) (eb e_int))) ab_nil))) (eb e_int)))
  (ss_cons (pg_ixR (e_var (i := 0)) e_int (e_bin o_add (or_add ck.u) (eb (e_bin o_mod op_mod (eb (e_ty b_int call_int1 x.n_int (by decide +kernel) (ab_cons (eb (e_bin o_add (or_add ck.u) (eb (e_bin o_mul or_mul (eb (e_var (i := 2))) (eb e_int))) (eb e_int))) ab_nil))) (eb e_int))) (eb e_int)))
  (ss_one (s_ret (e_bin o_mod op_mod (eb (e_ty b_int call_int1 x.n_int (by decide +kernel) (ab_cons (eb (e_bin o_fdv op_fdivW (eb (e_bin o_add (or_add ck.u) (eb (e_bin o_mul or_mul (eb (e_var (i := 2))) (eb e_int))) (eb (e_ix o_ix (or_ix ck.u) (eb (e_var (i := 0))) (eb e_int))))) (eb e_int))) ab_nil))) (eb (e_var (i := 1)))))))))
theorem nd__law_pick : (["box", "some"] : List Str).Nodup := by decide +kernel
theorem ok__law_pick (x : Fx K mg C) : FnG PySem.Challenge.pw_rueless_k75_wants_walked_and_written w x.T.K mg base 2 x.f__law_pick.f x.f__law_pick.fd ["box", "some"] (spD x.T 2 d__law_pick) :=
  fn_g (N := ["box", "some"]) (k := 1) (g := m__law_pick) x.f__law_pick.F (C8.fnScope_by (by decide +kernel)) rfl fun cdv A outer s H E ck =>
  (ss_one (s_ret (e_ix o_ix (or_ix ck.u) (eb (e_var (i := 1))) (eb (e_call ((ok__law_take x).mono (by decide)) ck x.f__law_take.g x.f__law_take.F.kp x.f__law_take.B (a_cons (e_var (i := 0)) (a_cons (e_bi b_len (cr_len rfl) x.n_len PySem.boot_len (ab_cons (eb (e_var (i := 1))) ab_nil)) a_nil)))))))
theorem nd__law_bent : (["box", "steps", "at", "rooms", "pairs", "form"] : List Str).Nodup := by decide +kernel
theorem ok__law_bent (x : Fx K mg C) : FnG PySem.Challenge.pw_rueless_k75_wants_walked_and_written w x.T.K mg base 3 x.f__law_bent.f x.f__law_bent.fd ["box", "steps", "at"] (spD x.T 3 d__law_bent) :=
  fn_g (N := ["box", "steps", "at", "rooms", "pairs", "form"]) (k := 2) (g := m__law_bent) x.f__law_bent.F (C8.fnScope_by (by decide +kernel)) rfl fun cdv A outer s H E ck =>
  (ss_cons (s_set (i := 3) nd__law_bent (e_bi b_len (cr_len rfl) x.n_len PySem.boot_len (ab_cons (eb (e_var (i := 1))) ab_nil)))
  (ss_cons (s_set (i := 4) nd__law_bent (e_ix o_ix (or_ix ck.u) (eb (e_var (i := 1))) (eb (e_var (i := 2)))))
  (ss_cons (s_set (i := 5) nd__law_bent (e_call ((ok__law_take x).mono (by decide)) ck x.f__law_take.g x.f__law_take.F.kp x.f__law_take.B (a_cons (e_var (i := 0)) (a_cons e_int a_nil))))
  (ss_cons (s_if (c_cmpB o_eq (or_eq ck.u) (by rfl) (eb (e_var (i := 5))) (eb e_int))
  (ss_one (s_ret (e_bin o_add (or_add ck.u) (eb (e_bin o_add (or_add ck.u) (eb (e_cut (eb (e_var (i := 1))) p_none (p_some (e_var (i := 2))))) (eb (e_fz (l_lst (a_cons (e_bin o_add (or_add ck.u) (eb (e_var (i := 4))) (eb (e_fz (l_lst (a_cons (e_tup (a_cons e_str (a_cons (e_var (i := 3)) a_nil))) a_nil))))) a_nil)))))) (eb (e_cut (eb (e_var (i := 1))) (p_some (e_bin o_add (or_add ck.u) (eb (e_var (i := 2))) (eb e_int))) p_none)))))
  ss_nil)
  (ss_cons (s_if (c_cmpB o_eq (or_eq ck.u) (by rfl) (eb (e_var (i := 5))) (eb e_int))
  (ss_one (s_ret (e_bin o_add (or_add ck.u) (eb (e_bin o_add (or_add ck.u) (eb (e_cut (eb (e_var (i := 1))) p_none (p_some (e_var (i := 2))))) (eb (e_fz (l_lst (a_cons (e_bin o_add (or_add ck.u) (eb (e_fz (l_lst (a_cons (e_tup (a_cons e_str (a_cons e_int a_nil))) a_nil)))) (eb (e_fz (l_lst (a_cons (e_tup (a_cons e_str (a_cons e_int a_nil))) a_nil))))) a_nil)))))) (eb (e_cut (eb (e_var (i := 1))) (p_some (e_bin o_add (or_add ck.u) (eb (e_var (i := 2))) (eb e_int))) p_none)))))
  ss_nil)
  (ss_cons (s_if (c_cmpB o_eq (or_eq ck.u) (by rfl) (eb (e_var (i := 5))) (eb e_int))
  (ss_one (s_ret (e_bin o_add (or_add ck.u) (eb (e_bin o_add (or_add ck.u) (eb (e_cut (eb (e_var (i := 1))) p_none (p_some (e_var (i := 2))))) (eb (e_fz (l_lst (a_cons (e_fz (l_lst (a_cons (e_tup (a_cons e_str (a_cons e_int a_nil))) (a_cons (e_tup (a_cons e_str (a_cons (e_bin o_sub op_sub (eb (e_var (i := 3))) (eb e_int)) a_nil))) a_nil)))) a_nil)))))) (eb (e_cut (eb (e_var (i := 1))) (p_some (e_bin o_add (or_add ck.u) (eb (e_var (i := 2))) (eb e_int))) p_none)))))
  ss_nil)
  (ss_cons (s_if (c_cmpB o_eq (or_eq ck.u) (by rfl) (eb (e_var (i := 5))) (eb e_int))
  (ss_one (s_ret (e_bin o_add (or_add ck.u) (eb (e_bin o_add (or_add ck.u) (eb (e_cut (eb (e_var (i := 1))) p_none (p_some (e_var (i := 2))))) (eb (e_fz (l_lst (a_cons (e_fz (l_lst (a_cons (e_tup (a_cons e_str (a_cons e_int a_nil))) (a_cons (e_tup (a_cons e_str (a_cons e_int a_nil))) a_nil)))) a_nil)))))) (eb (e_cut (eb (e_var (i := 1))) (p_some (e_bin o_add (or_add ck.u) (eb (e_var (i := 2))) (eb e_int))) p_none)))))
  ss_nil)
  (ss_cons (s_if (c_cmpB o_eq (or_eq ck.u) (by rfl) (eb (e_var (i := 5))) (eb e_int))
  (ss_one (s_ret (e_bin o_add (or_add ck.u) (eb (e_bin o_add (or_add ck.u) (eb (e_cut (eb (e_var (i := 1))) p_none (p_some (e_var (i := 2))))) (eb (e_fz (l_lst (a_cons (e_call ((ok__law_pick x).mono (by decide)) ck x.f__law_pick.g x.f__law_pick.F.kp x.f__law_pick.B (a_cons (e_var (i := 0)) (a_cons (e_fz (l_lst (a_cons e_non (a_cons e_str (a_cons e_int (a_cons (e_fz (l_lst (a_cons (e_tup (a_cons e_str a_nil)) a_nil))) (a_cons (e_fz (l_lst (a_cons (e_tup (a_cons e_str (a_cons e_int a_nil))) a_nil))) (a_cons (e_fz (l_lst (a_cons (e_tup (a_cons e_str (a_cons e_int a_nil))) a_nil))) (a_cons (e_fz (l_lst (a_cons (e_tup (a_cons e_int (a_cons e_int a_nil))) a_nil))) (a_cons (e_fz (l_lst (a_cons (e_tup (a_cons e_str (a_cons e_bl a_nil))) a_nil))) a_nil)))))))))) a_nil))) a_nil)))))) (eb (e_cut (eb (e_var (i := 1))) (p_some (e_bin o_add (or_add ck.u) (eb (e_var (i := 2))) (eb e_int))) p_none)))))
  ss_nil)
  (ss_cons (s_if (c_cmpB o_eq (or_eq ck.u) (by rfl) (eb (e_var (i := 5))) (eb e_int))
  (ss_one (s_ret (e_bin o_add (or_add ck.u) (eb (e_bin o_add (or_add ck.u) (eb (e_cut (eb (e_var (i := 1))) p_none (p_some (e_var (i := 2))))) (eb (e_fz (l_lst (a_cons (e_fz (l_lst (a_cons (e_tup (a_cons e_str (a_cons (e_bin o_sub op_sub (eb e_int) (eb e_int)) a_nil))) a_nil))) a_nil)))))) (eb (e_cut (eb (e_var (i := 1))) (p_some (e_bin o_add (or_add ck.u) (eb (e_var (i := 2))) (eb e_int))) p_none)))))
  ss_nil)
  (ss_one (s_ret (e_bin o_add (or_add ck.u) (eb (e_bin o_add (or_add ck.u) (eb (e_cut (eb (e_var (i := 1))) p_none (p_some (e_var (i := 2))))) (eb (e_fz (l_lst (a_cons (e_fz (l_lst (a_cons (e_tup (a_cons e_str (a_cons e_str a_nil))) a_nil))) a_nil)))))) (eb (e_cut (eb (e_var (i := 1))) (p_some (e_bin o_add (or_add ck.u) (eb (e_var (i := 2))) (eb e_int))) p_none))))))))))))))
theorem nd_is_any_row : (["value", "sign"] : List Str).Nodup := by decide +kernel
theorem ok_is_any_row (x : Fx K mg C) : FnG PySem.Challenge.pw_rueless_k75_wants_walked_and_written w x.T.K mg base 2 x.f_is_any_row.f x.f_is_any_row.fd ["value"] (spD x.T 1 d_is_any_row) :=
  fn_g (N := ["value", "sign"]) (k := 1) (g := m_is_any_row) x.f_is_any_row.F (C8.fnScope_by (by decide +kernel)) rfl fun cdv A outer s H E ck =>
  (ss_one (s_ret (e_and (e_call ((ok_is_text x).mono (by decide)) ck x.f_is_text.g x.f_is_text.F.kp x.f_is_text.B (a_cons (e_var (i := 0)) a_nil)) (e_and (e_cmp o_le op_le (by rfl) (eb (e_bi b_len (cr_len rfl) x.n_len PySem.boot_len (ab_cons (eb (e_var (i := 0))) ab_nil))) (eb (e_gint x.c_MOST_ROW))) (e_and1 (e_bi b_all (cr_allD rfl rfl) x.n_all (by decide +kernel) (ab_cons (eb (e_fz (l_lc (own := [("sign", 1)]) rfl nd_is_any_row (i_seq (eb (e_var (i := 0)))) (blkOk_by (by kernel_rfl)) (by decide) ⟨_, (fun s1 h1 c1 l1 p1 => (pg_name (i := 1) nd_is_any_row rfl (by first | exact Or.inl rfl | exact Or.inr rfl) (by first | exact .inl rfl | exact .inr rfl))), tgs_nm⟩ (fun s1 h1 c1 l1 p1 => tests_nil) (fun s1 h1 c1 l1 p1 => (e_cmp o_in (or_in ((Cok.blk ck s1 h1 c1 l1 p1)).u) (by rfl) (eb (e_var (i := 1))) (eb (e_gstr x.c_LETTERS))))))) ab_nil)))))))
theorem nd_Wants_room_of : (["self", "row", "room", "letter"] : List Str).Nodup := by decide +kernel
theorem ok_Wants_room_of (x : Fx K mg C) : FnG PySem.Challenge.pw_rueless_k75_wants_walked_and_written w x.T.K mg base 5 x.f_Wants_room_of.f x.f_Wants_room_of.fd ["self", "row"] (spD x.T 2 d_Wants_room_of) :=
  fn_g (N := ["self", "row", "room", "letter"]) (k := 4) (g := m_Wants_room_of) x.f_Wants_room_of.F (C8.fnScope_by (by decide +kernel)) rfl fun cdv A outer s H E ck =>
  (ss_cons (s_if (c_not (c_tru (eb (e_call ((ok_is_any_row x).mono (by decide)) ck x.f_is_any_row.g x.f_is_any_row.F.kp x.f_is_any_row.B (a_cons (e_var (i := 1)) a_nil)))))
  (ss_one (s_raise ck x.er_BadRow.E (by decide) rfl (ks_ok (ns := names) (by decide +kernel)) (a_cons e_int a_nil)))
  ss_nil)
  (ss_cons (s_set (i := 2) nd_Wants_room_of e_int)
  (ss_cons (s_for ck.po rfl (i_seqF (e_var (i := 1))) (t_nm (i := 3) nd_Wants_room_of)
  (ss_cons (s_set (i := 2) nd_Wants_room_of (e_meth names_nd rfl ((ok_Wants_after x).mono (by decide)) ck x.k_Wants.cl x.f_Wants_after.m x.f_Wants_after.B (e_var (i := 0)) (a_cons (e_var (i := 2)) (a_cons (e_var (i := 3)) a_nil))))
  (ss_one (s_if (c_cmpB o_is or_is (by rfl) (eb (e_var (i := 2))) (eb e_non))
  (ss_one (s_ret e_non))
  ss_nil))))
  (ss_one (s_ret (e_var (i := 2)))))))
theorem nd_Wants_wants_row : (["self", "value"] : List Str).Nodup := by decide +kernel
theorem ok_Wants_wants_row (x : Fx K mg C) : FnG PySem.Challenge.pw_rueless_k75_wants_walked_and_written w x.T.K mg base 6 x.f_Wants_wants_row.f x.f_Wants_wants_row.fd ["self", "value"] (spD x.T 2 d_Wants_wants_row) :=
  fn_g (N := ["self", "value"]) (k := 5) (g := m_Wants_wants_row) x.f_Wants_wants_row.F (C8.fnScope_by (by decide +kernel)) rfl fun cdv A outer s H E ck =>
  (ss_one (s_ret (e_and (e_call ((ok_is_any_row x).mono (by decide)) ck x.f_is_any_row.g x.f_is_any_row.F.kp x.f_is_any_row.B (a_cons (e_var (i := 1)) a_nil)) (e_and1 (e_cmp o_nis or_nis (by rfl) (eb (e_meth names_nd rfl ((ok_Wants_room_of x).mono (by decide)) ck x.k_Wants.cl x.f_Wants_room_of.m x.f_Wants_room_of.B (e_var (i := 0)) (a_cons (e_var (i := 1)) a_nil))) (eb e_non))))))
theorem nd_Wants_row_count : (["self", "length", "counts", "turn", "pairs", "letter", "room"] : List Str).Nodup := by decide +kernel
theorem ok_Wants_row_count (x : Fx K mg C) : FnG PySem.Challenge.pw_rueless_k75_wants_walked_and_written w x.T.K mg base 4 x.f_Wants_row_count.f x.f_Wants_row_count.fd ["self", "length"] (spD x.T 2 d_Wants_row_count) :=
  fn_g (N := ["self", "length", "counts", "turn", "pairs", "letter", "room"]) (k := 3) (g := m_Wants_row_count) x.f_Wants_row_count.F (C8.fnScope_by (by decide +kernel)) rfl fun cdv A outer s H E ck =>
  (ss_cons (s_if (c_not (c_tru (eb (e_call ((ok_is_number_below x).mono (by decide)) ck x.f_is_number_below.g x.f_is_number_below.F.kp x.f_is_number_below.B (a_cons (e_var (i := 1)) (a_cons (e_bin o_add (or_add ck.u) (eb (e_gint x.c_MOST_ROW)) (eb e_int)) a_nil))))))
  (ss_one (s_raise ck x.er_Refused.E (by decide) rfl (ks_ok (ns := names) (by decide +kernel)) (a_cons (e_var (i := 1)) a_nil)))
  ss_nil)
  (ss_cons (s_set (i := 2) nd_Wants_row_count (e_bin o_mul or_mul (eb (e_fz (l_lst (a_cons e_int a_nil)))) (eb (e_fld names_nd rfl (forall_c1 ⟨x.k_Wants.cl, x.na_Wants_rooms⟩) (e_var (i := 0))))))
  (ss_cons (s_for ck.po rfl (i_rng1 (e_var (i := 1)) x.n_range) (t_nm (i := 3) nd_Wants_row_count)
  (ss_one (s_set (i := 2) nd_Wants_row_count (e_fz (l_lc (own := [("pairs", 4)]) rfl nd_Wants_row_count (i_seq (eb (e_fld names_nd rfl (forall_c1 ⟨x.k_Wants.cl, x.na_Wants_ways⟩) (e_var (i := 0))))) (blkOk_by (by kernel_rfl)) (by decide) ⟨_, (fun s1 h1 c1 l1 p1 => (pg_name (i := 4) nd_Wants_row_count rfl (by first | exact Or.inl rfl | exact Or.inr rfl) (by first | exact .inl rfl | exact .inr rfl))), tgs_nm⟩ (fun s1 h1 c1 l1 p1 => tests_nil) (fun s1 h1 c1 l1 p1 => (e_bi b_sum (cr_sumD rfl rfl) x.n_sum (by decide +kernel) (ab_cons (eb (e_fz (l_lc (own := [("letter", 5), ("room", 6)]) rfl nd_Wants_row_count (i_seq (eb (e_var (i := 4)))) (blkOk_by (by kernel_rfl)) (by decide) ⟨_, (fun s2 h2 c2 l2 p2 => (pg_tup (n := 2) rfl (pgs_cons (pg_name (i := 5) nd_Wants_row_count rfl (by first | exact Or.inl rfl | exact Or.inr rfl) (by first | exact .inl rfl | exact .inr rfl)) (pgs_cons (pg_name (i := 6) nd_Wants_row_count rfl (by first | exact Or.inl rfl | exact Or.inr rfl) (by first | exact .inl rfl | exact .inr rfl)) pgs_nil rfl) rfl) rfl rfl)), (tgs_tp (tgss_cons tgs_nm (tgss_cons tgs_nm tgss_nil)))⟩ (fun s2 h2 c2 l2 p2 => tests_nil) (fun s2 h2 c2 l2 p2 => (e_ix o_ix (or_ix ((Cok.blk (Cok.blk ck s1 h1 c1 l1 p1) s2 h2 c2 l2 p2)).u) (eb (e_var (i := 2))) (eb (e_var (i := 6)))))))) ab_nil))))))))
  (ss_one (s_ret (e_ix o_ix (or_ix ck.u) (eb (e_var (i := 2))) (eb e_int)))))))
theorem nd__law_length_fault : (["wants", "value", "e"] : List Str).Nodup := by decide +kernel
theorem ok__law_length_fault (x : Fx K mg C) : FnG PySem.Challenge.pw_rueless_k75_wants_walked_and_written w x.T.K mg base 5 x.f__law_length_fault.f x.f__law_length_fault.fd ["wants", "value"] (spD x.T 2 d__law_length_fault) :=
  fn_g (N := ["wants", "value", "e"]) (k := 4) (g := m__law_length_fault) x.f__law_length_fault.F (C8.fnScope_by (by decide +kernel)) rfl fun cdv A outer s H E ck =>
  (ss_cons (s_tryAs (cs := [(1, false), (2, false), (3, false), (4, false), (5, true), (6, false)]) (i := 2) (c := (.ref (C 5))) ck nd__law_length_fault rfl rfl rfl rfl rfl ⟨rfl, by decide, .inl x.g_Refused⟩ x.ex__law_length_fault_Refused
  (fun W1 pn1 xe1 ck1 => (ss_one (s_exp (e_meth names_nd rfl ((ok_Wants_row_count x).mono (by decide)) ck1 x.k_Wants.cl x.f_Wants_row_count.m x.f_Wants_row_count.B (e_var (i := 0)) (a_cons (e_var (i := 1)) a_nil)))))
  (fun a oe cls d pn hz hf => (ss_one (s_ret (e_cmp o_eq (or_eq (Cok.su ck a ((a, oe) :: pn) ⟨a, cls, d⟩)) (by rfl) (eb (e_bi b_repr (cr_repr (Cok.su ck a ((a, oe) :: pn) ⟨a, cls, d⟩)) x.n_repr (by decide +kernel) (ab_cons (eb (e_exF names_nd rfl x.xf_Refused x.xn_Refused_at hz hf)) ab_nil))) (eb (e_bi b_repr (cr_repr (Cok.su ck a ((a, oe) :: pn) ⟨a, cls, d⟩)) x.n_repr (by decide +kernel) (ab_cons (eb (e_var (i := 1))) ab_nil))))))))
  (ss_one (s_ret e_bl)))
theorem nd__law_room_fault : (["wants", "value", "e"] : List Str).Nodup := by decide +kernel
theorem ok__law_room_fault (x : Fx K mg C) : FnG PySem.Challenge.pw_rueless_k75_wants_walked_and_written w x.T.K mg base 5 x.f__law_room_fault.f x.f__law_room_fault.fd ["wants", "value"] (spD x.T 2 d__law_room_fault) :=
  fn_g (N := ["wants", "value", "e"]) (k := 4) (g := m__law_room_fault) x.f__law_room_fault.F (C8.fnScope_by (by decide +kernel)) rfl fun cdv A outer s H E ck =>
  (ss_cons (s_tryAs (cs := [(1, false), (2, false), (3, false), (4, false), (5, false), (6, true)]) (i := 2) (c := (.ref (C 6))) ck nd__law_room_fault rfl rfl rfl rfl rfl ⟨rfl, by decide, .inl x.g_NoRoom⟩ x.ex__law_room_fault_NoRoom
  (fun W1 pn1 xe1 ck1 => (ss_cons (s_exp (e_meth names_nd rfl ((ok_Wants_after x).mono (by decide)) ck1 x.k_Wants.cl x.f_Wants_after.m x.f_Wants_after.B (e_var (i := 0)) (a_cons (e_var (i := 1)) (a_cons e_str a_nil))))
  (ss_one (s_ret e_bl))))
  (fun a oe cls d pn hz hf => (ss_one (s_if (c_w (c_or (c_cmpB o_ne (or_ne (Cok.su ck a ((a, oe) :: pn) ⟨a, cls, d⟩)) (by rfl) (eb (e_bi b_repr (cr_repr (Cok.su ck a ((a, oe) :: pn) ⟨a, cls, d⟩)) x.n_repr (by decide +kernel) (ab_cons (eb (e_exF names_nd rfl x.xf_NoRoom x.xn_NoRoom_room hz hf)) ab_nil))) (eb (e_bi b_repr (cr_repr (Cok.su ck a ((a, oe) :: pn) ⟨a, cls, d⟩)) x.n_repr (by decide +kernel) (ab_cons (eb (e_var (i := 1))) ab_nil)))) (c_or1 (c_tru (eb (e_exIs (v := .ref (C 1)) hz hf x.xi_NoRoom_RuelessError x.n_isinstance (fun _ r => r) (pe_glob rfl x.g_RuelessError rfl)))))))
  (ss_one (s_ret e_bl))
  ss_nil))))
  (ss_cons (s_try (cs := [(1, false), (2, false), (3, false), (4, false), (5, false), (6, true)]) (c := (.type "KeyError")) ck rfl rfl ⟨rfl, by decide, .inr ⟨x.n_KeyError, by decide +kernel, by decide⟩⟩ x.ex__law_room_fault_KeyError
  (fun W1 pn1 xe1 ck1 => (ss_one (s_exp (e_meth names_nd rfl ((ok_Wants_letters_at x).mono (by decide)) ck1 x.k_Wants.cl x.f_Wants_letters_at.m x.f_Wants_letters_at.B (e_var (i := 0)) (a_cons (e_var (i := 1)) a_nil)))))
  (fun a oe cls d pn hz hf => (ss_one (s_ret e_bl))))
  (ss_one (s_ret e_bl))))
theorem nd__law_row_fault : (["wants", "value", "e"] : List Str).Nodup := by decide +kernel
theorem ok__law_row_fault (x : Fx K mg C) : FnG PySem.Challenge.pw_rueless_k75_wants_walked_and_written w x.T.K mg base 6 x.f__law_row_fault.f x.f__law_row_fault.fd ["wants", "value"] (spD x.T 2 d__law_row_fault) :=
  fn_g (N := ["wants", "value", "e"]) (k := 5) (g := m__law_row_fault) x.f__law_row_fault.F (C8.fnScope_by (by decide +kernel)) rfl fun cdv A outer s H E ck =>
  (ss_cons (s_tryAs (cs := [(1, false), (2, true), (3, false), (4, false), (5, false), (6, false)]) (i := 2) (c := (.ref (C 2))) ck nd__law_row_fault rfl rfl rfl rfl rfl ⟨rfl, by decide, .inl x.g_BadRow⟩ x.ex__law_row_fault_BadRow
  (fun W1 pn1 xe1 ck1 => (ss_one (s_exp (e_meth names_nd rfl ((ok_Wants_room_of x).mono (by decide)) ck1 x.k_Wants.cl x.f_Wants_room_of.m x.f_Wants_room_of.B (e_var (i := 0)) (a_cons (e_var (i := 1)) a_nil)))))
  (fun a oe cls d pn hz hf => (ss_one (s_ret (e_cmp o_eq (or_eq (Cok.su ck a ((a, oe) :: pn) ⟨a, cls, d⟩)) (by rfl) (eb (e_exF names_nd rfl x.xf_BadRow x.xn_BadRow_at hz hf)) (eb e_int))))))
  (ss_one (s_ret e_bl)))
theorem nd__law_text_fault : (["value", "e"] : List Str).Nodup := by decide +kernel
theorem ok__law_text_fault (x : Fx K mg C) : FnG PySem.Challenge.pw_rueless_k75_wants_walked_and_written w x.T.K mg base 8 x.f__law_text_fault.f x.f__law_text_fault.fd ["value"] (spD x.T 1 d__law_text_fault) :=
  fn_g (N := ["value", "e"]) (k := 7) (g := m__law_text_fault) x.f__law_text_fault.F (C8.fnScope_by (by decide +kernel)) rfl fun cdv A outer s H E ck =>
  (ss_cons (s_tryAs (cs := [(1, false), (2, false), (3, true), (4, false), (5, false), (6, false)]) (i := 1) (c := (.ref (C 3))) ck nd__law_text_fault rfl rfl rfl rfl rfl ⟨rfl, by decide, .inl x.g_BadText⟩ x.ex__law_text_fault_BadText
  (fun W1 pn1 xe1 ck1 => (ss_one (s_exp (e_stat ((ok_Wants_parse x).mono (by decide)) ck1 x.f_Wants_parse.s x.g_Wants x.f_Wants_parse.B (a_cons (e_var (i := 0)) a_nil)))))
  (fun a oe cls d pn hz hf => (ss_one (s_ret (e_exF names_nd rfl x.xf_BadText x.xn_BadText_at hz hf)))))
  (ss_one (s_ret e_non)))
theorem nd__law_faults_right : (["steps", "wants", "value", "long", "room"] : List Str).Nodup := by decide +kernel
theorem ok__law_faults_right (x : Fx K mg C) : FnG PySem.Challenge.pw_rueless_k75_wants_walked_and_written w x.T.K mg base 9 x.f__law_faults_right.f x.f__law_faults_right.fd ["steps", "wants"] (spD x.T 2 d__law_faults_right) :=
  fn_g (N := ["steps", "wants", "value", "long", "room"]) (k := 8) (g := m__law_faults_right) x.f__law_faults_right.F (C8.fnScope_by (by decide +kernel)) rfl fun cdv A outer s H E ck =>
  (ss_cons (s_for ck.po rfl (i_seqF (e_tup (a_cons e_str (a_cons (e_bin o_mul or_mul (eb e_str) (eb e_int)) (a_cons e_int (a_cons e_non (a_cons (e_fz (l_lst (a_cons e_str a_nil))) (a_cons (e_tup (a_cons e_str a_nil)) (a_cons e_str (a_cons e_str a_nil)))))))))) (t_nm (i := 2) nd__law_faults_right)
  (ss_one (s_if (c_w (c_or (c_cmpB o_nis or_nis (by rfl) (eb (e_meth names_nd rfl ((ok_Wants_wants_row x).mono (by decide)) ck x.k_Wants.cl x.f_Wants_wants_row.m x.f_Wants_wants_row.B (e_var (i := 1)) (a_cons (e_var (i := 2)) a_nil))) (eb e_bl)) (c_or1 (c_not (c_tru (eb (e_call ((ok__law_row_fault x).mono (by decide)) ck x.f__law_row_fault.g x.f__law_row_fault.F.kp x.f__law_row_fault.B (a_cons (e_var (i := 1)) (a_cons (e_var (i := 2)) a_nil)))))))))
  (ss_one (s_ret e_bl))
  ss_nil)))
  (ss_cons (s_for ck.po rfl (i_seqF (e_tup (a_cons (e_bin o_sub op_sub (eb e_int) (eb e_int)) (a_cons e_int (a_cons e_non (a_cons e_str (a_cons e_bl a_nil))))))) (t_nm (i := 2) nd__law_faults_right)
  (ss_one (s_if (c_not (c_tru (eb (e_call ((ok__law_length_fault x).mono (by decide)) ck x.f__law_length_fault.g x.f__law_length_fault.F.kp x.f__law_length_fault.B (a_cons (e_var (i := 1)) (a_cons (e_var (i := 2)) a_nil))))))
  (ss_one (s_ret e_bl))
  ss_nil)))
  (ss_cons (s_for ck.po rfl (i_seqF (e_tup (a_cons (e_bi b_len (cr_len rfl) x.n_len PySem.boot_len (ab_cons (eb (e_var (i := 0))) ab_nil)) (a_cons (e_bin o_sub op_sub (eb e_int) (eb e_int)) (a_cons e_non (a_cons e_str (a_cons e_bl a_nil))))))) (t_nm (i := 2) nd__law_faults_right)
  (ss_one (s_if (c_not (c_tru (eb (e_call ((ok__law_room_fault x).mono (by decide)) ck x.f__law_room_fault.g x.f__law_room_fault.F.kp x.f__law_room_fault.B (a_cons (e_var (i := 1)) (a_cons (e_var (i := 2)) a_nil))))))
  (ss_one (s_ret e_bl))
  ss_nil)))
  (ss_cons (s_set (i := 3) nd__law_faults_right (e_join e_str (eb (e_fz (l_lc (own := [("room", 4)]) rfl nd__law_faults_right (i_b (i_rng1 e_int x.n_range)) (blkOk_by (by kernel_rfl)) (by decide) ⟨_, (fun s1 h1 c1 l1 p1 => (pg_name (i := 4) nd__law_faults_right rfl (by first | exact Or.inl rfl | exact Or.inr rfl) (by first | exact .inl rfl | exact .inr rfl))), tgs_nm⟩ (fun s1 h1 c1 l1 p1 => tests_nil) (fun s1 h1 c1 l1 p1 => (e_bin o_add (or_add ((Cok.blk ck s1 h1 c1 l1 p1)).u) (eb (e_ty b_str cr_str x.n_str (by decide +kernel) (ab_cons (eb (e_var (i := 4))) ab_nil))) (eb e_str))))))))
  (ss_one (s_ret (e_and (e_cmp o_eq (or_eq ck.u) (by rfl) (eb (e_call ((ok__law_text_fault x).mono (by decide)) ck x.f__law_text_fault.g x.f__law_text_fault.F.kp x.f__law_text_fault.B (a_cons (e_var (i := 3)) a_nil))) (eb e_int)) (e_and (e_cmp o_is or_is (by rfl) (eb (e_call ((ok__law_text_fault x).mono (by decide)) ck x.f__law_text_fault.g x.f__law_text_fault.F.kp x.f__law_text_fault.B (a_cons (e_cut (eb (e_var (i := 3))) p_none (p_some (e_bin o_sub op_sub (eb (e_bi b_len (cr_len rfl) x.n_len PySem.boot_len (ab_cons (eb (e_var (i := 3))) ab_nil))) (eb e_int)))) a_nil))) (eb e_non)) (e_and1 (e_cmp o_eq (or_eq ck.u) (by rfl) (eb (e_call ((ok__law_text_fault x).mono (by decide)) ck x.f__law_text_fault.g x.f__law_text_fault.F.kp x.f__law_text_fault.B (a_cons e_non a_nil))) (eb e_int)))))))))))
theorem nd__law_steps : (["box", "letters", "size", "room", "steps", "rooms", "pairs", "letter"] : List Str).Nodup := by decide +kernel
theorem ok__law_steps (x : Fx K mg C) : FnG PySem.Challenge.pw_rueless_k75_wants_walked_and_written w x.T.K mg base 2 x.f__law_steps.f x.f__law_steps.fd ["box", "letters", "size"] (spD x.T 3 d__law_steps) :=
  fn_g (N := ["box", "letters", "size", "room", "steps", "rooms", "pairs", "letter"]) (k := 1) (g := m__law_steps) x.f__law_steps.F (C8.fnScope_by (by decide +kernel)) rfl fun cdv A outer s H E ck =>
  (ss_cons (s_par2o (i := 4) (j := 5) nd__law_steps rfl (l_lst a_nil) (e_bin o_add (or_add ck.u) (eb e_int) (eb (e_call ((ok__law_take x).mono (by decide)) ck x.f__law_take.g x.f__law_take.F.kp x.f__law_take.B (a_cons (e_var (i := 0)) (a_cons (e_var (i := 2)) a_nil))))) (by decide))
  (ss_cons (s_for ck.po rfl (i_rng1 (e_var (i := 5)) x.n_range) (t_nm (i := 3) nd__law_steps)
  (ss_cons (s_own (i := 6) nd__law_steps (l_lst a_nil))
  (ss_cons (s_for ck.po rfl (i_seqF (e_var (i := 1))) (t_nm (i := 7) nd__law_steps)
  (ss_one (s_if (c_cmpB o_gt op_gt (by rfl) (eb (e_call ((ok__law_take x).mono (by decide)) ck x.f__law_take.g x.f__law_take.F.kp x.f__law_take.B (a_cons (e_var (i := 0)) (a_cons e_int a_nil)))) (eb e_int))
  (ss_one (s_app (i := 6) (e_tup (a_cons (e_var (i := 7)) (a_cons (e_call ((ok__law_take x).mono (by decide)) ck x.f__law_take.g x.f__law_take.F.kp x.f__law_take.B (a_cons (e_var (i := 0)) (a_cons (e_var (i := 5)) a_nil))) a_nil))) rfl))
  ss_nil)))
  (ss_one (s_frz 6 (s_app (i := 4) (e_var (i := 6)) rfl))))))
  (ss_one (s_frz 4 (s_ret (e_var (i := 4)))))))
theorem nd__law_text : (["steps", "rows", "at", "pairs", "told", "letter", "room"] : List Str).Nodup := by decide +kernel
theorem ok__law_text (x : Fx K mg C) : FnG PySem.Challenge.pw_rueless_k75_wants_walked_and_written w x.T.K mg base 1 x.f__law_text.f x.f__law_text.fd ["steps"] (spD x.T 1 d__law_text) :=
  fn_g (N := ["steps", "rows", "at", "pairs", "told", "letter", "room"]) (k := 0) (g := m__law_text) x.f__law_text.F (C8.fnScope_by (by decide +kernel)) rfl fun cdv A outer s H E ck =>
  (ss_cons (s_own (i := 1) nd__law_text (l_lst a_nil))
  (ss_cons (s_for ck.po rfl (i_enu (e_var (i := 0)) x.n_enumerate) (t_tp rfl (ts_cons (t_nm (i := 2) nd__law_text) (ts_cons (t_nm (i := 3) nd__law_text) ts_nil)))
  (ss_cons (s_set (i := 4) nd__law_text (e_join e_str (eb (e_fz (l_lc (own := [("letter", 5), ("room", 6)]) rfl nd__law_text (i_seq (eb (e_var (i := 3)))) (blkOk_by (by kernel_rfl)) (by decide) ⟨_, (fun s1 h1 c1 l1 p1 => (pg_tup (n := 2) rfl (pgs_cons (pg_name (i := 5) nd__law_text rfl (by first | exact Or.inl rfl | exact Or.inr rfl) (by first | exact .inl rfl | exact .inr rfl)) (pgs_cons (pg_name (i := 6) nd__law_text rfl (by first | exact Or.inl rfl | exact Or.inr rfl) (by first | exact .inl rfl | exact .inr rfl)) pgs_nil rfl) rfl) rfl rfl)), (tgs_tp (tgss_cons tgs_nm (tgss_cons tgs_nm tgss_nil)))⟩ (fun s1 h1 c1 l1 p1 => tests_nil) (fun s1 h1 c1 l1 p1 => (e_bin o_add (or_add ((Cok.blk ck s1 h1 c1 l1 p1)).u) (eb (e_bin o_add (or_add ((Cok.blk ck s1 h1 c1 l1 p1)).u) (eb (e_var (i := 5))) (eb e_str))) (eb (e_ty b_str cr_str x.n_str (by decide +kernel) (ab_cons (eb (e_var (i := 6))) ab_nil))))))))))
  (ss_one (s_app (i := 1) (e_bin o_add (or_add ck.u) (eb (e_bin o_add (or_add ck.u) (eb (e_ty b_str cr_str x.n_str (by decide +kernel) (ab_cons (eb (e_var (i := 2))) ab_nil))) (eb e_str))) (eb (e_if (c_cmpB o_ne (or_ne ck.u) (by rfl) (eb (e_var (i := 3))) (eb (e_fz (l_lst a_nil)))) (e_var (i := 4)) e_str))) rfl))))
  (ss_one (s_ret (e_join e_str (b_var (i := 1)))))))
theorem nd__law_count : (["steps", "length", "counts", "turn", "pairs", "letter", "further"] : List Str).Nodup := by decide +kernel
theorem ok__law_count (x : Fx K mg C) : FnG PySem.Challenge.pw_rueless_k75_wants_walked_and_written w x.T.K mg base 1 x.f__law_count.f x.f__law_count.fd ["steps", "length"] (spD x.T 2 d__law_count) :=
  fn_g (N := ["steps", "length", "counts", "turn", "pairs", "letter", "further"]) (k := 0) (g := m__law_count) x.f__law_count.F (C8.fnScope_by (by decide +kernel)) rfl fun cdv A outer s H E ck =>
  (ss_cons (s_set (i := 2) nd__law_count (e_bin o_mul or_mul (eb (e_fz (l_lst (a_cons e_int a_nil)))) (eb (e_bi b_len (cr_len rfl) x.n_len PySem.boot_len (ab_cons (eb (e_var (i := 0))) ab_nil)))))
  (ss_cons (s_for ck.po rfl (i_rng1 (e_var (i := 1)) x.n_range) (t_nm (i := 3) nd__law_count)
  (ss_one (s_set (i := 2) nd__law_count (e_fz (l_lc (own := [("pairs", 4)]) rfl nd__law_count (i_seq (eb (e_var (i := 0)))) (blkOk_by (by kernel_rfl)) (by decide) ⟨_, (fun s1 h1 c1 l1 p1 => (pg_name (i := 4) nd__law_count rfl (by first | exact Or.inl rfl | exact Or.inr rfl) (by first | exact .inl rfl | exact .inr rfl))), tgs_nm⟩ (fun s1 h1 c1 l1 p1 => tests_nil) (fun s1 h1 c1 l1 p1 => (e_bi b_sum (cr_sumD rfl rfl) x.n_sum (by decide +kernel) (ab_cons (eb (e_fz (l_lc (own := [("letter", 5), ("further", 6)]) rfl nd__law_count (i_seq (eb (e_var (i := 4)))) (blkOk_by (by kernel_rfl)) (by decide) ⟨_, (fun s2 h2 c2 l2 p2 => (pg_tup (n := 2) rfl (pgs_cons (pg_name (i := 5) nd__law_count rfl (by first | exact Or.inl rfl | exact Or.inr rfl) (by first | exact .inl rfl | exact .inr rfl)) (pgs_cons (pg_name (i := 6) nd__law_count rfl (by first | exact Or.inl rfl | exact Or.inr rfl) (by first | exact .inl rfl | exact .inr rfl)) pgs_nil rfl) rfl) rfl rfl)), (tgs_tp (tgss_cons tgs_nm (tgss_cons tgs_nm tgss_nil)))⟩ (fun s2 h2 c2 l2 p2 => tests_nil) (fun s2 h2 c2 l2 p2 => (e_ix o_ix (or_ix ((Cok.blk (Cok.blk ck s1 h1 c1 l1 p1) s2 h2 c2 l2 p2)).u) (eb (e_var (i := 2))) (eb (e_var (i := 6)))))))) ab_nil))))))))
  (ss_one (s_ret (e_ix o_ix (or_ix ck.u) (eb (e_var (i := 2))) (eb e_int))))))
theorem nd__law_walk : (["steps", "row", "room", "letter", "found", "sign", "further"] : List Str).Nodup := by decide +kernel
theorem ok__law_walk (x : Fx K mg C) : FnG PySem.Challenge.pw_rueless_k75_wants_walked_and_written w x.T.K mg base 1 x.f__law_walk.f x.f__law_walk.fd ["steps", "row"] (spD x.T 2 d__law_walk) :=
  fn_g (N := ["steps", "row", "room", "letter", "found", "sign", "further"]) (k := 0) (g := m__law_walk) x.f__law_walk.F (C8.fnScope_by (by decide +kernel)) rfl fun cdv A outer s H E ck =>
  (ss_cons (s_set (i := 2) nd__law_walk e_int)
  (ss_cons (s_for ck.po rfl (i_seqF (e_var (i := 1))) (t_nm (i := 3) nd__law_walk)
  (ss_cons (s_setLc (i := 4) (own := [("sign", 5), ("further", 6)]) rfl nd__law_walk (i_seq (eb (e_ix o_ix (or_ix ck.u) (eb (e_var (i := 0))) (eb (e_var (i := 2)))))) (blkOk_by (by kernel_rfl)) (by decide) ⟨_, (fun s1 h1 c1 l1 p1 => (pg_tup (n := 2) rfl (pgs_cons (pg_name (i := 5) nd__law_walk rfl (by first | exact Or.inl rfl | exact Or.inr rfl) (by first | exact .inl rfl | exact .inr rfl)) (pgs_cons (pg_name (i := 6) nd__law_walk rfl (by first | exact Or.inl rfl | exact Or.inr rfl) (by first | exact .inl rfl | exact .inr rfl)) pgs_nil rfl) rfl) rfl rfl)), (tgs_tp (tgss_cons tgs_nm (tgss_cons tgs_nm tgss_nil)))⟩ (fun s1 h1 c1 l1 p1 => (tests_one (c_cmpB o_eq (or_eq ((Cok.blk ck s1 h1 c1 l1 p1)).u) (by rfl) (eb (e_var (i := 5))) (eb (e_var (i := 3)))))) (fun s1 h1 c1 l1 p1 => (e_var (i := 6))) (sw_true rfl rfl rfl (by decide +kernel)))
  (ss_cons (s_if (c_cmpB o_eq (or_eq ck.u) (by rfl) (eb (e_var (i := 4))) (eb (e_fz (l_lst a_nil))))
  (ss_one (s_ret e_non))
  ss_nil)
  (ss_one (s_set (i := 2) nd__law_walk (e_ix o_ix (or_ix ck.u) (eb (e_var (i := 4))) (eb e_int)))))))
  (ss_one (s_ret (e_var (i := 2))))))
theorem nd__law_walked_right : (["box", "steps", "wants", "row", "turn", "length", "here", "ahead"] : List Str).Nodup := by decide +kernel
theorem ok__law_walked_right (x : Fx K mg C) : FnG PySem.Challenge.pw_rueless_k75_wants_walked_and_written w x.T.K mg base 7 x.f__law_walked_right.f x.f__law_walked_right.fd ["box", "steps", "wants"] (spD x.T 3 d__law_walked_right) :=
  fn_g (N := ["box", "steps", "wants", "row", "turn", "length", "here", "ahead"]) (k := 6) (g := m__law_walked_right) x.f__law_walked_right.F (C8.fnScope_by (by decide +kernel)) rfl fun cdv A outer s H E ck =>
  (ss_cons (s_set (i := 3) nd__law_walked_right e_str)
  (ss_cons (s_for ck.po rfl (i_rng1 e_int x.n_range) (t_nm (i := 4) nd__law_walked_right)
  (ss_cons (s_set (i := 6) nd__law_walked_right (e_call ((ok__law_walk x).mono (by decide)) ck x.f__law_walk.g x.f__law_walk.F.kp x.f__law_walk.B (a_cons (e_var (i := 1)) (a_cons (e_var (i := 3)) a_nil))))
  (ss_cons (s_if (c_w (c_or (c_cmpB o_ne (or_ne ck.u) (by rfl) (eb (e_bi b_repr (cr_repr ck.u) x.n_repr (by decide +kernel) (ab_cons (eb (e_meth names_nd rfl ((ok_Wants_room_of x).mono (by decide)) ck x.k_Wants.cl x.f_Wants_room_of.m x.f_Wants_room_of.B (e_var (i := 2)) (a_cons (e_var (i := 3)) a_nil))) ab_nil))) (eb (e_bi b_repr (cr_repr ck.u) x.n_repr (by decide +kernel) (ab_cons (eb (e_var (i := 6))) ab_nil)))) (c_or1 (c_cmpB o_ne (or_ne ck.u) (by rfl) (eb (e_bi b_repr (cr_repr ck.u) x.n_repr (by decide +kernel) (ab_cons (eb (e_meth names_nd rfl ((ok_Wants_wants_row x).mono (by decide)) ck x.k_Wants.cl x.f_Wants_wants_row.m x.f_Wants_wants_row.B (e_var (i := 2)) (a_cons (e_var (i := 3)) a_nil))) ab_nil))) (eb (e_bi b_repr (cr_repr ck.u) x.n_repr (by decide +kernel) (ab_cons (eb (e_cmp o_nis or_nis (by rfl) (eb (e_var (i := 6))) (eb e_non))) ab_nil)))))))
  (ss_one (s_ret e_bl))
  ss_nil)
  (ss_cons (s_set (i := 7) nd__law_walked_right (e_if (c_cmpB o_is or_is (by rfl) (eb (e_var (i := 6))) (eb e_non)) e_str (e_meth names_nd rfl ((ok_Wants_letters_at x).mono (by decide)) ck x.k_Wants.cl x.f_Wants_letters_at.m x.f_Wants_letters_at.B (e_var (i := 2)) (a_cons (e_var (i := 6)) a_nil))))
  (ss_one (s_set (i := 3) nd__law_walked_right (e_bin o_add (or_add ck.u) (eb (e_var (i := 3))) (eb (e_if (c_w (c_and (c_cmpB o_ne (or_ne ck.u) (by rfl) (eb (e_var (i := 7))) (eb e_str)) (c_and1 (c_cmpB o_gt op_gt (by rfl) (eb (e_call ((ok__law_take x).mono (by decide)) ck x.f__law_take.g x.f__law_take.F.kp x.f__law_take.B (a_cons (e_var (i := 0)) (a_cons e_int a_nil)))) (eb e_int))))) (e_call ((ok__law_pick x).mono (by decide)) ck x.f__law_pick.g x.f__law_pick.F.kp x.f__law_pick.B (a_cons (e_var (i := 0)) (a_cons (e_var (i := 7)) a_nil))) (e_call ((ok__law_pick x).mono (by decide)) ck x.f__law_pick.g x.f__law_pick.F.kp x.f__law_pick.B (a_cons (e_var (i := 0)) (a_cons e_str a_nil))))))))))))
  (ss_cons (s_set (i := 3) nd__law_walked_right (e_bin o_mul or_mul (eb (e_call ((ok__law_pick x).mono (by decide)) ck x.f__law_pick.g x.f__law_pick.F.kp x.f__law_pick.B (a_cons (e_var (i := 0)) (a_cons e_str a_nil)))) (eb (e_call ((ok__law_pick x).mono (by decide)) ck x.f__law_pick.g x.f__law_pick.F.kp x.f__law_pick.B (a_cons (e_var (i := 0)) (a_cons (e_fz (l_lst (a_cons e_int (a_cons e_int (a_cons e_int a_nil))))) a_nil))))))
  (ss_cons (s_set (i := 5) nd__law_walked_right (e_call ((ok__law_pick x).mono (by decide)) ck x.f__law_pick.g x.f__law_pick.F.kp x.f__law_pick.B (a_cons (e_var (i := 0)) (a_cons (e_fz (l_lst (a_cons e_int (a_cons e_int (a_cons e_int (a_cons e_int (a_cons e_int (a_cons (e_call ((ok__law_take x).mono (by decide)) ck x.f__law_take.g x.f__law_take.F.kp x.f__law_take.B (a_cons (e_var (i := 0)) (a_cons e_int a_nil))) a_nil)))))))) a_nil))))
  (ss_cons (s_if (c_cmpB o_ne (or_ne ck.u) (by rfl) (eb (e_bi b_repr (cr_repr ck.u) x.n_repr (by decide +kernel) (ab_cons (eb (e_meth names_nd rfl ((ok_Wants_room_of x).mono (by decide)) ck x.k_Wants.cl x.f_Wants_room_of.m x.f_Wants_room_of.B (e_var (i := 2)) (a_cons (e_var (i := 3)) a_nil))) ab_nil))) (eb (e_bi b_repr (cr_repr ck.u) x.n_repr (by decide +kernel) (ab_cons (eb (e_call ((ok__law_walk x).mono (by decide)) ck x.f__law_walk.g x.f__law_walk.F.kp x.f__law_walk.B (a_cons (e_var (i := 1)) (a_cons (e_var (i := 3)) a_nil)))) ab_nil))))
  (ss_one (s_ret e_bl))
  ss_nil)
  (ss_one (s_ret (e_cmp o_eq (or_eq ck.u) (by rfl) (eb (e_bi b_repr (cr_repr ck.u) x.n_repr (by decide +kernel) (ab_cons (eb (e_meth names_nd rfl ((ok_Wants_row_count x).mono (by decide)) ck x.k_Wants.cl x.f_Wants_row_count.m x.f_Wants_row_count.B (e_var (i := 2)) (a_cons (e_var (i := 5)) a_nil))) ab_nil))) (eb (e_bi b_repr (cr_repr ck.u) x.n_repr (by decide +kernel) (ab_cons (eb (e_call ((ok__law_count x).mono (by decide)) ck x.f__law_count.g x.f__law_count.F.kp x.f__law_count.B (a_cons (e_var (i := 1)) (a_cons (e_var (i := 5)) a_nil)))) ab_nil)))))))))))
theorem nd__law_wants_fault : (["value", "e"] : List Str).Nodup := by decide +kernel
theorem ok__law_wants_fault (x : Fx K mg C) : FnG PySem.Challenge.pw_rueless_k75_wants_walked_and_written w x.T.K mg base 7 x.f__law_wants_fault.f x.f__law_wants_fault.fd ["value"] (spD x.T 1 d__law_wants_fault) :=
  fn_g (N := ["value", "e"]) (k := 6) (g := m__law_wants_fault) x.f__law_wants_fault.F (C8.fnScope_by (by decide +kernel)) rfl fun cdv A outer s H E ck =>
  (ss_cons (s_tryAs (cs := [(1, false), (2, false), (3, false), (4, true), (5, false), (6, false)]) (i := 1) (c := (.ref (C 4))) ck nd__law_wants_fault rfl rfl rfl rfl rfl ⟨rfl, by decide, .inl x.g_BadWants⟩ x.ex__law_wants_fault_BadWants
  (fun W1 pn1 xe1 ck1 => (ss_one (s_exp (e_make x.f_Wants___init__.M ((ok_Wants___init__ x).mono (by decide)) ck1 x.g_Wants x.f_Wants___init__.B (a_cons (e_var (i := 0)) a_nil)))))
  (fun a oe cls d pn hz hf => (ss_one (s_ret (e_if (c_w (c_and (c_tru (eb (e_exIs (v := .ref (C 1)) hz hf x.xi_BadWants_RuelessError x.n_isinstance (fun _ r => r) (pe_glob rfl x.g_RuelessError rfl)))) (c_and1 (c_not (c_tru (eb (e_exIs (v := .ref (C 5)) hz hf x.xi_BadWants_Refused x.n_isinstance (fun _ r => r) (pe_glob rfl x.g_Refused rfl)))))))) (e_exF names_nd rfl x.xf_BadWants x.xn_BadWants_at hz hf) e_str)))))
  (ss_one (s_ret e_non)))
theorem nd__law_case_right : (["box", "letters", "steps", "used", "text", "at", "lines", "spoilt", "other", "kept", "handed", "wants", "beside", "room", "pairs", "letter", "due", "further", "value", "sign", "pair"] : List Str).Nodup := by decide +kernel
theorem ok__law_case_right (x : Fx K mg C) : FnG PySem.Challenge.pw_rueless_k75_wants_walked_and_written w x.T.K mg base 10 x.f__law_case_right.f x.f__law_case_right.fd ["box"] (spD x.T 1 d__law_case_right) :=
  fn_g (N := ["box", "letters", "steps", "used", "text", "at", "lines", "spoilt", "other", "kept", "handed", "wants", "beside", "room", "pairs", "letter", "due", "further", "value", "sign", "pair"]) (k := 9) (g := m__law_case_right) x.f__law_case_right.F (C8.fnScope_by (by decide +kernel)) rfl fun cdv A outer s H E ck =>
  (ss_cons (s_set (i := 1) nd__law_case_right (e_call ((ok__law_pick x).mono (by decide)) ck x.f__law_pick.g x.f__law_pick.F.kp x.f__law_pick.B (a_cons (e_var (i := 0)) (a_cons (e_fz (l_lst (a_cons e_str (a_cons e_str (a_cons e_str (a_cons e_str (a_cons e_str a_nil))))))) a_nil))))
  (ss_cons (s_set (i := 2) nd__law_case_right (e_call ((ok__law_steps x).mono (by decide)) ck x.f__law_steps.g x.f__law_steps.F.kp x.f__law_steps.B (a_cons (e_var (i := 0)) (a_cons (e_var (i := 1)) (a_cons e_int a_nil)))))
  (ss_cons (s_par2 (i := 9) (j := 10) nd__law_case_right rfl (e_bi b_repr (cr_repr ck.u) x.n_repr (by decide +kernel) (ab_cons (eb (e_var (i := 2))) ab_nil)) (e_cell (l_lc (own := [("pairs", 14)]) rfl nd__law_case_right (i_seq (eb (e_var (i := 2)))) (blkOk_by (by kernel_rfl)) (by decide) ⟨_, (fun s1 h1 c1 l1 p1 => (pg_name (i := 14) nd__law_case_right rfl (by first | exact Or.inl rfl | exact Or.inr rfl) (by first | exact .inl rfl | exact .inr rfl))), tgs_nm⟩ (fun s1 h1 c1 l1 p1 => tests_nil) (fun s1 h1 c1 l1 p1 => (e_cell (l_ty b_list (cr_list rfl) x.n_list (by decide +kernel) (ab_cons (eb (e_var (i := 14))) ab_nil)))))) (by decide))
  (ss_cons (s_par2 (i := 11) (j := 12) nd__law_case_right rfl (e_make x.f_Wants___init__.M ((ok_Wants___init__ x).mono (by decide)) ck x.g_Wants x.f_Wants___init__.B (a_cons (e_var (i := 10)) a_nil)) (e_make x.f_Wants___init__.M ((ok_Wants___init__ x).mono (by decide)) ck x.g_Wants x.f_Wants___init__.B (a_cons (e_ty b_tup (cr_tup rfl) x.n_tuple (by decide +kernel) (ab_cons (eb (e_fz (l_lc (own := [("pairs", 14)]) rfl nd__law_case_right (i_seq (eb (e_var (i := 2)))) (blkOk_by (by kernel_rfl)) (by decide) ⟨_, (fun s1 h1 c1 l1 p1 => (pg_name (i := 14) nd__law_case_right rfl (by first | exact Or.inl rfl | exact Or.inr rfl) (by first | exact .inl rfl | exact .inr rfl))), tgs_nm⟩ (fun s1 h1 c1 l1 p1 => tests_nil) (fun s1 h1 c1 l1 p1 => (e_ty b_tup (cr_tup rfl) x.n_tuple (by decide +kernel) (ab_cons (eb (e_var (i := 14))) ab_nil)))))) ab_nil)) a_nil)) (by decide))
  (ss_cons (s_appR (e_ix o_ix (or_ix ck.u) (eb (e_var (i := 10))) (eb e_int)) (e_tup (a_cons e_str (a_cons e_int a_nil))))
  (ss_cons (s_appR (e_var (i := 10)) (e_cell (l_lst a_nil)))
  (ss_cons (s_set (i := 3) nd__law_case_right (e_fz (l_lc (own := [("letter", 15), ("further", 17)]) rfl nd__law_case_right (i_seq (eb (e_bi b_sumL (cr_sumLD rfl rfl) x.n_sum (by decide +kernel) (ab_cons (eb (e_var (i := 2))) (ab_cons (eb (e_fz (l_lst a_nil))) ab_nil))))) (blkOk_by (by kernel_rfl)) (by decide) ⟨_, (fun s1 h1 c1 l1 p1 => (pg_tup (n := 2) rfl (pgs_cons (pg_name (i := 15) nd__law_case_right rfl (by first | exact Or.inl rfl | exact Or.inr rfl) (by first | exact .inl rfl | exact .inr rfl)) (pgs_cons (pg_name (i := 17) nd__law_case_right rfl (by first | exact Or.inl rfl | exact Or.inr rfl) (by first | exact .inl rfl | exact .inr rfl)) pgs_nil rfl) rfl) rfl rfl)), (tgs_tp (tgss_cons tgs_nm (tgss_cons tgs_nm tgss_nil)))⟩ (fun s1 h1 c1 l1 p1 => tests_nil) (fun s1 h1 c1 l1 p1 => (e_var (i := 15))))))
  (ss_cons (s_if (c_w (c_or (c_cmpB o_ne (or_ne ck.u) (by rfl) (eb (e_bi b_repr (cr_repr ck.u) x.n_repr (by decide +kernel) (ab_cons (eb (e_fld names_nd rfl (forall_c1 ⟨x.k_Wants.cl, x.na_Wants_ways⟩) (e_var (i := 11)))) ab_nil))) (eb (e_bi b_repr (cr_repr ck.u) x.n_repr (by decide +kernel) (ab_cons (eb (e_ty b_tup (cr_tup rfl) x.n_tuple (by decide +kernel) (ab_cons (eb (e_fz (l_lc (own := [("pairs", 14)]) rfl nd__law_case_right (i_seq (eb (e_var (i := 2)))) (blkOk_by (by kernel_rfl)) (by decide) ⟨_, (fun s1 h1 c1 l1 p1 => (pg_name (i := 14) nd__law_case_right rfl (by first | exact Or.inl rfl | exact Or.inr rfl) (by first | exact .inl rfl | exact .inr rfl))), tgs_nm⟩ (fun s1 h1 c1 l1 p1 => tests_nil) (fun s1 h1 c1 l1 p1 => (e_ty b_tup (cr_tup rfl) x.n_tuple (by decide +kernel) (ab_cons (eb (e_var (i := 14))) ab_nil)))))) ab_nil))) ab_nil)))) (c_or1 (c_cmpB o_ne (or_ne ck.u) (by rfl) (eb (e_bi b_repr (cr_repr ck.u) x.n_repr (by decide +kernel) (ab_cons (eb (e_fld names_nd rfl (forall_c1 ⟨x.k_Wants.cl, x.na_Wants_rooms⟩) (e_var (i := 11)))) ab_nil))) (eb (e_bi b_repr (cr_repr ck.u) x.n_repr (by decide +kernel) (ab_cons (eb (e_bi b_len (cr_len rfl) x.n_len PySem.boot_len (ab_cons (eb (e_var (i := 2))) ab_nil))) ab_nil)))))))
  (ss_one (s_ret e_bl))
  ss_nil)
  (ss_cons (s_if (c_w (c_or (c_cmpB o_ne (or_ne ck.u) (by rfl) (eb (e_fld names_nd rfl (forall_c1 ⟨x.k_Wants.cl, x.na_Wants_letters⟩) (e_var (i := 11)))) (eb (e_join e_str (eb (e_fz (l_lc (own := [("letter", 15)]) rfl nd__law_case_right (i_seq (eb e_str)) (blkOk_by (by kernel_rfl)) (by decide) ⟨_, (fun s1 h1 c1 l1 p1 => (pg_name (i := 15) nd__law_case_right rfl (by first | exact Or.inl rfl | exact Or.inr rfl) (by first | exact .inl rfl | exact .inr rfl))), tgs_nm⟩ (fun s1 h1 c1 l1 p1 => (tests_one (c_cmpB o_in (or_in ((Cok.blk ck s1 h1 c1 l1 p1)).u) (by rfl) (eb (e_var (i := 15))) (eb (e_var (i := 3)))))) (fun s1 h1 c1 l1 p1 => (e_var (i := 15))))))))) (c_or (c_ownNe x.f_Wants___eq__.q ((ok_Wants___eq__ x).mono (by decide)) ck x.f_Wants___eq__.B x.nf_Wants (by rfl) (e_var (i := 11)) (e_var (i := 12))) (c_or1 (c_cmpB o_ne (or_ne ck.u) (by rfl) (eb (e_bi b_repr (cr_repr ck.u) x.n_repr (by decide +kernel) (ab_cons (eb (e_var (i := 2))) ab_nil))) (eb (e_var (i := 9))))))))
  (ss_one (s_ret e_bl))
  ss_nil)
  (ss_cons (s_for ck.po rfl (i_enu (e_var (i := 2)) x.n_enumerate) (t_tp rfl (ts_cons (t_nm (i := 13) nd__law_case_right) (ts_cons (t_nm (i := 14) nd__law_case_right) ts_nil)))
  (ss_cons (s_if (c_cmpB o_ne (or_ne ck.u) (by rfl) (eb (e_meth names_nd rfl ((ok_Wants_letters_at x).mono (by decide)) ck x.k_Wants.cl x.f_Wants_letters_at.m x.f_Wants_letters_at.B (e_var (i := 11)) (a_cons (e_var (i := 13)) a_nil))) (eb (e_join e_str (eb (e_fz (l_lc (own := [("letter", 15), ("further", 17)]) rfl nd__law_case_right (i_seq (eb (e_var (i := 14)))) (blkOk_by (by kernel_rfl)) (by decide) ⟨_, (fun s1 h1 c1 l1 p1 => (pg_tup (n := 2) rfl (pgs_cons (pg_name (i := 15) nd__law_case_right rfl (by first | exact Or.inl rfl | exact Or.inr rfl) (by first | exact .inl rfl | exact .inr rfl)) (pgs_cons (pg_name (i := 17) nd__law_case_right rfl (by first | exact Or.inl rfl | exact Or.inr rfl) (by first | exact .inl rfl | exact .inr rfl)) pgs_nil rfl) rfl) rfl rfl)), (tgs_tp (tgss_cons tgs_nm (tgss_cons tgs_nm tgss_nil)))⟩ (fun s1 h1 c1 l1 p1 => tests_nil) (fun s1 h1 c1 l1 p1 => (e_var (i := 15)))))))))
  (ss_one (s_ret e_bl))
  ss_nil)
  (ss_one (s_for ck.po rfl (i_seqF e_str) (t_nm (i := 15) nd__law_case_right)
  (ss_cons (s_setLc (i := 16) (own := [("sign", 19), ("further", 17)]) rfl nd__law_case_right (i_seq (eb (e_var (i := 14)))) (blkOk_by (by kernel_rfl)) (by decide) ⟨_, (fun s1 h1 c1 l1 p1 => (pg_tup (n := 2) rfl (pgs_cons (pg_name (i := 19) nd__law_case_right rfl (by first | exact Or.inl rfl | exact Or.inr rfl) (by first | exact .inl rfl | exact .inr rfl)) (pgs_cons (pg_name (i := 17) nd__law_case_right rfl (by first | exact Or.inl rfl | exact Or.inr rfl) (by first | exact .inl rfl | exact .inr rfl)) pgs_nil rfl) rfl) rfl rfl)), (tgs_tp (tgss_cons tgs_nm (tgss_cons tgs_nm tgss_nil)))⟩ (fun s1 h1 c1 l1 p1 => (tests_one (c_cmpB o_eq (or_eq ((Cok.blk ck s1 h1 c1 l1 p1)).u) (by rfl) (eb (e_var (i := 19))) (eb (e_var (i := 15)))))) (fun s1 h1 c1 l1 p1 => (e_var (i := 17))) (sw_true rfl rfl rfl (by decide +kernel)))
  (ss_one (s_if (c_cmpB o_ne (or_ne ck.u) (by rfl) (eb (e_bi b_repr (cr_repr ck.u) x.n_repr (by decide +kernel) (ab_cons (eb (e_meth names_nd rfl ((ok_Wants_after x).mono (by decide)) ck x.k_Wants.cl x.f_Wants_after.m x.f_Wants_after.B (e_var (i := 11)) (a_cons (e_var (i := 13)) (a_cons (e_var (i := 15)) a_nil)))) ab_nil))) (eb (e_bi b_repr (cr_repr ck.u) x.n_repr (by decide +kernel) (ab_cons (eb (e_if (c_cmpB o_ne (or_ne ck.u) (by rfl) (eb (e_var (i := 16))) (eb (e_fz (l_lst a_nil)))) (e_ix o_ix (or_ix ck.u) (eb (e_var (i := 16))) (eb e_int)) e_non)) ab_nil))))
  (ss_one (s_ret e_bl))
  ss_nil)))))))
  (ss_cons (s_if (c_w (c_or (c_cmpB o_nis or_nis (by rfl) (eb (e_meth names_nd rfl ((ok_Wants_after x).mono (by decide)) ck x.k_Wants.cl x.f_Wants_after.m x.f_Wants_after.B (e_var (i := 11)) (a_cons e_int (a_cons e_str a_nil)))) (eb e_non)) (c_or1 (c_cmpB o_nis or_nis (by rfl) (eb (e_meth names_nd rfl ((ok_Wants_after x).mono (by decide)) ck x.k_Wants.cl x.f_Wants_after.m x.f_Wants_after.B (e_var (i := 11)) (a_cons e_int (a_cons e_non a_nil)))) (eb e_non)))))
  (ss_one (s_ret e_bl))
  ss_nil)
  (ss_cons (s_if (c_w (c_or (c_not (c_tru (eb (e_call ((ok__law_walked_right x).mono (by decide)) ck x.f__law_walked_right.g x.f__law_walked_right.F.kp x.f__law_walked_right.B (a_cons (e_var (i := 0)) (a_cons (e_var (i := 2)) (a_cons (e_var (i := 11)) a_nil))))))) (c_or1 (c_not (c_tru (eb (e_call ((ok__law_faults_right x).mono (by decide)) ck x.f__law_faults_right.g x.f__law_faults_right.F.kp x.f__law_faults_right.B (a_cons (e_var (i := 2)) (a_cons (e_var (i := 11)) a_nil)))))))))
  (ss_one (s_ret e_bl))
  ss_nil)
  (ss_cons (s_set (i := 4) nd__law_case_right (e_call ((ok__law_text x).mono (by decide)) ck x.f__law_text.g x.f__law_text.F.kp x.f__law_text.B (a_cons (e_var (i := 2)) a_nil)))
  (ss_cons (s_if (c_w (c_or (c_cmpB o_ne (or_ne ck.u) (by rfl) (eb (e_prop ((ok_Wants_text x).mono (by decide)) ck x.k_Wants.cl x.f_Wants_text.pr x.f_Wants_text.B (e_var (i := 11)))) (eb (e_var (i := 4)))) (c_or (c_ownNe x.f_Wants___eq__.q ((ok_Wants___eq__ x).mono (by decide)) ck x.f_Wants___eq__.B x.nf_Wants (by rfl) (e_stat ((ok_Wants_parse x).mono (by decide)) ck x.f_Wants_parse.s x.g_Wants x.f_Wants_parse.B (a_cons (e_var (i := 4)) a_nil)) (e_var (i := 11))) (c_or1 (c_cmpB o_ne (or_ne ck.u) (by rfl) (eb (e_fld names_nd rfl (forall_c1 ⟨x.k_Wants.cl, x.na_Wants_ways⟩) (e_stat ((ok_Wants_parse x).mono (by decide)) ck x.f_Wants_parse.s x.g_Wants x.f_Wants_parse.B (a_cons (e_var (i := 4)) a_nil)))) (eb (e_fld names_nd rfl (forall_c1 ⟨x.k_Wants.cl, x.na_Wants_ways⟩) (e_var (i := 11)))))))))
  (ss_one (s_ret e_bl))
  ss_nil)
  (ss_cons (s_set (i := 5) nd__law_case_right (e_call ((ok__law_take x).mono (by decide)) ck x.f__law_take.g x.f__law_take.F.kp x.f__law_take.B (a_cons (e_var (i := 0)) (a_cons (e_bi b_len (cr_len rfl) x.n_len PySem.boot_len (ab_cons (eb (e_var (i := 2))) ab_nil)) a_nil))))
  (ss_cons (s_set (i := 6) nd__law_case_right (e_fz (l_split (e_var (i := 4)) (eb e_str))))
  (ss_cons (s_set (i := 7) nd__law_case_right (e_call ((ok__law_pick x).mono (by decide)) ck x.f__law_pick.g x.f__law_pick.F.kp x.f__law_pick.B (a_cons (e_var (i := 0)) (a_cons (e_fz (l_lst (a_cons (e_bin o_add (or_add ck.u) (eb (e_ix o_ix (or_ix ck.u) (eb (e_var (i := 6))) (eb (e_var (i := 5))))) (eb e_str)) (a_cons (e_cut (eb (e_ix o_ix (or_ix ck.u) (eb (e_var (i := 6))) (eb (e_var (i := 5))))) (p_some e_int) p_none) (a_cons (e_bin o_add (or_add ck.u) (eb (e_ty b_str cr_str x.n_str (by decide +kernel) (ab_cons (eb (e_var (i := 5))) ab_nil))) (eb e_str)) (a_cons (e_bin o_add (or_add ck.u) (eb (e_ty b_str cr_str x.n_str (by decide +kernel) (ab_cons (eb (e_var (i := 5))) ab_nil))) (eb e_str)) (a_cons (e_bin o_add (or_add ck.u) (eb (e_ty b_str cr_str x.n_str (by decide +kernel) (ab_cons (eb (e_var (i := 5))) ab_nil))) (eb e_str)) (a_cons (e_bin o_add (or_add ck.u) (eb (e_ty b_str cr_str x.n_str (by decide +kernel) (ab_cons (eb (e_var (i := 5))) ab_nil))) (eb e_str)) (a_cons e_str a_nil))))))))) a_nil))))
  (ss_cons (s_if (c_cmpB o_ne (or_ne ck.u) (by rfl) (eb (e_call ((ok__law_text_fault x).mono (by decide)) ck x.f__law_text_fault.g x.f__law_text_fault.F.kp x.f__law_text_fault.B (a_cons (e_join e_str (eb (e_bin o_add (or_add ck.u) (eb (e_bin o_add (or_add ck.u) (eb (e_cut (eb (e_var (i := 6))) p_none (p_some (e_var (i := 5))))) (eb (e_fz (l_lst (a_cons (e_var (i := 7)) a_nil)))))) (eb (e_cut (eb (e_var (i := 6))) (p_some (e_bin o_add (or_add ck.u) (eb (e_var (i := 5))) (eb e_int))) p_none))))) a_nil))) (eb (e_bin o_add (or_add ck.u) (eb (e_var (i := 5))) (eb e_int))))
  (ss_one (s_ret e_bl))
  ss_nil)
  (ss_cons (s_if (c_w (c_or (c_cmpB o_ne (or_ne ck.u) (by rfl) (eb (e_call ((ok__law_wants_fault x).mono (by decide)) ck x.f__law_wants_fault.g x.f__law_wants_fault.F.kp x.f__law_wants_fault.B (a_cons (e_call ((ok__law_bent x).mono (by decide)) ck x.f__law_bent.g x.f__law_bent.F.kp x.f__law_bent.B (a_cons (e_var (i := 0)) (a_cons (e_var (i := 2)) (a_cons (e_var (i := 5)) a_nil)))) a_nil))) (eb (e_var (i := 5)))) (c_or1 (c_cmpB o_nis or_nis (by rfl) (eb (e_call ((ok__law_wants_fault x).mono (by decide)) ck x.f__law_wants_fault.g x.f__law_wants_fault.F.kp x.f__law_wants_fault.B (a_cons (e_var (i := 2)) a_nil))) (eb e_non)))))
  (ss_one (s_ret e_bl))
  ss_nil)
  (ss_cons (s_set (i := 8) nd__law_case_right (e_bin o_add (or_add ck.u) (eb (e_bin o_add (or_add ck.u) (eb (e_cut (eb (e_var (i := 2))) p_none (p_some (e_var (i := 5))))) (eb (e_fz (l_lst (a_cons (e_bin o_add (or_add ck.u) (eb (e_fz (l_lc (own := [("pair", 20)]) rfl nd__law_case_right (i_seq (eb (e_ix o_ix (or_ix ck.u) (eb (e_var (i := 2))) (eb (e_var (i := 5)))))) (blkOk_by (by kernel_rfl)) (by decide) ⟨_, (fun s1 h1 c1 l1 p1 => (pg_name (i := 20) nd__law_case_right rfl (by first | exact Or.inl rfl | exact Or.inr rfl) (by first | exact .inl rfl | exact .inr rfl))), tgs_nm⟩ (fun s1 h1 c1 l1 p1 => (tests_one (c_cmpB o_ne (or_ne ((Cok.blk ck s1 h1 c1 l1 p1)).u) (by rfl) (eb (e_ix o_ix (or_ix ((Cok.blk ck s1 h1 c1 l1 p1)).u) (eb (e_var (i := 20))) (eb e_int))) (eb e_str)))) (fun s1 h1 c1 l1 p1 => (e_var (i := 20)))))) (eb (e_fz (l_lst a_nil)))) a_nil)))))) (eb (e_cut (eb (e_var (i := 2))) (p_some (e_bin o_add (or_add ck.u) (eb (e_var (i := 5))) (eb e_int))) p_none))))
  (ss_cons (s_if (c_w (c_or (c_cmpB o_ne (or_ne ck.u) (by rfl) (eb (e_ownEq x.f_Wants___eq__.q ((ok_Wants___eq__ x).mono (by decide)) ck x.f_Wants___eq__.B x.nf_Wants.h (by rfl) (e_make x.f_Wants___init__.M ((ok_Wants___init__ x).mono (by decide)) ck x.g_Wants x.f_Wants___init__.B (a_cons (e_var (i := 8)) a_nil)) (e_var (i := 11)))) (eb (e_cmp o_eq (or_eq ck.u) (by rfl) (eb (e_bi b_repr (cr_repr ck.u) x.n_repr (by decide +kernel) (ab_cons (eb (e_var (i := 8))) ab_nil))) (eb (e_bi b_repr (cr_repr ck.u) x.n_repr (by decide +kernel) (ab_cons (eb (e_var (i := 2))) ab_nil)))))) (c_or1 (c_ownEq x.f_Wants___eq__.q ((ok_Wants___eq__ x).mono (by decide)) ck x.f_Wants___eq__.B x.nf_Wants (by rfl) (e_var (i := 11)) (e_fld names_nd rfl (forall_c1 ⟨x.k_Wants.cl, x.na_Wants_ways⟩) (e_var (i := 11)))))))
  (ss_one (s_ret e_bl))
  ss_nil)
  (ss_one (s_ret (e_cmp o_eq (or_eq ck.u) (by rfl) (eb (e_fz (l_lc (own := [("value", 18)]) rfl nd__law_case_right (i_seq (eb (e_tup (a_cons (e_fz (l_lst a_nil)) (a_cons (e_tup a_nil) (a_cons e_non (a_cons e_int (a_cons e_str (a_cons (e_bin o_mul or_mul (eb (e_fz (l_lst (a_cons (e_fz (l_lst a_nil)) a_nil)))) (eb e_int)) a_nil))))))))) (blkOk_by (by kernel_rfl)) (by decide) ⟨_, (fun s1 h1 c1 l1 p1 => (pg_name (i := 18) nd__law_case_right rfl (by first | exact Or.inl rfl | exact Or.inr rfl) (by first | exact .inl rfl | exact .inr rfl))), tgs_nm⟩ (fun s1 h1 c1 l1 p1 => tests_nil) (fun s1 h1 c1 l1 p1 => (e_call ((ok__law_wants_fault x).mono (by decide)) (Cok.blk ck s1 h1 c1 l1 p1) x.f__law_wants_fault.g x.f__law_wants_fault.F.kp x.f__law_wants_fault.B (a_cons (e_var (i := 18)) a_nil)))))) (eb (e_bin o_mul or_mul (eb (e_fz (l_lst (a_cons (e_bin o_sub op_sub (eb e_int) (eb e_int)) a_nil)))) (eb e_int)))))))))))))))))))))))))))
theorem nd_law : (["script", "k"] : List Str).Nodup := by decide +kernel
theorem ok_law (x : Fx K mg C) : FnG PySem.Challenge.pw_rueless_k75_wants_walked_and_written w x.T.K mg base 11 x.f_law.f x.f_law.fd ["script"] (spD x.T 1 d_law) :=
  fn_g (N := ["script", "k"]) (k := 10) (g := m_law) x.f_law.F (C8.fnScope_by (by decide +kernel)) rfl fun cdv A outer s H E ck =>
  (ss_cons (s_for ck.po rfl (i_rng1 e_int x.n_range) (t_nm (i := 1) nd_law)
  (ss_one (s_if (c_not (c_tru (eb (e_call ((ok__law_case_right x).mono (by decide)) ck x.f__law_case_right.g x.f__law_case_right.F.kp x.f__law_case_right.B (a_cons (e_call ((ok__law_box x).mono (by decide)) ck x.f__law_box.g x.f__law_box.F.kp x.f__law_box.B (a_cons (e_var (i := 0)) (a_cons (e_var (i := 1)) a_nil))) a_nil)))))
  (ss_one (s_ret e_bl))
  ss_nil)))
  (ss_one (s_ret e_bl)))
end
def CN (a0 a1 a2 a3 a4 a5 a6 : Addr) : Nat → Addr
  | 0 => a0
  | 1 => a1
  | 2 => a2
  | 3 => a3
  | 4 => a4
  | 5 => a5
  | 6 => a6
  | _ => 0
theorem fin_all {w : World} {K : PySem.W.Frag} {h : Heap} {mg : Str → Option Value} {fa : Addr} {a0 a1 a2 a3 a4 a5 a6 : Addr} (good : ∀ ns : List Int, ns.length ≤ 63 → ∃ S, d_law [.ro (ns.map D.int)] [] = .ok (.bl true) S) (KX : K.In h) (G : h.Ns mainGlobals mg) (hmg : mg "law" = some (.ref fa))
    (z0 : PySem.W.nsIn K mainGlobals "Wants" = some (some (.ref a0)))
    (z1 : PySem.W.nsIn K mainGlobals "RuelessError" = some (some (.ref a1)))
    (z2 : PySem.W.nsIn K mainGlobals "BadRow" = some (some (.ref a2)))
    (z3 : PySem.W.nsIn K mainGlobals "BadText" = some (some (.ref a3)))
    (z4 : PySem.W.nsIn K mainGlobals "BadWants" = some (some (.ref a4)))
    (z5 : PySem.W.nsIn K mainGlobals "Refused" = some (some (.ref a5)))
    (z6 : PySem.W.nsIn K mainGlobals "NoRoom" = some (some (.ref a6)))
    (is_int : FkOk ⟨K, (CN a0 a1 a2 a3 a4 a5 a6), names, none⟩ (fun v => PySem.W.kitOne K v (.type "int")) false true true false false false [])
    (n_int : mg "int" = none)
    (n_isinstance : mg "isinstance" = none)
    (is_bool : FkOk ⟨K, (CN a0 a1 a2 a3 a4 a5 a6), names, none⟩ (fun v => PySem.W.kitOne K v (.type "bool")) false true false false false false [])
    (n_bool : mg "bool" = none)
    (f_is_integer : DefG K mg "is_integer" (st 12) ["value"])
    (is_str : FkOk ⟨K, (CN a0 a1 a2 a3 a4 a5 a6), names, none⟩ (fun v => PySem.W.kitOne K v (.type "str")) false false false true false false [])
    (n_str : mg "str" = none)
    (is_list_tuple : FkOk ⟨K, (CN a0 a1 a2 a3 a4 a5 a6), names, none⟩ (fun v => PySem.W.kitAny K v [.type "list", .type "tuple"]) false false false false true true [])
    (n_tuple : mg "tuple" = none)
    (n_list : mg "list" = none)
    (f_is_text : DefG K mg "is_text" (st 14) ["value"])
    (n_len : mg "len" = none)
    (f_is_number : DefG K mg "is_number" (st 13) ["value"])
    (f_is_sequence : DefG K mg "is_sequence" (st 15) ["value"])
    (f_is_letter_of : DefG K mg "is_letter_of" (st 16) ["value", "letters"])
    (c_LETTERS : ∃ s t, mg "LETTERS" = some (.str s t) ∧ s.cps.toList = [97, 98, 99, 100, 48, 49])
    (f_is_number_below : DefG K mg "is_number_below" (st 20) ["value", "bound"])
    (n_range : mg "range" = none)
    (n_all : mg "all" = none)
    (c_MOST_ROW : ∃ t, mg "MOST_ROW" = some (.int 200 t))
    (c_TYPED_ROOMS : ∃ t, mg "TYPED_ROOMS" = some (.int 6 t))
    (er_BadWants : ErrD PySem.Challenge.pw_rueless_k75_wants_walked_and_written K mg "BadWants" ["at"] xTail "Exception" "Exception.__init__" a4)
    (n_enumerate : mg "enumerate" = none)
    (f_is_room : DefG K mg "is_room" (st 21) ["value", "rooms"])
    (f_Wants_take_ways : DefM K a0 "take_ways" "Wants.take_ways" (L2.inClass (st 23) 1) ["self", "ways"])
    (k_Wants : KlsI K a0)
    (na_Wants_ways : NoAttr K a0 "ways")
    (na_Wants_rooms : NoAttr K a0 "rooms")
    (na_Wants_letters : NoAttr K a0 "letters")
    (er_BadText : ErrD PySem.Challenge.pw_rueless_k75_wants_walked_and_written K mg "BadText" ["at"] xTail "Exception" "Exception.__init__" a3)
    (f_read_pairs : DefG K mg "read_pairs" (st 24) ["text"])
    (f_Wants___init__ : DefI K a0 "Wants.__init__" (L2.inClass (st 23) 0) ["self", "ways"])
    (g_Wants : mg "Wants" = some (.ref a0))
    (is_Wants : FkOk ⟨K, (CN a0 a1 a2 a3 a4 a5 a6), names, none⟩ (fun v => PySem.W.kitOne K v (.ref a0)) false false false false false false [(0, true)])
    (er_NoRoom : ErrD PySem.Challenge.pw_rueless_k75_wants_walked_and_written K mg "NoRoom" ["room"] kTail "KeyError" "KeyError.__init__" a6)
    (f_is_any_row : DefG K mg "is_any_row" (st 22) ["value"])
    (er_BadRow : ErrD PySem.Challenge.pw_rueless_k75_wants_walked_and_written K mg "BadRow" ["at"] xTail "Exception" "Exception.__init__" a2)
    (f_Wants_after : DefM K a0 "after" "Wants.after" (L2.inClass (st 23) 8) ["self", "room", "letter"])
    (f_Wants_room_of : DefM K a0 "room_of" "Wants.room_of" (L2.inClass (st 23) 10) ["self", "row"])
    (er_Refused : ErrD PySem.Challenge.pw_rueless_k75_wants_walked_and_written K mg "Refused" ["at"] xTail "Exception" "Exception.__init__" a5)
    (n_sum : mg "sum" = none)
    (n_abs : mg "abs" = none)
    (f__law_take : DefG K mg "_law_take" (st 27) ["box", "many"])
    (g_BadWants : mg "BadWants" = some (.ref a4))
    (ex__law_wants_fault_BadWants : ∀ m b, ([(1, false), (2, false), (3, false), (4, true), (5, false), (6, false)] : List (Nat × Bool)).lookup m = some b → PySem.W.exmOne K (.ref ((CN a0 a1 a2 a3 a4 a5 a6) m)) (.ref a4) = some b)
    (xi_BadWants_RuelessError : ∀ m b, ([(4, true)] : List (Nat × Bool)).lookup m = some b → ExcC K ((CN a0 a1 a2 a3 a4 a5 a6) m) ∧ PySem.W.kitOne K (.ref ((CN a0 a1 a2 a3 a4 a5 a6) m)) (.ref a1) = some b)
    (g_RuelessError : mg "RuelessError" = some (.ref a1))
    (xi_BadWants_Refused : ∀ m b, ([(4, false)] : List (Nat × Bool)).lookup m = some b → ExcC K ((CN a0 a1 a2 a3 a4 a5 a6) m) ∧ PySem.W.kitOne K (.ref ((CN a0 a1 a2 a3 a4 a5 a6) m)) (.ref a5) = some b)
    (g_Refused : mg "Refused" = some (.ref a5))
    (xf_BadWants : XfC K a4)
    (xn_BadWants_at : PySem.W.findIn K (.ref a4) "at" = some none)
    (g_BadText : mg "BadText" = some (.ref a3))
    (ex__law_text_fault_BadText : ∀ m b, ([(1, false), (2, false), (3, true), (4, false), (5, false), (6, false)] : List (Nat × Bool)).lookup m = some b → PySem.W.exmOne K (.ref ((CN a0 a1 a2 a3 a4 a5 a6) m)) (.ref a3) = some b)
    (f_Wants_parse : DefS K a0 "parse" "Wants.parse" (L2.inClass (st 23) 5) ["text"])
    (xf_BadText : XfC K a3)
    (xn_BadText_at : PySem.W.findIn K (.ref a3) "at" = some none)
    (g_BadRow : mg "BadRow" = some (.ref a2))
    (ex__law_row_fault_BadRow : ∀ m b, ([(1, false), (2, true), (3, false), (4, false), (5, false), (6, false)] : List (Nat × Bool)).lookup m = some b → PySem.W.exmOne K (.ref ((CN a0 a1 a2 a3 a4 a5 a6) m)) (.ref a2) = some b)
    (xf_BadRow : XfC K a2)
    (xn_BadRow_at : PySem.W.findIn K (.ref a2) "at" = some none)
    (g_NoRoom : mg "NoRoom" = some (.ref a6))
    (ex__law_room_fault_NoRoom : ∀ m b, ([(1, false), (2, false), (3, false), (4, false), (5, false), (6, true)] : List (Nat × Bool)).lookup m = some b → PySem.W.exmOne K (.ref ((CN a0 a1 a2 a3 a4 a5 a6) m)) (.ref a6) = some b)
    (xf_NoRoom : XfC K a6)
    (xn_NoRoom_room : PySem.W.findIn K (.ref a6) "room" = some none)
    (n_repr : mg "repr" = none)
    (xi_NoRoom_RuelessError : ∀ m b, ([(6, false)] : List (Nat × Bool)).lookup m = some b → ExcC K ((CN a0 a1 a2 a3 a4 a5 a6) m) ∧ PySem.W.kitOne K (.ref ((CN a0 a1 a2 a3 a4 a5 a6) m)) (.ref a1) = some b)
    (n_KeyError : mg "KeyError" = none)
    (ex__law_room_fault_KeyError : ∀ m b, ([(1, false), (2, false), (3, false), (4, false), (5, false), (6, true)] : List (Nat × Bool)).lookup m = some b → PySem.W.exmOne K (.ref ((CN a0 a1 a2 a3 a4 a5 a6) m)) (.type "KeyError") = some b)
    (f_Wants_letters_at : DefM K a0 "letters_at" "Wants.letters_at" (L2.inClass (st 23) 9) ["self", "room"])
    (ex__law_length_fault_Refused : ∀ m b, ([(1, false), (2, false), (3, false), (4, false), (5, true), (6, false)] : List (Nat × Bool)).lookup m = some b → PySem.W.exmOne K (.ref ((CN a0 a1 a2 a3 a4 a5 a6) m)) (.ref a5) = some b)
    (f_Wants_row_count : DefM K a0 "row_count" "Wants.row_count" (L2.inClass (st 23) 15) ["self", "length"])
    (xf_Refused : XfC K a5)
    (xn_Refused_at : PySem.W.findIn K (.ref a5) "at" = some none)
    (f__law_pick : DefG K mg "_law_pick" (st 28) ["box", "some"])
    (f_Wants_wants_row : DefM K a0 "wants_row" "Wants.wants_row" (L2.inClass (st 23) 11) ["self", "value"])
    (f__law_row_fault : DefG K mg "_law_row_fault" (st 35) ["wants", "value"])
    (f__law_length_fault : DefG K mg "_law_length_fault" (st 37) ["wants", "value"])
    (f__law_room_fault : DefG K mg "_law_room_fault" (st 36) ["wants", "value"])
    (f__law_text_fault : DefG K mg "_law_text_fault" (st 34) ["value"])
    (f__law_walk : DefG K mg "_law_walk" (st 30) ["steps", "row"])
    (f__law_count : DefG K mg "_law_count" (st 31) ["steps", "length"])
    (f__law_steps : DefG K mg "_law_steps" (st 29) ["box", "letters", "size"])
    (f_Wants___eq__ : DefQ K a0 "Wants.__eq__" (L2.inClass (st 23) 7) ["self", "other"])
    (nf_Wants : NfOk ⟨K, (CN a0 a1 a2 a3 a4 a5 a6), names, none⟩ 0 (nfK 0))
    (f__law_walked_right : DefG K mg "_law_walked_right" (st 40) ["box", "steps", "wants"])
    (f__law_faults_right : DefG K mg "_law_faults_right" (st 39) ["steps", "wants"])
    (f__law_text : DefG K mg "_law_text" (st 32) ["steps"])
    (f_Wants_text : DefP K a0 "text" "Wants.text" (L2.inClass (st 23) 6) ["self"])
    (f__law_wants_fault : DefG K mg "_law_wants_fault" (st 33) ["value"])
    (f__law_bent : DefG K mg "_law_bent" (st 38) ["box", "steps", "at"])
    (f__law_case_right : DefG K mg "_law_case_right" (st 41) ["box"])
    (f__law_box : DefG K mg "_law_box" (st 26) ["script", "k"])
    (f_law : DefG K mg "law" (st 42) ["script"])
    : ∃ (fd : FuncData) (C : Nat → Addr) (ns : List Str) (g : List D → M D), Binds K fd ["script"] [] ∧ (∀ ns : List Int, ns.length ≤ 63 → ∃ S, g [.ro (ns.map D.int)] [] = .ok (.bl true) S) ∧
        ∀ base : Heap, K.In base → base.Ns mainGlobals mg → FnG PySem.Challenge.pw_rueless_k75_wants_walked_and_written w K mg base 11 fa fd ["script"] (spD ⟨K, C, ns, none⟩ 1 g) := by
  have x : Fx K mg (CN a0 a1 a2 a3 a4 a5 a6) := ⟨is_int, n_int, n_isinstance, is_bool, n_bool, f_is_integer, is_str, n_str, is_list_tuple, n_tuple, n_list, f_is_text, n_len, f_is_number, f_is_sequence, f_is_letter_of, c_LETTERS, f_is_number_below, n_range, n_all, c_MOST_ROW, c_TYPED_ROOMS, er_BadWants, n_enumerate, f_is_room, f_Wants_take_ways, k_Wants, na_Wants_ways, na_Wants_rooms, na_Wants_letters, er_BadText, f_read_pairs, f_Wants___init__, g_Wants, is_Wants, er_NoRoom, f_is_any_row, er_BadRow, f_Wants_after, f_Wants_room_of, er_Refused, n_sum, n_abs, f__law_take, g_BadWants, ex__law_wants_fault_BadWants, xi_BadWants_RuelessError, g_RuelessError, xi_BadWants_Refused, g_Refused, xf_BadWants, xn_BadWants_at, g_BadText, ex__law_text_fault_BadText, f_Wants_parse, xf_BadText, xn_BadText_at, g_BadRow, ex__law_row_fault_BadRow, xf_BadRow, xn_BadRow_at, g_NoRoom, ex__law_room_fault_NoRoom, xf_NoRoom, xn_NoRoom_room, n_repr, xi_NoRoom_RuelessError, n_KeyError, ex__law_room_fault_KeyError, f_Wants_letters_at, ex__law_length_fault_Refused, f_Wants_row_count, xf_Refused, xn_Refused_at, f__law_pick, f_Wants_wants_row, f__law_row_fault, f__law_length_fault, f__law_room_fault, f__law_text_fault, f__law_walk, f__law_count, f__law_steps, f_Wants___eq__, nf_Wants, f__law_walked_right, f__law_faults_right, f__law_text, f_Wants_text, f__law_wants_fault, f__law_bent, f__law_case_right, f__law_box, f_law⟩
  have e := hmg.symm.trans x.f_law.g
  cases e
  exact ⟨x.f_law.fd, (CN a0 a1 a2 a3 a4 a5 a6), names, d_law, x.f_law.B, good, fun base _ _ => ok_law x⟩
end K75
open PySem PySem.W PyProof.Rows Dm
set_option maxRecDepth 100000
set_option maxHeartbeats 0
theorem PySem.Challenge.cw_rueless_k75_wants_walked_and_written_holds : PySem.Challenge.rw_rueless_k75_wants_walked_and_written.Holds := by
  have GOOD := K75.good
  refine head75 ?_
  k_fill
  refine Dm.walk_end (l := PySem.Challenge.rw_rueless_k75_wants_walked_and_written) (n := 63) (k := 11) (x := "script") rfl (by decide) rfl ⟨by decide, by decide, by decide⟩ (fun w h Y => PySem.W.kIn_of Y) ?F
  case F =>
    intro w mg fa h KX G hmg
    refine' K75.fin_all GOOD KX G hmg ?z0 ?z1 ?z2 ?z3 ?z4 ?z5 ?z6 ?is_int ?n_int ?n_isinstance ?is_bool ?n_bool ?f_is_integer ?is_str ?n_str ?is_list_tuple ?n_tuple ?n_list ?f_is_text ?n_len ?f_is_number ?f_is_sequence ?f_is_letter_of ?c_LETTERS ?f_is_number_below ?n_range ?n_all ?c_MOST_ROW ?c_TYPED_ROOMS ?er_BadWants ?n_enumerate ?f_is_room ?f_Wants_take_ways ?k_Wants ?na_Wants_ways ?na_Wants_rooms ?na_Wants_letters ?er_BadText ?f_read_pairs ?f_Wants___init__ ?g_Wants ?is_Wants ?er_NoRoom ?f_is_any_row ?er_BadRow ?f_Wants_after ?f_Wants_room_of ?er_Refused ?n_sum ?n_abs ?f__law_take ?g_BadWants ?ex__law_wants_fault_BadWants ?xi_BadWants_RuelessError ?g_RuelessError ?xi_BadWants_Refused ?g_Refused ?xf_BadWants ?xn_BadWants_at ?g_BadText ?ex__law_text_fault_BadText ?f_Wants_parse ?xf_BadText ?xn_BadText_at ?g_BadRow ?ex__law_row_fault_BadRow ?xf_BadRow ?xn_BadRow_at ?g_NoRoom ?ex__law_room_fault_NoRoom ?xf_NoRoom ?xn_NoRoom_room ?n_repr ?xi_NoRoom_RuelessError ?n_KeyError ?ex__law_room_fault_KeyError ?f_Wants_letters_at ?ex__law_length_fault_Refused ?f_Wants_row_count ?xf_Refused ?xn_Refused_at ?f__law_pick ?f_Wants_wants_row ?f__law_row_fault ?f__law_length_fault ?f__law_room_fault ?f__law_text_fault ?f__law_walk ?f__law_count ?f__law_steps ?f_Wants___eq__ ?nf_Wants ?f__law_walked_right ?f__law_faults_right ?f__law_text ?f_Wants_text ?f__law_wants_fault ?f__law_bent ?f__law_case_right ?f__law_box ?f_law
    (case z0 => k_is)
    (case z1 => k_is)
    (case z2 => k_is)
    (case z3 => k_is)
    (case z4 => k_is)
    (case z5 => k_is)
    (case z6 => k_is)
    (case is_int => refine' ⟨?n, ?b, ?i, ?s, ?l, ?t, ?cs⟩; (case n => (try dsimp only); kernel_rfl); (case b => (try dsimp only); kernel_rfl); (case i => (try dsimp only); kernel_rfl); (case s => (try dsimp only); kernel_rfl); (case l => (try dsimp only); kernel_rfl); (case t => (try dsimp only); kernel_rfl); (case cs => exact lkC0))
    (case n_int => refine' PySem.W.mg_none_of KX G ?a; (case a => k_is))
    (case n_isinstance => refine' PySem.W.mg_none_of KX G ?a; (case a => k_is))
    (case is_bool => refine' ⟨?n, ?b, ?i, ?s, ?l, ?t, ?cs⟩; (case n => (try dsimp only); kernel_rfl); (case b => (try dsimp only); kernel_rfl); (case i => (try dsimp only); kernel_rfl); (case s => (try dsimp only); kernel_rfl); (case l => (try dsimp only); kernel_rfl); (case t => (try dsimp only); kernel_rfl); (case cs => exact lkC0))
    (case n_bool => refine' PySem.W.mg_none_of KX G ?a; (case a => k_is))
    (case f_is_integer => refine' mkG KX G ?hb ?a ?l ?c ?k; (case hb => exact fun _ _ _ _ _ _ us hl => match us, hl with | [_], _ => rfl); (case a => k_is); (case l => k_is); (case c => k_is); (case k => k_is))
    (case is_str => refine' ⟨?n, ?b, ?i, ?s, ?l, ?t, ?cs⟩; (case n => (try dsimp only); kernel_rfl); (case b => (try dsimp only); kernel_rfl); (case i => (try dsimp only); kernel_rfl); (case s => (try dsimp only); kernel_rfl); (case l => (try dsimp only); kernel_rfl); (case t => (try dsimp only); kernel_rfl); (case cs => exact lkC0))
    (case n_str => refine' PySem.W.mg_none_of KX G ?a; (case a => k_is))
    (case is_list_tuple => refine' ⟨?n, ?b, ?i, ?s, ?l, ?t, ?cs⟩; (case n => (try dsimp only); kernel_rfl); (case b => (try dsimp only); kernel_rfl); (case i => (try dsimp only); kernel_rfl); (case s => (try dsimp only); kernel_rfl); (case l => (try dsimp only); kernel_rfl); (case t => (try dsimp only); kernel_rfl); (case cs => exact lkC0))
    (case n_tuple => refine' PySem.W.mg_none_of KX G ?a; (case a => k_is))
    (case n_list => refine' PySem.W.mg_none_of KX G ?a; (case a => k_is))
    (case f_is_text => refine' mkG KX G ?hb ?a ?l ?c ?k; (case hb => exact fun _ _ _ _ _ _ us hl => match us, hl with | [_], _ => rfl); (case a => k_is); (case l => k_is); (case c => k_is); (case k => k_is))
    (case n_len => refine' PySem.W.mg_none_of KX G ?a; (case a => k_is))
    (case f_is_number => refine' mkG KX G ?hb ?a ?l ?c ?k; (case hb => exact fun _ _ _ _ _ _ us hl => match us, hl with | [_], _ => rfl); (case a => k_is); (case l => k_is); (case c => k_is); (case k => k_is))
    (case f_is_sequence => refine' mkG KX G ?hb ?a ?l ?c ?k; (case hb => exact fun _ _ _ _ _ _ us hl => match us, hl with | [_], _ => rfl); (case a => k_is); (case l => k_is); (case c => k_is); (case k => k_is))
    (case f_is_letter_of => refine' mkG KX G ?hb ?a ?l ?c ?k; (case hb => exact fun _ _ _ _ _ _ us hl => match us, hl with | [_, _], _ => rfl); (case a => k_is); (case l => k_is); (case c => k_is); (case k => k_is))
    (case c_LETTERS => refine' cstr_mk KX G ?a ?b; (case a => k_is); (case b => exact ⟨_, _, rfl, by decide +kernel⟩))
    (case f_is_number_below => refine' mkG KX G ?hb ?a ?l ?c ?k; (case hb => exact fun _ _ _ _ _ _ us hl => match us, hl with | [_, _], _ => rfl); (case a => k_is); (case l => k_is); (case c => k_is); (case k => k_is))
    (case n_range => refine' PySem.W.mg_none_of KX G ?a; (case a => k_is))
    (case n_all => refine' PySem.W.mg_none_of KX G ?a; (case a => k_is))
    (case c_MOST_ROW => refine' cint_mk KX G ?a ?b; (case a => k_is); (case b => exact ⟨_, rfl⟩))
    (case c_TYPED_ROOMS => refine' cint_mk KX G ?a ?b; (case a => k_is); (case b => exact ⟨_, rfl⟩))
    (case er_BadWants => refine' mkErr (st := L2.inClass (K75.st 5) 0) KX G newX iniX PySem.W.kxs_Exception PySem.F.store_Exception (by decide +kernel) (by decide) (by decide) (by decide) ?bd ?sc ?gC ?kC ?ini ?ov ?sa ?ic ?ti ?tk ?hd ?bs ?xs ?ty ?mr ?sup ?opq ?sg ?l ?co ?lc ?v2 ?fl ?lx ?hb; (case bd => exact ⟨_, _, _, _, _, _, _, _, _, _, rfl, (.cons .nil), rfl, rfl, rfl⟩); (case sc => exact ⟨rfl, rfl, by decide +kernel, by decide +kernel, rfl, rfl, rfl, by decide +kernel⟩); (case gC => k_is); (case kC => k_is); (case ini => kx_is); (case ov => kx_is); (case sa => k_is); (case ic => k_is); (case ti => k_is); (case tk => refine' forall_s1 ?t0; (case t0 => k_is)); (case hd => k_is); (case bs => k_is); (case xs => k_is); (case ty => k_is); (case mr => k_is); (case sup => ks_is); (case opq => k_is); (case sg => k_is); (case l => k_is); (case co => k_is); (case lc => k_is); (case v2 => rfl); (case fl => decide +kernel); (case lx => k_is); (case hb => exact fun s us hl => match us, hl with | [_, _], _ => .of_eq rfl))
    (case n_enumerate => refine' PySem.W.mg_none_of KX G ?a; (case a => k_is))
    (case f_is_room => refine' mkG KX G ?hb ?a ?l ?c ?k; (case hb => exact fun _ _ _ _ _ _ us hl => match us, hl with | [_, _], _ => rfl); (case a => k_is); (case l => k_is); (case c => k_is); (case k => k_is))
    (case f_Wants_take_ways => refine' mkM ?hb ?a ?i ?l ?c ?k; (case hb => exact fun _ _ _ _ _ _ us hl => match us, hl with | [_, _], _ => rfl); (case a => k_is); (case i => k_is); (case l => k_is); (case c => k_is); (case k => k_is))
    (case k_Wants => refine' mkCls ?pg ?hd ?po ?sa ?ha ?hn ?ht ?hm; (case pg => k_is); (case hd => k_is); (case po => k_is); (case sa => k_is); (case ha => k_is); (case hn => k_is); (case ht => k_is); (case hm => k_is))
    (case na_Wants_ways => (try unfold L2.NoAttr); k_is)
    (case na_Wants_rooms => (try unfold L2.NoAttr); k_is)
    (case na_Wants_letters => (try unfold L2.NoAttr); k_is)
    (case er_BadText => refine' mkErr (st := L2.inClass (K75.st 4) 0) KX G newX iniX PySem.W.kxs_Exception PySem.F.store_Exception (by decide +kernel) (by decide) (by decide) (by decide) ?bd ?sc ?gC ?kC ?ini ?ov ?sa ?ic ?ti ?tk ?hd ?bs ?xs ?ty ?mr ?sup ?opq ?sg ?l ?co ?lc ?v2 ?fl ?lx ?hb; (case bd => exact ⟨_, _, _, _, _, _, _, _, _, _, rfl, (.cons .nil), rfl, rfl, rfl⟩); (case sc => exact ⟨rfl, rfl, by decide +kernel, by decide +kernel, rfl, rfl, rfl, by decide +kernel⟩); (case gC => k_is); (case kC => k_is); (case ini => kx_is); (case ov => kx_is); (case sa => k_is); (case ic => k_is); (case ti => k_is); (case tk => refine' forall_s1 ?t0; (case t0 => k_is)); (case hd => k_is); (case bs => k_is); (case xs => k_is); (case ty => k_is); (case mr => k_is); (case sup => ks_is); (case opq => k_is); (case sg => k_is); (case l => k_is); (case co => k_is); (case lc => k_is); (case v2 => rfl); (case fl => decide +kernel); (case lx => k_is); (case hb => exact fun s us hl => match us, hl with | [_, _], _ => .of_eq rfl))
    (case f_read_pairs => refine' mkG KX G ?hb ?a ?l ?c ?k; (case hb => exact fun _ _ _ _ _ _ us hl => match us, hl with | [_], _ => rfl); (case a => k_is); (case l => k_is); (case c => k_is); (case k => k_is))
    (case f_Wants___init__ => refine' mkI ?hb ?a ?i ?l ?c ?k ?mk ?kc; (case hb => exact fun _ _ _ _ _ _ us hl => match us, hl with | [_, _], _ => rfl); (case a => k_is); (case i => k_is); (case l => k_is); (case c => k_is); (case k => k_is); (case mk => k_is); (case kc => k_is))
    (case g_Wants => refine' mkCon KX G ?a; (case a => k_is))
    (case is_Wants => refine' ⟨?n, ?b, ?i, ?s, ?l, ?t, ?cs⟩; (case n => (try dsimp only); refine' kit_ref ?ka ?kb ?kc ?kd; (case ka => k_is); (case kb => k_is); (case kc => k_is); (case kd => first | exact .inr rfl | exact .inl (by decide))); (case b => (try dsimp only); refine' kit_ref ?ka ?kb ?kc ?kd; (case ka => k_is); (case kb => k_is); (case kc => k_is); (case kd => first | exact .inr rfl | exact .inl (by decide))); (case i => (try dsimp only); refine' kit_ref ?ka ?kb ?kc ?kd; (case ka => k_is); (case kb => k_is); (case kc => k_is); (case kd => first | exact .inr rfl | exact .inl (by decide))); (case s => (try dsimp only); refine' kit_ref ?ka ?kb ?kc ?kd; (case ka => k_is); (case kb => k_is); (case kc => k_is); (case kd => first | exact .inr rfl | exact .inl (by decide))); (case l => (try dsimp only); refine' kit_ref ?ka ?kb ?kc ?kd; (case ka => k_is); (case kb => k_is); (case kc => k_is); (case kd => first | exact .inr rfl | exact .inl (by decide))); (case t => (try dsimp only); refine' kit_ref ?ka ?kb ?kc ?kd; (case ka => k_is); (case kb => k_is); (case kc => k_is); (case kd => first | exact .inr rfl | exact .inl (by decide))); (case cs => refine' (lkC ⟨?u0, ?v0⟩ lkC0); (case u0 => (try simp only [K75.CN]); refine' mkCls ?pg ?hd ?po ?sa ?ha ?hn ?ht ?hm; (case pg => k_is); (case hd => k_is); (case po => k_is); (case sa => k_is); (case ha => k_is); (case hn => k_is); (case ht => k_is); (case hm => k_is)); (case v0 => (try simp only [K75.CN]); (try dsimp only); refine' kit_ref ?ka ?kb ?kc ?kd; (case ka => k_is); (case kb => k_is); (case kc => k_is); (case kd => first | exact .inr rfl | exact .inl (by decide)))))
    (case er_NoRoom => refine' mkErr (st := L2.inClass (K75.st 7) 0) KX G newK.choose_spec.choose_spec iniK kxsK storeK (by decide +kernel) (by decide) (by decide) (by decide) ?bd ?sc ?gC ?kC ?ini ?ov ?sa ?ic ?ti ?tk ?hd ?bs ?xs ?ty ?mr ?sup ?opq ?sg ?l ?co ?lc ?v2 ?fl ?lx ?hb; (case bd => exact ⟨_, _, _, _, _, _, _, _, _, _, rfl, (.cons .nil), rfl, rfl, rfl⟩); (case sc => exact ⟨rfl, rfl, by decide +kernel, by decide +kernel, rfl, rfl, rfl, by decide +kernel⟩); (case gC => k_is); (case kC => k_is); (case ini => kx_is); (case ov => kx_is); (case sa => k_is); (case ic => k_is); (case ti => k_is); (case tk => refine' forall_s1 ?t0; (case t0 => k_is)); (case hd => k_is); (case bs => k_is); (case xs => k_is); (case ty => k_is); (case mr => k_is); (case sup => ks_is); (case opq => k_is); (case sg => k_is); (case l => k_is); (case co => k_is); (case lc => k_is); (case v2 => rfl); (case fl => decide +kernel); (case lx => k_is); (case hb => exact fun s us hl => match us, hl with | [_, _], _ => .of_eq rfl))
    (case f_is_any_row => refine' mkG KX G ?hb ?a ?l ?c ?k; (case hb => exact fun _ _ _ _ _ _ us hl => match us, hl with | [_], _ => rfl); (case a => k_is); (case l => k_is); (case c => k_is); (case k => k_is))
    (case er_BadRow => refine' mkErr (st := L2.inClass (K75.st 3) 0) KX G newX iniX PySem.W.kxs_Exception PySem.F.store_Exception (by decide +kernel) (by decide) (by decide) (by decide) ?bd ?sc ?gC ?kC ?ini ?ov ?sa ?ic ?ti ?tk ?hd ?bs ?xs ?ty ?mr ?sup ?opq ?sg ?l ?co ?lc ?v2 ?fl ?lx ?hb; (case bd => exact ⟨_, _, _, _, _, _, _, _, _, _, rfl, (.cons .nil), rfl, rfl, rfl⟩); (case sc => exact ⟨rfl, rfl, by decide +kernel, by decide +kernel, rfl, rfl, rfl, by decide +kernel⟩); (case gC => k_is); (case kC => k_is); (case ini => kx_is); (case ov => kx_is); (case sa => k_is); (case ic => k_is); (case ti => k_is); (case tk => refine' forall_s1 ?t0; (case t0 => k_is)); (case hd => k_is); (case bs => k_is); (case xs => k_is); (case ty => k_is); (case mr => k_is); (case sup => ks_is); (case opq => k_is); (case sg => k_is); (case l => k_is); (case co => k_is); (case lc => k_is); (case v2 => rfl); (case fl => decide +kernel); (case lx => k_is); (case hb => exact fun s us hl => match us, hl with | [_, _], _ => .of_eq rfl))
    (case f_Wants_after => refine' mkM ?hb ?a ?i ?l ?c ?k; (case hb => exact fun _ _ _ _ _ _ us hl => match us, hl with | [_, _, _], _ => rfl); (case a => k_is); (case i => k_is); (case l => k_is); (case c => k_is); (case k => k_is))
    (case f_Wants_room_of => refine' mkM ?hb ?a ?i ?l ?c ?k; (case hb => exact fun _ _ _ _ _ _ us hl => match us, hl with | [_, _], _ => rfl); (case a => k_is); (case i => k_is); (case l => k_is); (case c => k_is); (case k => k_is))
    (case er_Refused => refine' mkErr (st := L2.inClass (K75.st 6) 0) KX G newX iniX PySem.W.kxs_Exception PySem.F.store_Exception (by decide +kernel) (by decide) (by decide) (by decide) ?bd ?sc ?gC ?kC ?ini ?ov ?sa ?ic ?ti ?tk ?hd ?bs ?xs ?ty ?mr ?sup ?opq ?sg ?l ?co ?lc ?v2 ?fl ?lx ?hb; (case bd => exact ⟨_, _, _, _, _, _, _, _, _, _, rfl, (.cons .nil), rfl, rfl, rfl⟩); (case sc => exact ⟨rfl, rfl, by decide +kernel, by decide +kernel, rfl, rfl, rfl, by decide +kernel⟩); (case gC => k_is); (case kC => k_is); (case ini => kx_is); (case ov => kx_is); (case sa => k_is); (case ic => k_is); (case ti => k_is); (case tk => refine' forall_s1 ?t0; (case t0 => k_is)); (case hd => k_is); (case bs => k_is); (case xs => k_is); (case ty => k_is); (case mr => k_is); (case sup => ks_is); (case opq => k_is); (case sg => k_is); (case l => k_is); (case co => k_is); (case lc => k_is); (case v2 => rfl); (case fl => decide +kernel); (case lx => k_is); (case hb => exact fun s us hl => match us, hl with | [_, _], _ => .of_eq rfl))
    (case n_sum => refine' PySem.W.mg_none_of KX G ?a; (case a => k_is))
    (case n_abs => refine' PySem.W.mg_none_of KX G ?a; (case a => k_is))
    (case f__law_take => refine' mkG KX G ?hb ?a ?l ?c ?k; (case hb => exact fun _ _ _ _ _ _ us hl => match us, hl with | [_, _], _ => rfl); (case a => k_is); (case l => k_is); (case c => k_is); (case k => k_is))
    (case g_BadWants => refine' mkCon KX G ?a; (case a => k_is))
    (case ex__law_wants_fault_BadWants => refine' (lkC ?v0 (lkC ?v1 (lkC ?v2 (lkC ?v3 (lkC ?v4 (lkC ?v5 lkC0)))))); (case v0 => (try simp only [K75.CN]); refine' PySem.W.exm_ref ?a ?b ?c ?d; (case a => k_is); (case b => k_is); (case c => k_is); (case d => k_is)); (case v1 => (try simp only [K75.CN]); refine' PySem.W.exm_ref ?a ?b ?c ?d; (case a => k_is); (case b => k_is); (case c => k_is); (case d => k_is)); (case v2 => (try simp only [K75.CN]); refine' PySem.W.exm_ref ?a ?b ?c ?d; (case a => k_is); (case b => k_is); (case c => k_is); (case d => k_is)); (case v3 => (try simp only [K75.CN]); refine' PySem.W.exm_ref ?a ?b ?c ?d; (case a => k_is); (case b => k_is); (case c => k_is); (case d => k_is)); (case v4 => (try simp only [K75.CN]); refine' PySem.W.exm_ref ?a ?b ?c ?d; (case a => k_is); (case b => k_is); (case c => k_is); (case d => k_is)); (case v5 => (try simp only [K75.CN]); refine' PySem.W.exm_ref ?a ?b ?c ?d; (case a => k_is); (case b => k_is); (case c => k_is); (case d => k_is)))
    (case xi_BadWants_RuelessError => refine' (lkC ⟨?u0, ?v0⟩ lkC0); (case u0 => (try simp only [K75.CN]); refine' ⟨?a, ?b, ?c, ?d, ?e, ?f, ?g, ?h⟩; (case a => k_is); (case b => k_is); (case c => k_is); (case d => k_is); (case e => k_is); (case f => k_is); (case g => k_is); (case h => k_is)); (case v0 => (try simp only [K75.CN]); refine' kit_ref ?ka ?kb ?kc ?kd; (case ka => k_is); (case kb => k_is); (case kc => k_is); (case kd => first | exact .inr rfl | exact .inl (by decide))))
    (case g_RuelessError => refine' mkCon KX G ?a; (case a => k_is))
    (case xi_BadWants_Refused => refine' (lkC ⟨?u0, ?v0⟩ lkC0); (case u0 => (try simp only [K75.CN]); refine' ⟨?a, ?b, ?c, ?d, ?e, ?f, ?g, ?h⟩; (case a => k_is); (case b => k_is); (case c => k_is); (case d => k_is); (case e => k_is); (case f => k_is); (case g => k_is); (case h => k_is)); (case v0 => (try simp only [K75.CN]); refine' kit_ref ?ka ?kb ?kc ?kd; (case ka => k_is); (case kb => k_is); (case kc => k_is); (case kd => first | exact .inr rfl | exact .inl (by decide))))
    (case g_Refused => refine' mkCon KX G ?a; (case a => k_is))
    (case xf_BadWants => refine' ⟨?a, ?b, ?c, ?d⟩; (case a => k_is); (case b => k_is); (case c => k_is); (case d => k_is))
    (case xn_BadWants_at => (try unfold L2.NoAttr); k_is)
    (case g_BadText => refine' mkCon KX G ?a; (case a => k_is))
    (case ex__law_text_fault_BadText => refine' (lkC ?v0 (lkC ?v1 (lkC ?v2 (lkC ?v3 (lkC ?v4 (lkC ?v5 lkC0)))))); (case v0 => (try simp only [K75.CN]); refine' PySem.W.exm_ref ?a ?b ?c ?d; (case a => k_is); (case b => k_is); (case c => k_is); (case d => k_is)); (case v1 => (try simp only [K75.CN]); refine' PySem.W.exm_ref ?a ?b ?c ?d; (case a => k_is); (case b => k_is); (case c => k_is); (case d => k_is)); (case v2 => (try simp only [K75.CN]); refine' PySem.W.exm_ref ?a ?b ?c ?d; (case a => k_is); (case b => k_is); (case c => k_is); (case d => k_is)); (case v3 => (try simp only [K75.CN]); refine' PySem.W.exm_ref ?a ?b ?c ?d; (case a => k_is); (case b => k_is); (case c => k_is); (case d => k_is)); (case v4 => (try simp only [K75.CN]); refine' PySem.W.exm_ref ?a ?b ?c ?d; (case a => k_is); (case b => k_is); (case c => k_is); (case d => k_is)); (case v5 => (try simp only [K75.CN]); refine' PySem.W.exm_ref ?a ?b ?c ?d; (case a => k_is); (case b => k_is); (case c => k_is); (case d => k_is)))
    (case f_Wants_parse => refine' mkS ?hb ?a ?rd ?ga ?r ?l ?c ?k; (case hb => exact fun _ _ _ _ _ _ us hl => match us, hl with | [_], _ => rfl); (case a => k_is); (case rd => k_is); (case ga => k_is); (case r => k_is); (case l => k_is); (case c => k_is); (case k => k_is))
    (case xf_BadText => refine' ⟨?a, ?b, ?c, ?d⟩; (case a => k_is); (case b => k_is); (case c => k_is); (case d => k_is))
    (case xn_BadText_at => (try unfold L2.NoAttr); k_is)
    (case g_BadRow => refine' mkCon KX G ?a; (case a => k_is))
    (case ex__law_row_fault_BadRow => refine' (lkC ?v0 (lkC ?v1 (lkC ?v2 (lkC ?v3 (lkC ?v4 (lkC ?v5 lkC0)))))); (case v0 => (try simp only [K75.CN]); refine' PySem.W.exm_ref ?a ?b ?c ?d; (case a => k_is); (case b => k_is); (case c => k_is); (case d => k_is)); (case v1 => (try simp only [K75.CN]); refine' PySem.W.exm_ref ?a ?b ?c ?d; (case a => k_is); (case b => k_is); (case c => k_is); (case d => k_is)); (case v2 => (try simp only [K75.CN]); refine' PySem.W.exm_ref ?a ?b ?c ?d; (case a => k_is); (case b => k_is); (case c => k_is); (case d => k_is)); (case v3 => (try simp only [K75.CN]); refine' PySem.W.exm_ref ?a ?b ?c ?d; (case a => k_is); (case b => k_is); (case c => k_is); (case d => k_is)); (case v4 => (try simp only [K75.CN]); refine' PySem.W.exm_ref ?a ?b ?c ?d; (case a => k_is); (case b => k_is); (case c => k_is); (case d => k_is)); (case v5 => (try simp only [K75.CN]); refine' PySem.W.exm_ref ?a ?b ?c ?d; (case a => k_is); (case b => k_is); (case c => k_is); (case d => k_is)))
    (case xf_BadRow => refine' ⟨?a, ?b, ?c, ?d⟩; (case a => k_is); (case b => k_is); (case c => k_is); (case d => k_is))
    (case xn_BadRow_at => (try unfold L2.NoAttr); k_is)
    (case g_NoRoom => refine' mkCon KX G ?a; (case a => k_is))
    (case ex__law_room_fault_NoRoom => refine' (lkC ?v0 (lkC ?v1 (lkC ?v2 (lkC ?v3 (lkC ?v4 (lkC ?v5 lkC0)))))); (case v0 => (try simp only [K75.CN]); refine' PySem.W.exm_ref ?a ?b ?c ?d; (case a => k_is); (case b => k_is); (case c => k_is); (case d => k_is)); (case v1 => (try simp only [K75.CN]); refine' PySem.W.exm_ref ?a ?b ?c ?d; (case a => k_is); (case b => k_is); (case c => k_is); (case d => k_is)); (case v2 => (try simp only [K75.CN]); refine' PySem.W.exm_ref ?a ?b ?c ?d; (case a => k_is); (case b => k_is); (case c => k_is); (case d => k_is)); (case v3 => (try simp only [K75.CN]); refine' PySem.W.exm_ref ?a ?b ?c ?d; (case a => k_is); (case b => k_is); (case c => k_is); (case d => k_is)); (case v4 => (try simp only [K75.CN]); refine' PySem.W.exm_ref ?a ?b ?c ?d; (case a => k_is); (case b => k_is); (case c => k_is); (case d => k_is)); (case v5 => (try simp only [K75.CN]); refine' PySem.W.exm_ref ?a ?b ?c ?d; (case a => k_is); (case b => k_is); (case c => k_is); (case d => k_is)))
    (case xf_NoRoom => refine' ⟨?a, ?b, ?c, ?d⟩; (case a => k_is); (case b => k_is); (case c => k_is); (case d => k_is))
    (case xn_NoRoom_room => (try unfold L2.NoAttr); k_is)
    (case n_repr => refine' PySem.W.mg_none_of KX G ?a; (case a => k_is))
    (case xi_NoRoom_RuelessError => refine' (lkC ⟨?u0, ?v0⟩ lkC0); (case u0 => (try simp only [K75.CN]); refine' ⟨?a, ?b, ?c, ?d, ?e, ?f, ?g, ?h⟩; (case a => k_is); (case b => k_is); (case c => k_is); (case d => k_is); (case e => k_is); (case f => k_is); (case g => k_is); (case h => k_is)); (case v0 => (try simp only [K75.CN]); refine' kit_ref ?ka ?kb ?kc ?kd; (case ka => k_is); (case kb => k_is); (case kc => k_is); (case kd => first | exact .inr rfl | exact .inl (by decide))))
    (case n_KeyError => refine' PySem.W.mg_none_of KX G ?a; (case a => k_is))
    (case ex__law_room_fault_KeyError => refine' (lkC ?v0 (lkC ?v1 (lkC ?v2 (lkC ?v3 (lkC ?v4 (lkC ?v5 lkC0)))))); (case v0 => (try simp only [K75.CN]); refine' exm_KErr ?a; (case a => k_is)); (case v1 => (try simp only [K75.CN]); refine' exm_KErr ?a; (case a => k_is)); (case v2 => (try simp only [K75.CN]); refine' exm_KErr ?a; (case a => k_is)); (case v3 => (try simp only [K75.CN]); refine' exm_KErr ?a; (case a => k_is)); (case v4 => (try simp only [K75.CN]); refine' exm_KErr ?a; (case a => k_is)); (case v5 => (try simp only [K75.CN]); refine' exm_KErr ?a; (case a => k_is)))
    (case f_Wants_letters_at => refine' mkM ?hb ?a ?i ?l ?c ?k; (case hb => exact fun _ _ _ _ _ _ us hl => match us, hl with | [_, _], _ => rfl); (case a => k_is); (case i => k_is); (case l => k_is); (case c => k_is); (case k => k_is))
    (case ex__law_length_fault_Refused => refine' (lkC ?v0 (lkC ?v1 (lkC ?v2 (lkC ?v3 (lkC ?v4 (lkC ?v5 lkC0)))))); (case v0 => (try simp only [K75.CN]); refine' PySem.W.exm_ref ?a ?b ?c ?d; (case a => k_is); (case b => k_is); (case c => k_is); (case d => k_is)); (case v1 => (try simp only [K75.CN]); refine' PySem.W.exm_ref ?a ?b ?c ?d; (case a => k_is); (case b => k_is); (case c => k_is); (case d => k_is)); (case v2 => (try simp only [K75.CN]); refine' PySem.W.exm_ref ?a ?b ?c ?d; (case a => k_is); (case b => k_is); (case c => k_is); (case d => k_is)); (case v3 => (try simp only [K75.CN]); refine' PySem.W.exm_ref ?a ?b ?c ?d; (case a => k_is); (case b => k_is); (case c => k_is); (case d => k_is)); (case v4 => (try simp only [K75.CN]); refine' PySem.W.exm_ref ?a ?b ?c ?d; (case a => k_is); (case b => k_is); (case c => k_is); (case d => k_is)); (case v5 => (try simp only [K75.CN]); refine' PySem.W.exm_ref ?a ?b ?c ?d; (case a => k_is); (case b => k_is); (case c => k_is); (case d => k_is)))
    (case f_Wants_row_count => refine' mkM ?hb ?a ?i ?l ?c ?k; (case hb => exact fun _ _ _ _ _ _ us hl => match us, hl with | [_, _], _ => rfl); (case a => k_is); (case i => k_is); (case l => k_is); (case c => k_is); (case k => k_is))
    (case xf_Refused => refine' ⟨?a, ?b, ?c, ?d⟩; (case a => k_is); (case b => k_is); (case c => k_is); (case d => k_is))
    (case xn_Refused_at => (try unfold L2.NoAttr); k_is)
    (case f__law_pick => refine' mkG KX G ?hb ?a ?l ?c ?k; (case hb => exact fun _ _ _ _ _ _ us hl => match us, hl with | [_, _], _ => rfl); (case a => k_is); (case l => k_is); (case c => k_is); (case k => k_is))
    (case f_Wants_wants_row => refine' mkM ?hb ?a ?i ?l ?c ?k; (case hb => exact fun _ _ _ _ _ _ us hl => match us, hl with | [_, _], _ => rfl); (case a => k_is); (case i => k_is); (case l => k_is); (case c => k_is); (case k => k_is))
    (case f__law_row_fault => refine' mkG KX G ?hb ?a ?l ?c ?k; (case hb => exact fun _ _ _ _ _ _ us hl => match us, hl with | [_, _], _ => rfl); (case a => k_is); (case l => k_is); (case c => k_is); (case k => k_is))
    (case f__law_length_fault => refine' mkG KX G ?hb ?a ?l ?c ?k; (case hb => exact fun _ _ _ _ _ _ us hl => match us, hl with | [_, _], _ => rfl); (case a => k_is); (case l => k_is); (case c => k_is); (case k => k_is))
    (case f__law_room_fault => refine' mkG KX G ?hb ?a ?l ?c ?k; (case hb => exact fun _ _ _ _ _ _ us hl => match us, hl with | [_, _], _ => rfl); (case a => k_is); (case l => k_is); (case c => k_is); (case k => k_is))
    (case f__law_text_fault => refine' mkG KX G ?hb ?a ?l ?c ?k; (case hb => exact fun _ _ _ _ _ _ us hl => match us, hl with | [_], _ => rfl); (case a => k_is); (case l => k_is); (case c => k_is); (case k => k_is))
    (case f__law_walk => refine' mkG KX G ?hb ?a ?l ?c ?k; (case hb => exact fun _ _ _ _ _ _ us hl => match us, hl with | [_, _], _ => rfl); (case a => k_is); (case l => k_is); (case c => k_is); (case k => k_is))
    (case f__law_count => refine' mkG KX G ?hb ?a ?l ?c ?k; (case hb => exact fun _ _ _ _ _ _ us hl => match us, hl with | [_, _], _ => rfl); (case a => k_is); (case l => k_is); (case c => k_is); (case k => k_is))
    (case f__law_steps => refine' mkG KX G ?hb ?a ?l ?c ?k; (case hb => exact fun _ _ _ _ _ _ us hl => match us, hl with | [_, _, _], _ => rfl); (case a => k_is); (case l => k_is); (case c => k_is); (case k => k_is))
    (case f_Wants___eq__ => refine' mkQ ?hb ?a ?i ?n ?o ?l ?c ?k; (case hb => exact fun _ _ _ _ _ _ us hl => match us, hl with | [_, _], _ => rfl); (case a => k_is); (case i => k_is); (case n => k_is); (case o => k_is); (case l => k_is); (case c => k_is); (case k => k_is))
    (case nf_Wants => refine' nfOk ?q ?b0 ?b1 ?b2 ?b3 ?b4 ?b5 ?b6; (case q => (try simp only [K75.CN]); refine' mkCls ?pg ?hd ?po ?sa ?ha ?hn ?ht ?hm; (case pg => k_is); (case hd => k_is); (case po => k_is); (case sa => k_is); (case ha => k_is); (case hn => k_is); (case ht => k_is); (case hm => k_is)); (case b0 => (try simp only [K75.CN]); k_is); (case b1 => (try simp only [K75.CN]); k_is); (case b2 => (try simp only [K75.CN]); k_is); (case b3 => (try simp only [K75.CN]); k_is); (case b4 => (try simp only [K75.CN]); k_is); (case b5 => (try simp only [K75.CN]); k_is); (case b6 => (try simp only [K75.CN]); k_is))
    (case f__law_walked_right => refine' mkG KX G ?hb ?a ?l ?c ?k; (case hb => exact fun _ _ _ _ _ _ us hl => match us, hl with | [_, _, _], _ => rfl); (case a => k_is); (case l => k_is); (case c => k_is); (case k => k_is))
    (case f__law_faults_right => refine' mkG KX G ?hb ?a ?l ?c ?k; (case hb => exact fun _ _ _ _ _ _ us hl => match us, hl with | [_, _], _ => rfl); (case a => k_is); (case l => k_is); (case c => k_is); (case k => k_is))
    (case f__law_text => refine' mkG KX G ?hb ?a ?l ?c ?k; (case hb => exact fun _ _ _ _ _ _ us hl => match us, hl with | [_], _ => rfl); (case a => k_is); (case l => k_is); (case c => k_is); (case k => k_is))
    (case f_Wants_text => refine' mkP ?hb ?a ?g1 ?t ?r ?l ?c ?k; (case hb => exact fun _ _ _ _ _ _ us hl => match us, hl with | [_], _ => rfl); (case a => k_is); (case g1 => k_is); (case t => k_is); (case r => k_is); (case l => k_is); (case c => k_is); (case k => k_is))
    (case f__law_wants_fault => refine' mkG KX G ?hb ?a ?l ?c ?k; (case hb => exact fun _ _ _ _ _ _ us hl => match us, hl with | [_], _ => rfl); (case a => k_is); (case l => k_is); (case c => k_is); (case k => k_is))
    (case f__law_bent => refine' mkG KX G ?hb ?a ?l ?c ?k; (case hb => exact fun _ _ _ _ _ _ us hl => match us, hl with | [_, _, _], _ => rfl); (case a => k_is); (case l => k_is); (case c => k_is); (case k => k_is))
    (case f__law_case_right => refine' mkG KX G ?hb ?a ?l ?c ?k; (case hb => exact fun _ _ _ _ _ _ us hl => match us, hl with | [_], _ => rfl); (case a => k_is); (case l => k_is); (case c => k_is); (case k => k_is))
    (case f__law_box => refine' mkG KX G ?hb ?a ?l ?c ?k; (case hb => exact fun _ _ _ _ _ _ us hl => match us, hl with | [_, _], _ => rfl); (case a => k_is); (case l => k_is); (case c => k_is); (case k => k_is))
    (case f_law => refine' mkG KX G ?hb ?a ?l ?c ?k; (case hb => exact fun _ _ _ _ _ _ us hl => match us, hl with | [_], _ => rfl); (case a => k_is); (case l => k_is); (case c => k_is); (case k => k_is))
