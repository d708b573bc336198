import PyProof.Rows.All
import Wide.All
import OpenK.AllK
import Wide.FinOn
import PySem.Challenge.RW_patterncounts_k05_error_classes
import PySem.Str
import HandS.List
import HandS.Comp
import HandS.Dict
import HandS.Iter
import HandS.Exc
import HandS.TupAny
import HandS.Wide
import HandS.SortInts
import HandS.Words
import HandS.WordsList
import HandS.Deep
import HandS.IsInst
import HandS.ExcOwn
import HandS.CallSlots
import HandS.WordsExc
import HandS.Defaults
import HandS.Walk
import HandS.Flow
import KE.GoesEnum
import HandS.Zip
import KE.KTupSum
import HandS.More
import HandS.SortRule
import HandS.Ends
import HandS.EndBits
import HandS.ExcIs
import HandS.ExcField
import HandS.ExcInit
import HandS.TryOnly
import HandS.ExcValue
import HandS.Property
import HandS.Head0
import HandS.Head1
import HandS.Head2
import HandS.HeadEnd
import HandS.HeadHook1
import HandS.HeadHook2
import HandS.RaiseMore
import HandS.Conv
import HandS.Style
import HandS.FStr
import HandS.Text
import KE.KCallOwn
import KE.SortData
import HandS.SetFor
import HandS.DictComp
import KE.DataMinMax
import HandS.Star
import HandS.TupMul
import HandS.Small
import HandS.Nested
import HandS.ClsMeth
import KE.KSuper
import HandS.HeadHook3
import HandS.MakeKw
import PyProof.StrOps2
import PyProof.ReprRoads
import PyProof.Rows.StrOr
import KE.KStateDown
/-! PDCore: plain data, the monad of runs, all paths; the operations on data. No program here. -/
set_option linter.all false
namespace PD
open PySem

/-- plain data: what a value stands for -/
inductive D where
  | non
  | bl (b : Bool)
  | int (i : Int)
  | str (x : Str)
  | tup (xs : List D)
  | lst (xs : List D)
  | dct (kvs : List (D × D))
  | obj (c : Nat) (fs : List (Str × D))
  | src
instance : Inhabited D := ⟨.non⟩

/-- a run: it comes to an end, is not told, raises an error of the class c with one field's value, or draws -/
inductive M (α : Type) where
  | ret (a : α)
  | bad
  | raise (c : Nat) (d : D)
  | draw (lim : Int) (k : Int → M α)
def M.bind {α β : Type} : M α → (α → M β) → M β
  | .ret a, f => f a
  | .bad, _ => .bad
  | .raise c d, _ => .raise c d
  | .draw l k, f => .draw l fun i => (k i).bind f
instance : Monad M where
  pure := .ret
  bind := M.bind
section
variable {α β γ : Type}
@[simp] theorem pure_ret (a : α) : (pure a : M α) = .ret a := rfl
@[simp] theorem ret_bind (a : α) (f : α → M β) : (M.ret a >>= f) = f a := rfl
@[simp] theorem bad_bind (f : α → M β) : ((M.bad : M α) >>= f) = .bad := rfl
@[simp] theorem raise_bind (c : Nat) (d : D) (f : α → M β) : ((M.raise c d : M α) >>= f) = .raise c d := rfl
@[simp] theorem draw_bind (l : Int) (k : Int → M α) (f : α → M β) : ((M.draw l k) >>= f) = .draw l fun i => k i >>= f := rfl
@[simp] theorem bind_assoc' (m : M α) (f : α → M β) (g : β → M γ) : ((m >>= f) >>= g) = m >>= fun a => f a >>= g := by
  induction m with
  | ret a => rfl
  | bad => rfl
  | raise c d => rfl
  | draw l k ih => simp only [draw_bind, ih]
theorem bind_ret (m : M α) : (m >>= M.ret) = m := by
  induction m with
  | ret a => rfl
  | bad => rfl
  | raise c d => rfl
  | draw l k ih => simp only [draw_bind, ih]
/-- every path of at most n draws ends in P, or raises in E -/
def AllB : M α → Nat → (Nat → α → Prop) → (Nat → Nat → D → Prop) → Prop
  | .ret a, n, P, _ => P n a
  | .bad, _, _, _ => False
  | .raise c d, n, _, E => E n c d
  | .draw l k, n, P, E => 0 < l ∧ l < 2 ^ 4000 ∧ ∃ n', n = n' + 1 ∧ ∀ i, 0 ≤ i → i < l → AllB (k i) n' P E
variable {m : M α} {f : α → M β} {n : Nat} {P P' : Nat → α → Prop} {Q : Nat → β → Prop} {E E' : Nat → Nat → D → Prop}
theorem AllB.mono (h : AllB m n P E) (hP : ∀ n a, P n a → P' n a) (hE : ∀ n c d, E n c d → E' n c d) : AllB m n P' E' := by
  induction m generalizing n with
  | ret a => exact hP _ _ h
  | bad => exact h
  | raise c d => exact hE _ _ _ h
  | draw l k ih =>
    obtain ⟨h1, h2, n', e, h3⟩ := h
    exact ⟨h1, h2, n', e, fun i a b => ih i (h3 i a b)⟩
theorem allB_ite {c : Prop} [Decidable c] (h : AllB (if c then m else .bad) n P E) : c ∧ AllB m n P E := by
  by_cases hc : c
  · rw [if_pos hc] at h; exact ⟨hc, h⟩
  · rw [if_neg hc] at h; exact False.elim h
theorem allB_bind : AllB (m >>= f) n Q E ↔ AllB m n (fun n' a => AllB (f a) n' Q E) E := by
  induction m generalizing n with
  | ret a => exact Iff.rfl
  | bad => exact Iff.rfl
  | raise c d => exact Iff.rfl
  | draw l k ih =>
    constructor
    · rintro ⟨h1, h2, n', e, h3⟩
      exact ⟨h1, h2, n', e, fun i a b => ih i |>.mp (h3 i a b)⟩
    · rintro ⟨h1, h2, n', e, h3⟩
      exact ⟨h1, h2, n', e, fun i a b => ih i |>.mpr (h3 i a b)⟩
end

/-! ### data: equality, kinds -/
mutual
def eqD : D → D → Bool
  | .non, .non => true
  | .bl a, .bl b => a == b
  | .bl a, .int j => (if a then 1 else 0) == j
  | .int i, .bl b => i == (if b then 1 else 0)
  | .int i, .int j => i == j
  | .str x, .str y => x == y
  | .lst xs, .lst ys => eqDs xs ys
  | .tup xs, .tup ys => eqDs xs ys
  | _, _ => false
def eqDs : List D → List D → Bool
  | [], [] => true
  | x :: xs, y :: ys => eqD x y && eqDs xs ys
  | _, _ => false
end
/-- every sign of a text is one that a text may hold -/
def strOkD (x : Str) : Bool := x.cps.all fun c => decide (c < 1114112)
/-- None, bools, ints, texts, and lists and tuples of such, at most n levels -/
def okD : Nat → D → Bool
  | _, .non => true
  | _, .bl _ => true
  | _, .int _ => true
  | _, .str x => strOkD x
  | n + 1, .tup xs => xs.all (okD n)
  | n + 1, .lst xs => xs.all (okD n)
  | _, _ => false
/-- texts of any signs -/
def bothS : D → D → Bool
  | .str _, .str _ => true
  | _, _ => false
def eqM (x y : D) : M D := if bothS x y || okD 64 x && okD 64 y then .ret (.bl (eqD x y)) else .bad
def neM (x y : D) : M D := if bothS x y || okD 64 x && okD 64 y then .ret (.bl (!eqD x y)) else .bad
theorem bothS_in {x y : D} (h : bothS x y = true) : ∃ a b, x = .str a ∧ y = .str b := by
  cases x <;> cases y <;> first | exact ⟨_, _, rfl, rfl⟩ | cases h

/-- what isinstance may ask for -/
inductive Ty where
  | int | bool | str | list | tuple | dict
  | own (c : Nat)
  deriving DecidableEq
/-- isinstance; sub: the own classes' order -/
def isD (sub : Nat → Nat → Bool) : D → Ty → Bool
  | .bl _, .int => true
  | .bl _, .bool => true
  | .int _, .int => true
  | .str _, .str => true
  | .lst _, .list => true
  | .tup _, .tuple => true
  | .dct _, .dict => true
  | .obj c _, .own c' => sub c c'
  | _, _ => false

abbrev line : Nat := 16777216
def addM : D → D → M D
  | .int i, .int j => .ret (.int (i + j))
  | .str x, .str y => if x.length + y.length ≤ line then .ret (.str (x ++ y)) else .bad
  | .lst xs, .lst ys => if xs.length + ys.length ≤ line then .ret (.lst (xs ++ ys)) else .bad
  | .tup xs, .tup ys => if xs.length + ys.length ≤ line then .ret (.tup (xs ++ ys)) else .bad
  | _, _ => .bad
def subM : D → D → M D
  | .int i, .int j => .ret (.int (i - j))
  | _, _ => .bad
def mulM : D → D → M D
  | .int i, .int j => if i.natAbs.log2 + j.natAbs.log2 < 1000000 then .ret (.int (i * j)) else .bad
  | _, _ => .bad
def fdivM : D → D → M D
  | .int i, .int j => if 0 < j ∧ j.natAbs.log2 < 9000 then .ret (.int (i / j)) else .bad
  | _, _ => .bad
def modM : D → D → M D
  | .int i, .int j => if 0 < j then .ret (.int (i % j)) else .bad
  | _, _ => .bad
def cmpM (p : Int → Int → Bool) : D → D → M D
  | .int i, .int j => .ret (.bl (p i j))
  | _, _ => .bad
def lenM : D → M D
  | .str x => if x.length ≤ line then .ret (.int x.length) else .bad
  | .lst xs => .ret (.int xs.length)
  | .tup xs => .ret (.int xs.length)
  | .dct kvs => .ret (.int kvs.length)
  | _ => .bad
/-- x in xs, for plain items -/
def inM (x : D) : D → M D
  | .lst ys => if okD 64 x && ys.all (okD 64) then .ret (.bl (ys.any fun y => eqD y x)) else .bad
  | .tup ys => if okD 64 x && ys.all (okD 64) then .ret (.bl (ys.any fun y => eqD y x)) else .bad
  | _ => .bad
/-- the place of an index, from the end if it lies below 0 -/
def placeI (i : Int) (n : Nat) : Option Nat :=
  if 0 ≤ i then (if i < n then some i.toNat else none) else (if -(n : Int) ≤ i then some (i + n).toNat else none)
def ixM : D → D → M D
  | .lst xs, .int i => match (placeI i xs.length).bind fun k => xs[k]? with
    | some x => .ret x
    | none => .bad
  | .tup xs, .int i => match (placeI i xs.length).bind fun k => xs[k]? with
    | some x => .ret x
    | none => .bad
  | .str z, .int i => if z.length ≤ line then (match (placeI i z.cps.toList.length).bind fun k => z.cps.toList[k]? with
    | some c => .ret (.str ⟨#[c]⟩)
    | none => .bad) else .bad
  | _, _ => .bad
/-- an end of a slice -/
def cutI (n d : Nat) : Option Int → Nat
  | none => d
  | some i => if i < 0 then (i + n).toNat else min i.toNat n
def cutL (xs : List D) (lo hi : Option Int) : List D := (xs.drop (cutI xs.length 0 lo)).take (cutI xs.length xs.length hi - cutI xs.length 0 lo)
def slM (lo hi : Option Int) : D → M D
  | .lst xs => .ret (.lst (cutL xs lo hi))
  | .tup xs => .ret (.tup (cutL xs lo hi))
  | _ => .bad
def slLM (lo hi : Option Int) : D → M D
  | .lst xs => .ret (.lst (cutL xs lo hi))
  | _ => .bad
def partM : D → M (Option Int)
  | .int i => .ret (some i)
  | _ => .bad
def powM : D → D → M D
  | .int i, .int j => if 0 ≤ j ∧ (i.natAbs.log2 + 1) * j.toNat ≤ 1000000 then .ret (.int (i ^ j.toNat)) else .bad
  | _, _ => .bad
def listM : D → M D
  | .lst xs => .ret (.lst xs)
  | .tup xs => .ret (.lst xs)
  | _ => .bad
def tupleM : D → M D
  | .lst xs => .ret (.tup xs)
  | .tup xs => .ret (.tup xs)
  | _ => .bad
def boolsL : List D → Option (List Bool)
  | [] => some []
  | .bl b :: ds => (boolsL ds).map (b :: ·)
  | _ :: _ => none
def allM : D → M D
  | .lst ds => match boolsL ds with
    | some bs => .ret (.bl (bs.all id))
    | none => .bad
  | _ => .bad
def anyM : D → M D
  | .lst ds => match boolsL ds with
    | some bs => .ret (.bl (bs.any id))
    | none => .bad
  | _ => .bad
def intsL : List D → Option (List Int)
  | [] => some []
  | .int b :: ds => (intsL ds).map (b :: ·)
  | _ :: _ => none
def sumM : D → M D
  | .lst ds => match intsL ds with
    | some bs => .ret (.int bs.sum)
    | none => .bad
  | .tup ds => match intsL ds with
    | some bs => .ret (.int bs.sum)
    | none => .bad
  | _ => .bad
def pairD : D → Option (Int × Int)
  | .tup [.int i, .int j] => some (i, j)
  | _ => none
def pairsL : List D → Option (List (Int × Int))
  | [] => some []
  | d :: ds => (pairD d).bind fun p => (pairsL ds).map (p :: ·)
def pD (p : Int × Int) : D := .tup [.int p.1, .int p.2]
theorem pairD_eq {d : D} {p : Int × Int} (h : pairD d = some p) : d = pD p := by
  unfold pairD at h
  split at h
  · cases h; rfl
  · cases h
theorem pairsL_eq : ∀ {ds : List D} {ps : List (Int × Int)}, pairsL ds = some ps → ds = ps.map pD
  | [], ps, h => by cases h; rfl
  | d :: ds, ps, h => by
    unfold pairsL at h
    cases e : pairD d with
    | none => rw [e] at h; cases h
    | some p =>
      rw [e] at h
      cases e2 : pairsL ds with
      | none => rw [e2] at h; cases h
      | some qs =>
        rw [e2] at h
        cases h
        rw [pairD_eq e, pairsL_eq e2]
        rfl
theorem pairsL_map : ∀ ps : List (Int × Int), pairsL (ps.map pD) = some ps
  | [] => rfl
  | p :: ps => by
    show (pairD (pD p)).bind _ = _
    rw [pairsL_map ps]
    rfl
def leI (a b : Int) : Bool := decide (a ≤ b)
def leP (a b : Int × Int) : Bool := decide (a.1 < b.1 ∨ a.1 = b.1 ∧ a.2 ≤ b.2)
def sortL (ds : List D) : M D := match intsL ds with
    | some bs => .ret (.lst ((bs.mergeSort leI).map .int))
    | none => match pairsL ds with
      | some ps => .ret (.lst ((ps.mergeSort leP).map pD))
      | none => .bad
def sortedM : D → M D
  | .lst ds => if ds.length ≤ line then sortL ds else .bad
  | .tup ds => if ds.length ≤ line then sortL ds else .bad
  | _ => .bad
def intM : D → M D
  | .int i => .ret (.int i)
  | .bl b => .ret (.int (if b then 1 else 0))
  | _ => .bad
def absM : D → M D
  | .int i => .ret (.int (if i < 0 then -i else i))
  | _ => .bad
def maxM : D → D → M D
  | .int i, .int j => .ret (.int (if j > i then j else i))
  | _, _ => .bad
def minM : D → D → M D
  | .int i, .int j => .ret (.int (if j < i then j else i))
  | _, _ => .bad

def truthM : D → M Bool
  | .bl b => .ret b
  | .non => .ret false
  | .int i => .ret (i != 0)
  | .lst xs => .ret (!xs.isEmpty)
  | .tup xs => .ret (!xs.isEmpty)
  | _ => .bad
def boolM : D → M Bool
  | .bl b => .ret b
  | _ => .bad

/-! ### slots -/
inductive Slot where
  /-- nothing -/
  | no
  /-- a value that stays as it is -/
  | v (d : D)
  /-- a list or dict that this frame alone holds, and may change -/
  | own (d : D)
  /-- a list or dict that a caller holds: read here, not kept -/
  | bor (d : D)
abbrev Env := List Slot
def eNoPart : Env → M (Option Int) := fun _ => .ret none
def ePart (f : Env → M D) : Env → M (Option Int) := fun e => f e >>= partM
def eSl (op : Option Int → Option Int → D → M D) (f : Env → M D) (lo hi : Env → M (Option Int)) : Env → M D := fun e => f e >>= fun x => lo e >>= fun l => hi e >>= fun h => op l h x
def getV (e : Env) (i : Nat) : M D := match e[i]? with
  | some (.v d) => .ret d
  | _ => .bad
def getR (e : Env) (i : Nat) : M D := match e[i]? with
  | some (.v d) => .ret d
  | some (.own d) => .ret d
  | some (.bor d) => .ret d
  | _ => .bad

def getS (e : Env) (i : Nat) : M D := match e[i]? with
  | some (.v d) => .ret d
  | some (.bor d) => .ret d
  | _ => .bad

/-! ### statements -/
/-- how a statement ends -/
inductive Fl where
  | nx | brk | cnt
  | rt (d : D)
  /-- a new container, in no one else's hand -/
  | rtF (d : D)
  | exc (c : Nat) (d : D)
/-- an expression's run within a statement: an error becomes the statement's end -/
def tryB {α : Type} : M α → Env → (α → M (Fl × Env)) → M (Fl × Env)
  | .ret a, _, k => k a
  | .bad, _, _ => .bad
  | .raise c d, e, _ => .ret (.exc c d, e)
  | .draw l f, e, k => .draw l fun i => tryB (f i) e k
section
variable {α : Type} {e : Env} {k : α → M (Fl × Env)}
@[simp] theorem tryB_ret (a : α) : tryB (.ret a) e k = k a := rfl
@[simp] theorem tryB_bad : tryB (.bad : M α) e k = .bad := rfl
@[simp] theorem tryB_raise (c : Nat) (d : D) : tryB (.raise c d : M α) e k = .ret (.exc c d, e) := rfl
@[simp] theorem tryB_draw (l : Int) (f : Int → M α) : tryB (.draw l f) e k = .draw l fun i => tryB (f i) e k := rfl
theorem allB_tryB {m : M α} {n : Nat} {P : Nat → Fl × Env → Prop} {E : Nat → Nat → D → Prop} :
    AllB (tryB m e k) n P E ↔ AllB m n (fun n' a => AllB (k a) n' P E) (fun n' c d => P n' (.exc c d, e)) := by
  induction m generalizing n with
  | ret a => exact Iff.rfl
  | bad => exact Iff.rfl
  | raise c d => exact Iff.rfl
  | draw l f ih =>
    constructor
    · rintro ⟨h1, h2, n', e, h3⟩
      exact ⟨h1, h2, n', e, fun i a b => (ih i).mp (h3 i a b)⟩
    · rintro ⟨h1, h2, n', e, h3⟩
      exact ⟨h1, h2, n', e, fun i a b => (ih i).mpr (h3 i a b)⟩
theorem tryB_bind {β : Type} (m : M β) (f : β → M α) : tryB (m >>= f) e k = tryB m e fun b => tryB (f b) e k := by
  induction m with
  | ret a => rfl
  | bad => rfl
  | raise c d => rfl
  | draw l g ih => simp only [draw_bind, tryB_draw, ih]
end
/-- errors are not told here -/
def noR {α : Type} : M α → M α
  | .ret a => .ret a
  | .bad => .bad
  | .raise _ _ => .bad
  | .draw l f => .draw l fun i => noR (f i)
@[simp] theorem noR_ret {α : Type} (a : α) : noR (.ret a) = .ret a := rfl
@[simp] theorem noR_bad {α : Type} : noR (.bad : M α) = .bad := rfl
theorem allB_noR {α : Type} {m : M α} {n : Nat} {P : Nat → α → Prop} {E E' : Nat → Nat → D → Prop} (h : AllB (noR m) n P E) : AllB m n P E' := by
  induction m generalizing n with
  | ret a => exact h
  | bad => exact h
  | raise c d => exact False.elim h
  | draw l f ih =>
    obtain ⟨h1, h2, n', e, h3⟩ := h
    exact ⟨h1, h2, n', e, fun i a b => ih i (h3 i a b)⟩
def sSkip : Env → M (Fl × Env) := fun e => .ret (.nx, e)
def sBrk : Env → M (Fl × Env) := fun e => .ret (.brk, e)
def sCnt : Env → M (Fl × Env) := fun e => .ret (.cnt, e)
def sNever : Env → M (Fl × Env) := fun _ => .bad
def sSeq (s t : Env → M (Fl × Env)) : Env → M (Fl × Env) := fun e => s e >>= fun r => match r with
  | (.nx, e') => t e'
  | r => .ret r
def sExpr (f : Env → M D) : Env → M (Fl × Env) := fun e => tryB (f e) e fun _ => .ret (.nx, e)
def sRet (f : Env → M D) : Env → M (Fl × Env) := fun e => tryB (f e) e fun d => .ret (.rt d, e)
/-- return e, a new container; return x, a container held here -/
def sRetF (f : Env → M D) : Env → M (Fl × Env) := fun e => tryB (f e) e fun d => .ret (.rtF d, e)
def sRetO (i : Nat) : Env → M (Fl × Env) := fun e => match e[i]? with
  | some (.own d) => .ret (.rtF d, e)
  | _ => .bad
def sRetN : Env → M (Fl × Env) := fun e => .ret (.rt .non, e)
def sIf (t : Env → M Bool) (a b : Env → M (Fl × Env)) : Env → M (Fl × Env) := fun e => tryB (t e) e fun c => if c then a e else b e
/-- x = e: a value that stays; a new container that this frame holds -/
def sSet (i : Nat) (f : Env → M D) : Env → M (Fl × Env) := fun e => tryB (f e) e fun d => .ret (.nx, e.set i (.v d))
def sSetO (i : Nat) (f : Env → M D) : Env → M (Fl × Env) := fun e => tryB (f e) e fun d => .ret (.nx, e.set i (.own d))
/-- from now on the container in slot i stays as it is -/
def frz (i : Nat) (e : Env) : Env := match e[i]? with
  | some (.own d) => e.set i (.v d)
  | _ => e
def sFrz (i : Nat) (s : Env → M (Fl × Env)) : Env → M (Fl × Env) := fun e => s (frz i e)
/-- x.append(e), x.insert(k, e) -/
def sApp (i : Nat) (f : Env → M D) : Env → M (Fl × Env) := fun e => match e[i]? with
  | some (.own (.lst ds)) => tryB (f e) e fun d => if ds.length < line then .ret (.nx, e.set i (.own (.lst (ds ++ [d])))) else .bad
  | _ => .bad
def sIns (i : Nat) (g f : Env → M D) : Env → M (Fl × Env) := fun e => match e[i]? with
  | some (.own (.lst ds)) => tryB (g e) e fun k => tryB (f e) e fun d => match k with
    | .int k => if ds.length < line ∧ 0 ≤ k ∧ k.natAbs < 1000000000 then .ret (.nx, e.set i (.own (.lst (ds.take k.toNat ++ [d] ++ ds.drop k.toNat)))) else .bad
    | _ => .bad
  | _ => .bad
/-- x[i] = e, x a list held here -/
def sSetIx (i : Nat) (g f : Env → M D) : Env → M (Fl × Env) := fun e => match e[i]? with
  | some (.own (.lst ds)) => tryB (f e) e fun d => tryB (g e) e fun k => match k with
    | .int k => match placeI k ds.length with
      | some j => .ret (.nx, e.set i (.own (.lst (ds.set j d))))
      | none => .bad
    | _ => .bad
  | _ => .bad
/-- the targets of a for -/
def tgN (i : Nat) : D → Env → Option Env := fun d e => some (e.set i (.v d))
def tgL : List (D → Env → Option Env) → List D → Env → Option Env
  | [], [], e => some e
  | t :: ts, d :: ds, e => (t d e).bind (tgL ts ds)
  | _, _, _ => none
def tgT (ts : List (D → Env → Option Env)) : D → Env → Option Env := fun d e => match d with
  | .tup ds => tgL ts ds e
  | _ => none
/-- target = e -/
def sAsg (tg : D → Env → Option Env) (f : Env → M D) : Env → M (Fl × Env) := fun e => tryB (f e) e fun d => match tg d e with
  | some e' => .ret (.nx, e')
  | none => .bad
def loopM (tg : D → Env → Option Env) (b : Env → M (Fl × Env)) : List D → Env → M (Fl × Env)
  | [], e => .ret (.nx, e)
  | d :: ds, e => match tg d e with
    | none => .bad
    | some e' => b e' >>= fun r => match r with
      | (.nx, e2) => loopM tg b ds e2
      | (.cnt, e2) => loopM tg b ds e2
      | (.brk, e2) => .ret (.nx, e2)
      | r => .ret r
def sFor (fi : Env → M (List D)) (tg : D → Env → Option Env) (b : Env → M (Fl × Env)) : Env → M (Fl × Env) := fun e => tryB (fi e) e fun ds => loopM tg b ds e
def wipeE (e : Env) : List Nat → Env
  | [] => e
  | i :: r => (wipeE e r).set i .no
def compM (tg : D → Env → Option Env) (ft : Env → M Bool) (fe : Env → M D) (e : Env) : List D → M (List D)
  | [] => .ret []
  | d :: ds => match tg d e with
    | none => .bad
    | some e' => ft e' >>= fun b => if b then fe e' >>= fun y => compM tg ft fe e ds >>= fun ys => .ret (y :: ys) else compM tg ft fe e ds
def isOwn : Slot → Bool
  | .own _ => true
  | _ => false
/-- within a comprehension the held containers are read alone -/
def borS : Slot → Slot
  | .own d => .bor d
  | s => s
def borE (e : Env) : Env := e.map borS
def eComp (vs : List Nat) (fi : Env → M (List D)) (tg : D → Env → Option Env) (ft : Env → M Bool) (fe : Env → M D) : Env → M D := fun e =>
  fi e >>= fun ds => if ds.length ≤ line ∧ (vs.any fun i => (e[i]?).any isOwn) = false then noR (compM tg ft fe (borE (wipeE e vs)) ds) >>= fun ys => .ret (.lst ys) else .bad
def eYes : Env → M Bool := fun _ => .ret true
/-- what a value is walked through -/
def itemsM : D → M (List D)
  | .lst ds => .ret ds
  | .tup ds => .ret ds
  | .str x => .ret (x.cps.toList.map fun c => .str ⟨#[c]⟩)
  | _ => .bad
def iSeq (f : Env → M D) : Env → M (List D) := fun e => f e >>= itemsM
theorem p62 : (2 : Int) ^ 62 = 4611686018427387904 := by decide
theorem in62 {j : Int} (h : j.natAbs < 1000000000) : -(2 ^ 62) ≤ j ∧ j < 2 ^ 62 := by
  rw [p62]
  omega
def rngM (i j : Int) : List D := (List.range (j - i).toNat).map fun k => .int (i + (k : Nat))
def rng1M : List D → M (List D)
  | [.int j] => if j.natAbs < 1000000000 then .ret (rngM 0 j) else .bad
  | _ => .bad
def rng2M : List D → M (List D)
  | [.int i, .int j] => if i.natAbs < 1000000000 ∧ j.natAbs < 1000000000 then .ret (rngM i j) else .bad
  | _ => .bad
def iCall (F : List D → M (List D)) (f : Env → M (List D)) : Env → M (List D) := fun e => f e >>= F
def enumL (k : Nat) : List D → List D
  | [] => []
  | d :: ds => .tup [.int k, d] :: enumL (k + 1) ds
def enumM : List D → M (List D)
  | [.lst ds] => .ret (enumL 0 ds)
  | [.tup ds] => .ret (enumL 0 ds)
  | _ => .bad
theorem enumL_length : ∀ {ds : List D} {k : Nat}, (enumL k ds).length = ds.length
  | [], _ => rfl
  | d :: ds, k => by unfold enumL; simp [enumL_length (ds := ds)]
theorem enumL_get : ∀ {ds : List D} {k i : Nat} {d : D}, ds[i]? = some d → (enumL k ds)[i]? = some (.tup [.int ((k + i : Nat) : Int), d])
  | [], _, _, _, h => by simp at h
  | d :: ds, k, 0, _, h => by simp at h; subst h; simp [enumL]
  | d :: ds, k, i + 1, _, h => by
    unfold enumL
    have := enumL_get (ds := ds) (k := k + 1) (i := i) (by simpa using h)
    rw [List.getElem?_cons_succ, this]
    congr 4
    omega
/-- how a body ends -/
def runM : M (Fl × Env) → M D
  | .ret (.nx, _) => .ret .non
  | .ret (.rt d, _) => .ret d
  | .ret (.rtF d, _) => .ret d
  | .ret (.exc c d, _) => .raise c d
  | .ret _ => .bad
  | .bad => .bad
  | .raise _ _ => .bad
  | .draw l k => .draw l fun i => runM (k i)
def fin (P : Nat → D → Prop) (E : Nat → Nat → D → Prop) : Nat → Fl × Env → Prop := fun n r => match r with
  | (.nx, _) => P n .non
  | (.rt d, _) => P n d
  | (.rtF d, _) => P n d
  | (.exc c d, _) => E n c d
  | _ => False
theorem allB_runM {m : M (Fl × Env)} {n : Nat} {P : Nat → D → Prop} {E : Nat → Nat → D → Prop} (h : AllB (runM m) n P E) : AllB m n (fin P E) fun _ _ _ => False := by
  induction m generalizing n with
  | ret a =>
    obtain ⟨fl, e⟩ := a
    cases fl <;> exact h
  | bad => exact h
  | raise c d => exact h
  | draw l k ih =>
    obtain ⟨h1, h2, n', e, h3⟩ := h
    exact ⟨h1, h2, n', e, fun i a b => ih i (h3 i a b)⟩
/-- how a body ends that gives a new container -/
def runF : M (Fl × Env) → M D
  | .ret (.rtF d, _) => .ret d
  | .ret (.exc c d, _) => .raise c d
  | .ret _ => .bad
  | .bad => .bad
  | .raise _ _ => .bad
  | .draw l k => .draw l fun i => runF (k i)
def finF (P : Nat → D → Prop) (E : Nat → Nat → D → Prop) : Nat → Fl × Env → Prop := fun n r => match r with
  | (.rtF d, _) => P n d
  | (.exc c d, _) => E n c d
  | _ => False
theorem allB_runF {m : M (Fl × Env)} {n : Nat} {P : Nat → D → Prop} {E : Nat → Nat → D → Prop} (h : AllB (runF m) n P E) : AllB m n (finF P E) fun _ _ _ => False := by
  induction m generalizing n with
  | ret a =>
    obtain ⟨fl, e⟩ := a
    cases fl <;> exact h
  | bad => exact h
  | raise c d => exact h
  | draw l k ih =>
    obtain ⟨h1, h2, n', e, h3⟩ := h
    exact ⟨h1, h2, n', e, fun i a b => ih i (h3 i a b)⟩
def runN (n : Nat) (s : Env → M (Fl × Env)) (args : List Slot) : M D := runF (s (args ++ List.replicate (n - args.length) .no))
/-- a def's body, from its arguments -/
def run (n : Nat) (s : Env → M (Fl × Env)) (args : List Slot) : M D := runM (s (args ++ List.replicate (n - args.length) .no))

end PD

set_option Elab.async false
set_option linter.all false
set_option maxRecDepth 100000
set_option maxHeartbeats 2000000
/-! PDSim: what plain data stands for in the abstract heap; the state of a frame; readings of expressions over plain data. -/
namespace PDL
open PySem PySem.Spec L2
/-- an error object that was caught -/
def XcO (cls : Value) (d : Option Addr) (a : Addr) : HO := .ext fun h => ∃ (oe : Obj) (vs : Array Value), h.get? a = some oe ∧ Zc cls d oe ∧ oe.data = .fields vs
end PDL
namespace PD
open PySem PySem.Spec L2 PDL

/-- own classes' addresses by number, the source's two lists -/
structure Wd where
  K : PySem.W.Frag
  cls : Nat → Addr
  /-- an error class's field -/
  fld : Nat → Str
  /-- error classes -/
  isX : Nat → Bool
  /-- in an __init__: the object that is made -/
  me : Option Addr
  S : Option (Addr × Addr)

def kD : Key → D
  | .inl i => .int i
  | .inr x => .str x
mutual
inductive Rep (W : Wd) (I : Hp) : V → D → Prop
  | non : Rep W I .non .non
  | bl (b : Bool) : Rep W I (.bl b) (.bl b)
  | int (i : Int) : Rep W I (.int i) (.int i)
  | str (x : Str) : Rep W I (.str x) (.str x)
  | tup {a : Addr} {xs : List V} {ds : List D} : SqT W.K I a xs → RepL W I xs ds → Rep W I (.ref a) (.tup ds)
  | lst {a : Addr} {xs : List V} {ds : List D} : I a = some (.lst xs) → RepL W I xs ds → Rep W I (.ref a) (.lst ds)
  | dct {a : Addr} {kvs : List (Key × V)} {ds : List (D × D)} : I a = some (.dK kvs) → RepK W I kvs ds → Rep W I (.ref a) (.dct ds)
  | obj {a dx : Addr} {c : Nat} {fs : List (Str × V)} {ds : List (Str × D)} : W.isX c = false → I a = some (.ins (W.cls c) dx fs) → RepF W I fs ds → Rep W I (.ref a) (.obj c ds)
  | exc {a : Addr} {c : Nat} {dx : Option Addr} {fs : List (Str × V)} {ds : List (Str × D)} : W.isX c = true → I a = some (XcO (.ref (W.cls c)) dx a) → (dx = none ∧ fs = [] ∨ ∃ dd, dx = some dd ∧ I dd = some (.xd fs)) → RepF W I fs ds → Rep W I (.ref a) (.obj c ds)
  | src {a b : Addr} : W.S = some (a, b) → Rep W I (.ref a) .src
inductive RepL (W : Wd) (I : Hp) : List V → List D → Prop
  | nil : RepL W I [] []
  | cons {v : V} {vs : List V} {d : D} {ds : List D} : Rep W I v d → RepL W I vs ds → RepL W I (v :: vs) (d :: ds)
inductive RepK (W : Wd) (I : Hp) : List (Key × V) → List (D × D) → Prop
  | nil : RepK W I [] []
  | cons {k : Key} {v : V} {kvs : List (Key × V)} {d : D} {ds : List (D × D)} : Rep W I v d → RepK W I kvs ds → RepK W I ((k, v) :: kvs) ((kD k, d) :: ds)
inductive RepF (W : Wd) (I : Hp) : List (Str × V) → List (Str × D) → Prop
  | nil : RepF W I [] []
  | cons {k : Str} {v : V} {kvs : List (Str × V)} {d : D} {ds : List (Str × D)} : Rep W I v d → RepF W I kvs ds → RepF W I ((k, v) :: kvs) ((k, d) :: ds)
end

def Sub (I H : Hp) : Prop := ∀ b o, I b = some o → H b = some o
theorem Sub.refl (I : Hp) : Sub I I := fun _ _ e => e
theorem Sub.trans {I J H : Hp} (a : Sub I J) (b : Sub J H) : Sub I H := fun x o e => b x o (a x o e)
theorem Sub.upd {I H : Hp} {p : Addr} {o : HO} (s : Sub I H) (hp : H p = none) : Sub I (upd H p o) := fun b u e => by
  rw [upd_ne (ne_of_none (s b u e) hp)]; exact s b u e
theorem sub_upd {I : Hp} {p : Addr} {o : HO} (hp : I p = none) : Sub I (upd I p o) := (Sub.refl I).upd hp
theorem Sub.upd2 {I H : Hp} {p : Addr} {o : HO} (s : Sub I H) : Sub (L2.upd I p o) (L2.upd H p o) := fun b u e => by
  by_cases h : b = p
  · subst h; rw [upd_same] at e ⊢; exact e
  · rw [upd_ne h] at e ⊢; exact s b u e
theorem Sub.rd {I H : Hp} (s : Sub I H) {a : Addr} {u : HO} (r : Rd I a u) : Rd H a u := by
  rcases r with r | ⟨o, r⟩
  · exact .inl (s _ _ r)
  · exact .inr ⟨o, s _ _ r⟩
theorem Sub.sqL {I H : Hp} (s : Sub I H) {K : PySem.W.Frag} {a : Addr} {xs : List V} (q : SqL K I a xs) : SqL K H a xs := q.elim (fun r => .inl (s.rd r)) .inr
theorem Sub.sqT {I H : Hp} (s : Sub I H) {K : PySem.W.Frag} {a : Addr} {xs : List V} (q : SqT K I a xs) : SqT K H a xs := q.elim (fun r => .inl (s.rd r)) .inr

section
variable {W : Wd} {I J : Hp}
mutual
theorem Rep.mono (s : Sub I J) : ∀ {v : V} {d : D}, Rep W I v d → Rep W J v d
  | _, _, .non => .non
  | _, _, .bl b => .bl b
  | _, _, .int i => .int i
  | _, _, .str x => .str x
  | _, _, .tup q r => .tup (s.sqT q) (RepL.mono s r)
  | _, _, .lst q r => .lst (s _ _ q) (RepL.mono s r)
  | _, _, .dct q r => .dct (s _ _ q) (RepK.mono s r)
  | _, _, .obj x q r => .obj x (s _ _ q) (RepF.mono s r)
  | _, _, .exc x q h r => .exc x (s _ _ q) (h.elim .inl fun ⟨dd, e, x⟩ => .inr ⟨dd, e, s _ _ x⟩) (RepF.mono s r)
  | _, _, .src q => .src q
theorem RepL.mono (s : Sub I J) : ∀ {v : List V} {d : List D}, RepL W I v d → RepL W J v d
  | _, _, .nil => .nil
  | _, _, .cons a b => .cons (Rep.mono s a) (RepL.mono s b)
theorem RepK.mono (s : Sub I J) : ∀ {v : List (Key × V)} {d : List (D × D)}, RepK W I v d → RepK W J v d
  | _, _, .nil => .nil
  | _, _, .cons a b => .cons (Rep.mono s a) (RepK.mono s b)
theorem RepF.mono (s : Sub I J) : ∀ {v : List (Str × V)} {d : List (Str × D)}, RepF W I v d → RepF W J v d
  | _, _, .nil => .nil
  | _, _, .cons a b => .cons (Rep.mono s a) (RepF.mono s b)
end
theorem RepL.length {vs : List V} {ds : List D} (r : RepL W I vs ds) : vs.length = ds.length := by
  induction ds generalizing vs with
  | nil => cases r; rfl
  | cons d ds ih =>
    cases r with
    | cons a b => simp [ih b]
theorem RepL.get {vs : List V} {ds : List D} (r : RepL W I vs ds) : ∀ {i : Nat} {d : D}, ds[i]? = some d → ∃ v, vs[i]? = some v ∧ Rep W I v d := by
  induction ds generalizing vs with
  | nil => intro i d e; simp at e
  | cons d0 ds ih =>
    cases r with
    | cons a b =>
      intro i d e
      cases i with
      | zero => simp at e; subst e; exact ⟨_, rfl, a⟩
      | succ i => simpa using ih b (by simpa using e)
theorem RepL.getV {vs : List V} {ds : List D} (r : RepL W I vs ds) : ∀ {i : Nat} {v : V}, vs[i]? = some v → ∃ d, ds[i]? = some d ∧ Rep W I v d := by
  induction ds generalizing vs with
  | nil => intro i d e; cases r; simp at e
  | cons d0 ds ih =>
    cases r with
    | cons a b =>
      intro i v e
      cases i with
      | zero => simp at e; subst e; exact ⟨_, rfl, a⟩
      | succ i => simpa using ih b (by simpa using e)
theorem RepL.append {vs ws : List V} {ds es : List D} (r : RepL W I vs ds) (q : RepL W I ws es) : RepL W I (vs ++ ws) (ds ++ es) := by
  induction ds generalizing vs with
  | nil => cases r; exact q
  | cons d0 ds ih =>
    cases r with
    | cons a b => exact .cons a (ih b)
theorem RepL.take {vs : List V} {ds : List D} (r : RepL W I vs ds) : ∀ n, RepL W I (vs.take n) (ds.take n) := by
  induction ds generalizing vs with
  | nil => intro n; cases r; simp; exact .nil
  | cons d0 ds ih =>
    intro n
    cases r with
    | cons a b =>
      cases n with
      | zero => exact .nil
      | succ n => exact .cons a (ih b n)
theorem RepL.drop {vs : List V} {ds : List D} (r : RepL W I vs ds) : ∀ n, RepL W I (vs.drop n) (ds.drop n) := by
  induction ds generalizing vs with
  | nil => intro n; cases r; simp; exact .nil
  | cons d0 ds ih =>
    intro n
    cases r with
    | cons a b =>
      cases n with
      | zero => exact .cons a b
      | succ n => exact ih b n
theorem RepL.set {vs : List V} {ds : List D} {v : V} {d : D} (r : RepL W I vs ds) (q : Rep W I v d) : ∀ n, RepL W I (vs.set n v) (ds.set n d) := by
  induction ds generalizing vs with
  | nil => intro n; cases r; exact .nil
  | cons d0 ds ih =>
    intro n
    cases r with
    | cons a b =>
      cases n with
      | zero => exact .cons q b
      | succ n => exact .cons a (ih b n)
theorem RepL.reverse {vs : List V} {ds : List D} (r : RepL W I vs ds) : RepL W I vs.reverse ds.reverse := by
  induction ds generalizing vs with
  | nil => cases r; exact .nil
  | cons d0 ds ih =>
    cases r with
    | cons a b =>
      rw [List.reverse_cons, List.reverse_cons]
      exact (ih b).append (.cons a .nil)
end

section
variable {W W' : Wd} {I : Hp} (hK : W.K = W'.K) (hc : W.cls = W'.cls) (hX : W.isX = W'.isX) (hS : W.S = W'.S)
include hK hc hX hS
mutual
/-- it hangs on the classes and the source alone -/
theorem Rep.cg : ∀ {v : V} {d : D}, Rep W I v d → Rep W' I v d
  | _, _, .non => .non
  | _, _, .bl b => .bl b
  | _, _, .int i => .int i
  | _, _, .str x => .str x
  | _, _, .tup q r => .tup (hK ▸ q) (RepL.cg r)
  | _, _, .lst q r => .lst q (RepL.cg r)
  | _, _, .dct q r => .dct q (RepK.cg r)
  | _, _, .obj x q r => .obj (hX ▸ x) (hc ▸ q) (RepF.cg r)
  | _, _, .exc x q h r => .exc (hX ▸ x) (hc ▸ q) h (RepF.cg r)
  | _, _, .src q => .src (hS ▸ q)
theorem RepL.cg : ∀ {v : List V} {d : List D}, RepL W I v d → RepL W' I v d
  | _, _, .nil => .nil
  | _, _, .cons a b => .cons (Rep.cg a) (RepL.cg b)
theorem RepK.cg : ∀ {v : List (Key × V)} {d : List (D × D)}, RepK W I v d → RepK W' I v d
  | _, _, .nil => .nil
  | _, _, .cons a b => .cons (Rep.cg a) (RepK.cg b)
theorem RepF.cg : ∀ {v : List (Str × V)} {d : List (Str × D)}, RepF W I v d → RepF W' I v d
  | _, _, .nil => .nil
  | _, _, .cons a b => .cons (Rep.cg a) (RepF.cg b)
end
end

/-! ### the source of the draws -/
/-- S = some (a, a): a is no source, but a value in no one's view (PDHold) -/
def NotS (S : Option (Addr × Addr)) (b : Addr) : Prop := ∀ a c, S = some (a, c) → a ≠ c → b ≠ a ∧ b ≠ c
def SameX (S : Option (Addr × Addr)) (H H' : Hp) : Prop := ∀ b o, NotS S b → H b = some o → H' b = some o
theorem SameX.refl {S} (H : Hp) : SameX S H H := fun _ _ _ e => e
theorem SameX.trans {S} {H H1 H2 : Hp} (a : SameX S H H1) (b : SameX S H1 H2) : SameX S H H2 := fun x o n e => b x o n (a x o n e)
theorem SameX.upd {S} {H : Hp} {p : Addr} {o : HO} (hp : H p = none) : SameX S H (L2.upd H p o) := fun b u _ e => by
  rw [upd_ne (ne_of_none e hp)]; exact e
/-- the source's lists: the cells, the turn; at most n draws more -/
def SrcOk : Option (Addr × Addr) → Nat → Hp → Prop
  | none, _, _ => True
  | some (a, c), n, H => a = c ∧ n = 0 ∨ a ≠ c ∧ ∃ (t : Int) (cells : List Int), H a = some (.lst [.ref c, .int t]) ∧ H c = some (.lst (cells.map V.int)) ∧ 0 ≤ t ∧ t + n ≤ 2 ^ 400 ∧ cells ≠ [] ∧ cells.length ≤ 63 ∧ ∀ x ∈ cells, x.natAbs < 2 ^ 4000
theorem SrcOk.upd {S} {n : Nat} {H : Hp} {p : Addr} {o : HO} (s : SrcOk S n H) (hp : H p = none) : SrcOk S n (L2.upd H p o) := by
  cases S with
  | none => trivial
  | some ac =>
    obtain ⟨a, c⟩ := ac
    rcases s with s | ⟨ne, t, cells, h1, h2, r⟩
    · exact .inl s
    · exact .inr ⟨ne, t, cells, by rw [upd_ne (ne_of_none h1 hp)]; exact h1, by rw [upd_ne (ne_of_none h2 hp)]; exact h2, r⟩
theorem SrcOk.none_ne {S} {n : Nat} {H : Hp} {p : Addr} (s : SrcOk S n H) (hp : H p = none) : NotS S p := fun a c e hac => by
  subst e
  rcases s with s | ⟨_, t, cells, h1, h2, _⟩
  · exact absurd s.1 hac
  exact ⟨fun z => (by rw [z, h1] at hp; cases hp), fun z => (by rw [z, h2] at hp; cases hp)⟩

/-! ### a container that is held -/
/-- the list or dict at a holds d's parts -/
def Own (W : Wd) (I H : Hp) (a : Addr) : D → Prop
  | .lst ds => ∃ vs, H a = some (.lst vs) ∧ RepL W I vs ds
  | .dct ds => ∃ kvs, H a = some (.dK kvs) ∧ RepK W I kvs ds
  | .obj c ds => (W.isX c = false ∧ ∀ p, W.me = some p → a = p) ∧ ∃ dx fs, H a = some (.ins (W.cls c) dx fs) ∧ RepF W I fs ds
  | _ => False
theorem Own.mono {W : Wd} {I I' H H' : Hp} {a : Addr} {d : D} (o : Own W I H a d) (s : Sub I I') (h : H' a = H a) : Own W I' H' a d := by
  cases d with
  | lst ds => obtain ⟨vs, e, r⟩ := o; exact ⟨vs, by rw [h]; exact e, r.mono s⟩
  | dct ds => obtain ⟨vs, e, r⟩ := o; exact ⟨vs, by rw [h]; exact e, r.mono s⟩
  | obj c ds => obtain ⟨hx, dx, vs, e, r⟩ := o; exact ⟨hx, dx, vs, by rw [h]; exact e, r.mono s⟩
  | _ => exact False.elim o
theorem Own.there {W : Wd} {I H : Hp} {a : Addr} {d : D} (o : Own W I H a d) : ∃ u, H a = some u := by
  cases d with
  | lst ds => obtain ⟨vs, e, r⟩ := o; exact ⟨_, e⟩
  | dct ds => obtain ⟨vs, e, r⟩ := o; exact ⟨_, e⟩
  | obj c ds => obtain ⟨hx, dx, vs, e, r⟩ := o; exact ⟨_, e⟩
  | _ => exact False.elim o
theorem Own.rep {W : Wd} {I H J : Hp} {a : Addr} {d : D} (o : Own W I H a d) (s : Sub I J) (h : J a = H a) : Rep W J (.ref a) d := by
  cases d with
  | lst ds => obtain ⟨vs, e, r⟩ := o; exact .lst (by rw [h]; exact e) (r.mono s)
  | dct ds => obtain ⟨vs, e, r⟩ := o; exact .dct (by rw [h]; exact e) (r.mono s)
  | obj c ds => obtain ⟨hx, dx, vs, e, r⟩ := o; exact .obj hx.1 (by rw [h]; exact e) (r.mono s)
  | _ => exact False.elim o

/-! ### the frame -/
structure Ctx where
  W : Wd
  /-- the heap at the entry -/
  B : Hp
  /-- its part that stays -/
  I0 : Hp
/-- what is wished of an error: draws left, class, value; the frame, the part that stays, the heap -/
abbrev Ex := Nat → Nat → D → Env → (Nat → Addr) → St → Hp → Hp → Prop
def exNo : Ex := fun _ _ _ _ _ _ _ _ => False

structure Sim (C : Ctx) (n : Nat) (env : Env) (ad : Nat → Addr) (σ : St) (I H : Hp) : Prop where
  sub : Sub I H
  i0 : Sub C.I0 I
  base : SameX C.W.S C.B H
  fresh : ∀ b o, I b = some o → C.I0 b = some o ∨ C.B b = none
  nos : ∀ b o, I b = some o → NotS C.W.S b
  src : SrcOk C.W.S n H
  len : env.length = σ.length
  sv : ∀ (i : Nat) (d : D), env[i]? = some (Slot.v d) → ∃ v, σ[i]? = some (some v) ∧ Rep C.W I v d
  sb : ∀ (i : Nat) (d : D), env[i]? = some (Slot.bor d) → ∃ v, σ[i]? = some (some v) ∧ (Rep C.W I v d ∨ ∃ a, v = .ref a ∧ NotS C.W.S a ∧ Own C.W I C.B a d)
  so : ∀ (i : Nat) (d : D), env[i]? = some (Slot.own d) → σ[i]? = some (some (V.ref (ad i))) ∧ Own C.W I H (ad i) d ∧ C.B (ad i) = none ∧ I (ad i) = none ∧ NotS C.W.S (ad i)
  inj : ∀ (i j : Nat) (d e : D), env[i]? = some (Slot.own d) → env[j]? = some (Slot.own e) → ad i = ad j → i = j

/-- a new object is laid into the part that stays -/
theorem Sim.laid {C : Ctx} {n : Nat} {env : Env} {ad : Nat → Addr} {σ : St} {I H : Hp} {p : Addr} {o : HO} (s : Sim C n env ad σ I H) (hp : H p = none) : Sim C n env ad σ (upd I p o) (upd H p o) := by
  have hI : I p = none := by
    cases e : I p with
    | none => rfl
    | some u => have := s.sub _ _ e; rw [hp] at this; cases this
  have hN := s.src.none_ne hp
  have hB : C.B p = none := by
    cases e : C.B p with
    | none => rfl
    | some u => have := s.base _ _ hN e; rw [hp] at this; cases this
  refine ⟨s.sub.upd2, s.i0.trans (sub_upd hI), s.base.trans (SameX.upd hp), fun b u e => ?_, fun b u e => ?_, s.src.upd hp, s.len, fun i d e => ?_, fun i d e => ?_, fun i d e => ?_, s.inj⟩
  · by_cases h : b = p
    · subst h; exact .inr hB
    · rw [upd_ne h] at e; exact s.fresh b u e
  · by_cases h : b = p
    · subst h; exact hN
    · rw [upd_ne h] at e; exact s.nos b u e
  · obtain ⟨v, h1, h2⟩ := s.sv i d e
    exact ⟨v, h1, h2.mono (sub_upd hI)⟩
  · obtain ⟨v, h1, h2⟩ := s.sb i d e
    refine ⟨v, h1, ?_⟩
    rcases h2 with h2 | ⟨a, h2, h3, h4⟩
    · exact .inl (h2.mono (sub_upd hI))
    · exact .inr ⟨a, h2, h3, h4.mono (sub_upd hI) rfl⟩
  · obtain ⟨h1, h2, h3, h4, h5⟩ := s.so i d e
    obtain ⟨u, hu⟩ := h2.there
    have ne : ad i ≠ p := ne_of_none hu hp
    exact ⟨h1, h2.mono (sub_upd hI) (upd_ne ne), h3, by rw [upd_ne ne]; exact h4, h5⟩
/-- a new object is laid, not into it -/
theorem Sim.laid' {C : Ctx} {n : Nat} {env : Env} {ad : Nat → Addr} {σ : St} {I H : Hp} {p : Addr} {o : HO} (s : Sim C n env ad σ I H) (hp : H p = none) : Sim C n env ad σ I (upd H p o) := by
  refine ⟨s.sub.upd hp, s.i0, s.base.trans (SameX.upd hp), s.fresh, s.nos, s.src.upd hp, s.len, s.sv, s.sb, fun i d e => ?_, s.inj⟩
  obtain ⟨h1, h2, h3, h4, h5⟩ := s.so i d e
  obtain ⟨u, hu⟩ := h2.there
  exact ⟨h1, h2.mono (Sub.refl _) (upd_ne (ne_of_none hu hp)), h3, h4, h5⟩

/-- how a result is held: as a value that stays; to be read; new, in no one else's hand -/
inductive Md where
  | val | st | rd | fr
  deriving DecidableEq
def RepM (m : Md) (C : Ctx) (env : Env) (ad : Nat → Addr) (I H : Hp) (v : V) (d : D) : Prop :=
  match m with
  | .val => Rep C.W I v d
  | .st => Rep C.W I v d ∨ ∃ a, v = .ref a ∧ NotS C.W.S a ∧ Own C.W I C.B a d
  | .rd => Rep C.W I v d ∨ ∃ a, v = .ref a ∧ NotS C.W.S a ∧ Own C.W I H a d
  | .fr => ∃ a, v = .ref a ∧ NotS C.W.S a ∧ Own C.W I H a d ∧ I a = none ∧ C.B a = none ∧ ∀ (i : Nat) (e : D), env[i]? = some (Slot.own e) → ad i ≠ a
/-- what a run's end must do: a value, an error -/
def Po (m : Md) (C : Ctx) (env : Env) (ad : Nat → Addr) (σ : St) (I H : Hp) (Q : VK) : Nat → D → Prop := fun n' d => ∀ v I' H', Sim C n' env ad σ I' H' → Sub I I' → SameX C.W.S H H' → RepM m C env ad I' H' v d → Q v H'
def Pe (C : Ctx) (ex : Ex) (env : Env) (ad : Nat → Addr) (σ : St) (I H : Hp) : Nat → Nat → D → Prop := fun n' c d => ∀ I' H', Sim C n' env ad σ I' H' → Sub I I' → SameX C.W.S H H' → ex n' c d env ad σ I' H'
/-- the reading of a run -/
def tM (m : Md) (C : Ctx) (ex : Ex) (f : Env → M D) : TE := fun σ H Q => ∃ n env ad I, Sim C n env ad σ I H ∧ AllB (f env) n (Po m C env ad σ I H Q) (Pe C ex env ad σ I H)
abbrev PM (m : Md) (C : Ctx) (ex : Ex) (X : Cx) (e : Expr) (f : Env → M D) : Prop := PE X e (tM m C ex f)
theorem Po.mono {m : Md} {C : Ctx} {env : Env} {ad : Nat → Addr} {σ : St} {I I1 H H1 : Hp} {Q : VK} {n : Nat} {d : D} (h : Po m C env ad σ I H Q n d) (s : Sub I I1) (x : SameX C.W.S H H1) : Po m C env ad σ I1 H1 Q n d :=
  fun v I' H' a b c r => h v I' H' a (s.trans b) (x.trans c) r
theorem Pe.mono {C : Ctx} {ex : Ex} {env : Env} {ad : Nat → Addr} {σ : St} {I I1 H H1 : Hp} {n c : Nat} {d : D} (h : Pe C ex env ad σ I H n c d) (s : Sub I I1) (x : SameX C.W.S H H1) : Pe C ex env ad σ I1 H1 n c d :=
  fun I' H' a b y => h I' H' a (s.trans b) (x.trans y)
theorem RepM.later {m : Md} {C : Ctx} {env : Env} {ad : Nat → Addr} {I I' H H' : Hp} {v : V} {d : D} (hm : m ≠ .fr) (r : RepM m C env ad I H v d) (s : Sub I I') (x : SameX C.W.S H H') : RepM m C env ad I' H' v d := by
  cases m with
  | val => exact Rep.mono s r
  | st =>
    rcases r with r | ⟨a, e, hN, o⟩
    · exact .inl (r.mono s)
    · exact .inr ⟨a, e, hN, o.mono s rfl⟩
  | rd =>
    rcases r with r | ⟨a, e, hN, o⟩
    · exact .inl (r.mono s)
    · obtain ⟨u, hu⟩ := o.there
      exact .inr ⟨a, e, hN, o.mono s ((x a u hN hu).trans hu.symm)⟩
  | fr => exact absurd rfl hm
theorem PE_imp {X : Cx} {e : Expr} {t t' : TE} (h : PE X e t) (k : ∀ σ H Q, t' σ H Q → t σ H Q) : PE X e t' := ⟨fun pins s σ H Q I q => h.run pins s σ H Q I (k σ H Q q)⟩
theorem PT_imp {X : Cx} {e : Expr} {t t' : TT} (h : PT X e t) (k : ∀ σ H Q, t' σ H Q → t σ H Q) : PT X e t' := ⟨fun pins s σ H Q I q => h.run pins s σ H Q I (k σ H Q q)⟩
theorem PA_imp {X : Cx} {e : List Expr} {t t' : TA} (h : PA X e t) (k : ∀ σ H Q, t' σ H Q → t σ H Q) : PA X e t' := ⟨fun pos pins s σ H Q I q => h.run pos pins s σ H Q I (k σ H Q q)⟩
theorem PS_imp {X : Cx} {e : Stmt} {t t' : TS} (h : PS X e t) (k : ∀ D σ H, t' D σ H → t D σ H) : PS X e t' := ⟨fun pins s σ H D I q => h.run pins s σ H D I (k D σ H q)⟩
theorem PSs_imp {X : Cx} {e : List Stmt} {t t' : TS} (h : PSs X e t) (k : ∀ D σ H, t' D σ H → t D σ H) : PSs X e t' := ⟨fun pins s σ H D I q => h.run pins s σ H D I (k D σ H q)⟩
theorem PM.to_rd {C ex X e f} (h : PM .val C ex X e f) : PM .rd C ex X e f := PE_imp h fun σ H Q ⟨n, env, ad, I, s, q⟩ => ⟨n, env, ad, I, s, q.mono (fun n' d k v I' H' s' i x r => k v I' H' s' i x (.inl r)) fun _ _ _ k => k⟩
theorem PM.fr_rd {C ex X e f} (h : PM .fr C ex X e f) : PM .rd C ex X e f := PE_imp h fun σ H Q ⟨n, env, ad, I, s, q⟩ => ⟨n, env, ad, I, s, q.mono (fun n' d k v I' H' s' i x r => k v I' H' s' i x (let ⟨a, e, n, o, _⟩ := r; .inr ⟨a, e, n, o⟩)) fun _ _ _ k => k⟩
theorem PM.val_st {C ex X e f} (h : PM .val C ex X e f) : PM .st C ex X e f := PE_imp h fun σ H Q ⟨n, env, ad, I, s, q⟩ => ⟨n, env, ad, I, s, q.mono (fun n' d k v I' H' s' i x r => k v I' H' s' i x (.inl r)) fun _ _ _ k => k⟩
theorem PM.st_rd {C ex X e f} (h : PM .st C ex X e f) : PM .rd C ex X e f := PE_imp h fun σ H Q ⟨n, env, ad, I, s, q⟩ => ⟨n, env, ad, I, s, q.mono (fun n' d k v I' H' s' i x r => k v I' H' s' i x (by
  rcases r with r | ⟨a, e, n, o⟩
  · exact .inl r
  · obtain ⟨u, hu⟩ := o.there
    exact .inr ⟨a, e, n, o.mono (Sub.refl _) ((s'.base a u n hu).trans hu.symm)⟩)) fun _ _ _ k => k⟩
/-- a new container is from now on a value that stays -/
theorem Sim.keep {C : Ctx} {n : Nat} {env : Env} {ad : Nat → Addr} {σ : St} {I H : Hp} {a : Addr} {o : HO} (s : Sim C n env ad σ I H) (ho : H a = some o) (hI : I a = none) (hB : C.B a = none) (hN : NotS C.W.S a) (hn : ∀ (i : Nat) (e : D), env[i]? = some (Slot.own e) → ad i ≠ a) :
    Sim C n env ad σ (upd I a o) H := by
  refine ⟨fun b u e => ?_, s.i0.trans (sub_upd hI), s.base, fun b u e => ?_, fun b u e => ?_, s.src, s.len, fun i d e => ?_, fun i d e => ?_, fun i d e => ?_, s.inj⟩
  · by_cases h : b = a
    · subst h; rw [upd_same] at e; cases e; exact ho
    · rw [upd_ne h] at e; exact s.sub b u e
  · by_cases h : b = a
    · subst h; exact .inr hB
    · rw [upd_ne h] at e; exact s.fresh b u e
  · by_cases h : b = a
    · subst h; exact hN
    · rw [upd_ne h] at e; exact s.nos b u e
  · obtain ⟨v, h1, h2⟩ := s.sv i d e
    exact ⟨v, h1, h2.mono (sub_upd hI)⟩
  · obtain ⟨v, h1, h2⟩ := s.sb i d e
    refine ⟨v, h1, ?_⟩
    rcases h2 with h2 | ⟨b, h2, h3, h4⟩
    · exact .inl (h2.mono (sub_upd hI))
    · exact .inr ⟨b, h2, h3, h4.mono (sub_upd hI) rfl⟩
  · obtain ⟨h1, h2, h3, h4, h5⟩ := s.so i d e
    exact ⟨h1, h2.mono (sub_upd hI) rfl, h3, by rw [upd_ne (hn i d e)]; exact h4, h5⟩
theorem PM.fr_val {C ex X e f} (h : PM .fr C ex X e f) : PM .val C ex X e f := PE_imp h fun σ H Q ⟨n, env, ad, I, s, q⟩ => ⟨n, env, ad, I, s, q.mono (fun n' d k v I' H' s' i x r => by
  obtain ⟨a, rfl, hN, o, hI, hB, hn⟩ := r
  obtain ⟨u, hu⟩ := o.there
  exact k _ (upd I' a u) H' (s'.keep hu hI hB hN hn) (i.trans (sub_upd hI)) x (o.rep (sub_upd hI) (by rw [upd_same]; exact hu.symm))) fun _ _ _ k => k⟩

/-! ### errors -/
/-- an error of class c with the value d, as the library tells it -/
def ExcR (W : Wd) (I : Hp) (c : Nat) (d : D) (cls : Value) (dx : Option Addr) : Prop :=
  cls = .ref (W.cls c) ∧ match dx with
    | none => d = .non ∧ W.fld c = Str.empty
    | some a => W.fld c ≠ Str.empty ∧ ∃ v, I a = some (.xd [(W.fld c, v)]) ∧ Rep W I v d
def wxOf (C : Ctx) (ex : Ex) : WX := fun cls dx σ H => ∃ n c d env ad I, Sim C n env ad σ I H ∧ ExcR C.W I c d cls dx ∧ ex n c d env ad σ I H
theorem takes_no {X : Cx} {C : Ctx} : Takes X (wxOf C exNo) := fun u s' ⟨_, _, _, _, _, _, _, _, _, _, _, _, _, _, _, _, _, _, _, _, _, _, _, _, h⟩ => h.elim

/-! ### inversions -/
section
variable {m : Md} {C : Ctx} {env : Env} {ad : Nat → Addr} {σ : St} {n : Nat} {I H : Hp} {x : V}
theorem Sim.none_I (s : Sim C n env ad σ I H) {p : Addr} (hp : H p = none) : I p = none := by
  cases e : I p with
  | none => rfl
  | some u => have := s.sub _ _ e; rw [hp] at this; cases this
theorem RepM.non (r : RepM m C env ad I H x .non) : x = .non := by
  cases m with
  | val => cases r; rfl
  | st => rcases r with r | ⟨a, _, _, o⟩; cases r; rfl; exact False.elim o
  | rd => rcases r with r | ⟨a, _, _, o⟩; cases r; rfl; exact False.elim o
  | fr => obtain ⟨a, _, _, o, _⟩ := r; exact False.elim o
theorem RepM.int {i : Int} (r : RepM m C env ad I H x (.int i)) : x = .int i := by
  cases m with
  | val => cases r; rfl
  | st => rcases r with r | ⟨a, _, _, o⟩; cases r; rfl; exact False.elim o
  | rd => rcases r with r | ⟨a, _, _, o⟩; cases r; rfl; exact False.elim o
  | fr => obtain ⟨a, _, _, o, _⟩ := r; exact False.elim o
theorem RepM.bl {i : Bool} (r : RepM m C env ad I H x (.bl i)) : x = .bl i := by
  cases m with
  | val => cases r; rfl
  | st => rcases r with r | ⟨a, _, _, o⟩; cases r; rfl; exact False.elim o
  | rd => rcases r with r | ⟨a, _, _, o⟩; cases r; rfl; exact False.elim o
  | fr => obtain ⟨a, _, _, o, _⟩ := r; exact False.elim o
theorem RepM.str {i : Str} (r : RepM m C env ad I H x (.str i)) : x = .str i := by
  cases m with
  | val => cases r; rfl
  | st => rcases r with r | ⟨a, _, _, o⟩; cases r; rfl; exact False.elim o
  | rd => rcases r with r | ⟨a, _, _, o⟩; cases r; rfl; exact False.elim o
  | fr => obtain ⟨a, _, _, o, _⟩ := r; exact False.elim o
theorem RepM.lst {ds : List D} (s : Sim C n env ad σ I H) (r : RepM m C env ad I H x (.lst ds)) : ∃ a vs, x = .ref a ∧ H a = some (.lst vs) ∧ RepL C.W I vs ds := by
  cases m with
  | val =>
    have r' : Rep C.W I x (.lst ds) := r
    cases r' with
    | lst q r => exact ⟨_, _, rfl, s.sub _ _ q, r⟩
  | st =>
    rcases r with r | ⟨a, e, hN, vs, h, r⟩
    · cases r with
      | lst q r => exact ⟨_, _, rfl, s.sub _ _ q, r⟩
    · exact ⟨a, vs, e, s.base _ _ hN h, r⟩
  | rd =>
    rcases r with r | ⟨a, e, _, vs, h, r⟩
    · cases r with
      | lst q r => exact ⟨_, _, rfl, s.sub _ _ q, r⟩
    · exact ⟨a, vs, e, h, r⟩
  | fr => obtain ⟨a, e, _, ⟨vs, h, r⟩, _⟩ := r; exact ⟨a, vs, e, h, r⟩
theorem RepM.tup {ds : List D} (s : Sim C n env ad σ I H) (r : RepM m C env ad I H x (.tup ds)) : ∃ a vs, x = .ref a ∧ SqT C.W.K H a vs ∧ RepL C.W I vs ds ∧ Rep C.W I x (.tup ds) := by
  cases m with
  | val =>
    have r' : Rep C.W I x (.tup ds) := r
    cases r' with
    | tup q r => exact ⟨_, _, rfl, s.sub.sqT q, r, .tup q r⟩
  | st =>
    rcases r with r | ⟨a, _, _, o⟩
    · cases r with
      | tup q r => exact ⟨_, _, rfl, s.sub.sqT q, r, .tup q r⟩
    · exact False.elim o
  | rd =>
    rcases r with r | ⟨a, _, _, o⟩
    · cases r with
      | tup q r => exact ⟨_, _, rfl, s.sub.sqT q, r, .tup q r⟩
    · exact False.elim o
  | fr => obtain ⟨a, _, _, o, _⟩ := r; exact False.elim o
/-- an object: an instance, or a caught error -/
theorem RepM.obj {c : Nat} {ds : List (Str × D)} (s : Sim C n env ad σ I H) (r : RepM m C env ad I H x (.obj c ds)) : ∃ a, x = .ref a ∧ ((C.W.isX c = false ∧ ∃ dx fs, H a = some (.ins (C.W.cls c) dx fs) ∧ RepF C.W I fs ds) ∨
    C.W.isX c = true ∧ ∃ dx fs, H a = some (XcO (.ref (C.W.cls c)) dx a) ∧ (dx = none ∧ fs = [] ∨ ∃ dd, dx = some dd ∧ H dd = some (.xd fs)) ∧ RepF C.W I fs ds) := by
  have key : ∀ {x : V}, Rep C.W I x (.obj c ds) → ∃ a, x = .ref a ∧ ((C.W.isX c = false ∧ ∃ dx fs, H a = some (.ins (C.W.cls c) dx fs) ∧ RepF C.W I fs ds) ∨
    C.W.isX c = true ∧ ∃ dx fs, H a = some (XcO (.ref (C.W.cls c)) dx a) ∧ (dx = none ∧ fs = [] ∨ ∃ dd, dx = some dd ∧ H dd = some (.xd fs)) ∧ RepF C.W I fs ds) := fun {x} r => by
    cases r with
    | obj hx q r => exact ⟨_, rfl, .inl ⟨hx, _, _, s.sub _ _ q, r⟩⟩
    | exc hx q h r => exact ⟨_, rfl, .inr ⟨hx, _, _, s.sub _ _ q, h.elim .inl fun ⟨dd, e, x⟩ => .inr ⟨dd, e, s.sub _ _ x⟩, r⟩⟩
  cases m with
  | val => exact key r
  | st =>
    rcases r with r | ⟨a, e, hN, hx, dx, fs, h, r⟩
    · exact key r
    · exact ⟨a, e, .inl ⟨hx.1, dx, fs, s.base _ _ hN h, r⟩⟩
  | rd =>
    rcases r with r | ⟨a, e, _, hx, dx, fs, h, r⟩
    · exact key r
    · exact ⟨a, e, .inl ⟨hx.1, dx, fs, h, r⟩⟩
  | fr => obtain ⟨a, e, _, ⟨hx, dx, fs, h, r⟩, _⟩ := r; exact ⟨a, e, .inl ⟨hx.1, dx, fs, h, r⟩⟩
theorem RepM.dct {ds : List (D × D)} (s : Sim C n env ad σ I H) (r : RepM m C env ad I H x (.dct ds)) : ∃ a kvs, x = .ref a ∧ H a = some (.dK kvs) ∧ RepK C.W I kvs ds := by
  cases m with
  | val =>
    have r' : Rep C.W I x (.dct ds) := r
    cases r' with
    | dct q r => exact ⟨_, _, rfl, s.sub _ _ q, r⟩
  | st =>
    rcases r with r | ⟨a, e, hN, vs, h, r⟩
    · cases r with
      | dct q r => exact ⟨_, _, rfl, s.sub _ _ q, r⟩
    · exact ⟨a, vs, e, s.base _ _ hN h, r⟩
  | rd =>
    rcases r with r | ⟨a, e, _, vs, h, r⟩
    · cases r with
      | dct q r => exact ⟨_, _, rfl, s.sub _ _ q, r⟩
    · exact ⟨a, vs, e, h, r⟩
  | fr => obtain ⟨a, e, _, ⟨vs, h, r⟩, _⟩ := r; exact ⟨a, vs, e, h, r⟩
theorem RepF.lookup {W : Wd} {I : Hp} {f : Str} {d : D} : ∀ {vs : List (Str × V)} {ds : List (Str × D)}, RepF W I vs ds → ds.lookup f = some d → ∃ v, vs.lookup f = some v ∧ Rep W I v d
  | _, _, .nil, h => by simp at h
  | (k, v) :: vs, (_, d') :: ds, .cons a b, h => by
    by_cases e : (f == k) = true
    · simp only [List.lookup_cons, e] at h ⊢
      cases h
      exact ⟨v, rfl, a⟩
    · have e : (f == k) = false := by simpa using e
      simp only [List.lookup_cons, e] at h ⊢
      exact RepF.lookup b h
theorem RepK.length {W : Wd} {I : Hp} {vs : List (Key × V)} {ds : List (D × D)} (r : RepK W I vs ds) : vs.length = ds.length := by
  induction ds generalizing vs with
  | nil => cases r; rfl
  | cons d ds ih =>
    cases r with
    | cons a b => simp [ih b]
theorem RepM.val_of {d : D} (r : Rep C.W I x d) : RepM .val C env ad I H x d := r
end
end PD

set_option Elab.async false
set_option linter.all false
set_option maxRecDepth 100000
set_option maxHeartbeats 2000000
/-! PDExp: expressions over plain data: the combinators and their rules. -/
namespace PD
open PySem PySem.Spec L2

/-! ### combinators -/
def eV (i : Nat) : Env → M D := fun e => getV e i
def eR (i : Nat) : Env → M D := fun e => getR e i
def eS (i : Nat) : Env → M D := fun e => getS e i
def eC (d : D) : Env → M D := fun _ => .ret d
def e1 (op : D → M D) (f : Env → M D) : Env → M D := fun e => f e >>= op
def e2 (op : D → D → M D) (f g : Env → M D) : Env → M D := fun e => f e >>= fun x => g e >>= fun y => op x y
/-- f <op> g <op'> k -/
def eChain (op op' : D → D → M D) (f g k : Env → M D) : Env → M D := fun e => f e >>= fun x => g e >>= fun y => op x y >>= boolM >>= fun b => if b then k e >>= fun z => op' y z else .ret (.bl false)
def eChain3 (op op' op'' : D → D → M D) (f g k l : Env → M D) : Env → M D := fun e => f e >>= fun x => g e >>= fun y => op x y >>= boolM >>= fun b => if b then k e >>= fun z => op' y z >>= boolM >>= fun b' => if b' then l e >>= fun w => op'' z w else .ret (.bl false) else .ret (.bl false)
/-- tests -/
def eTest (f : Env → M D) : Env → M Bool := fun e => f e >>= boolM
def eTruth (f : Env → M D) : Env → M Bool := fun e => f e >>= truthM
def eAnd (f g : Env → M Bool) : Env → M Bool := fun e => f e >>= fun b => if b then g e else .ret false
def eOr (f g : Env → M Bool) : Env → M Bool := fun e => f e >>= fun b => if b then .ret true else g e
def eNot (f : Env → M Bool) : Env → M Bool := fun e => f e >>= fun b => .ret (!b)
/-- and, or, not of bools as values -/
def eAndV (f g : Env → M D) : Env → M D := fun e => f e >>= boolM >>= fun b => if b then g e else .ret (.bl false)
def eOrV (f g : Env → M D) : Env → M D := fun e => f e >>= boolM >>= fun b => if b then .ret (.bl true) else g e
def eNotV (f : Env → M D) : Env → M D := fun e => f e >>= boolM >>= fun b => .ret (.bl (!b))
def eIf (t : Env → M Bool) (f g : Env → M D) : Env → M D := fun e => t e >>= fun b => if b then f e else g e
def eNil : Env → M (List D) := fun _ => .ret []
def eCons (f : Env → M D) (g : Env → M (List D)) : Env → M (List D) := fun e => f e >>= fun x => g e >>= fun xs => .ret (x :: xs)
def eTup (f : Env → M (List D)) : Env → M D := fun e => f e >>= fun xs => if xs.length ≤ line then .ret (.tup xs) else .bad
def eLst (f : Env → M (List D)) : Env → M D := fun e => f e >>= fun xs => if xs.length ≤ line then .ret (.lst xs) else .bad
/-- a call -/
def eCall (F : List D → M D) (f : Env → M (List D)) : Env → M D := fun e => f e >>= F

section
variable {C : Ctx} {ex : Ex} {X : Cx} {a b c e : Expr} {f g k : Env → M D} {pos : Pos} {m m1 m2 m3 : Md}
theorem line_eq : line = sizeLine := sizeLine_eq.symm

/-! ### names and constants -/
theorem pm_var {i : Nat} {x : Str} (hN : X.N[i]? = some x) (hv : Vis X.env.scope x) (hd : (x == ("__debug__" : Str)) = false := by decide) (hcd : (x == ("__classdict__" : Str)) = false := by decide) : PM .val C ex X (.Name x pos) (eV i) :=
  PE_imp (pe_var hN hv hd hcd) fun σ H Q ⟨n, env, ad, I, s, q⟩ => by
    have q' : AllB (getV env i) n (Po .val C env ad σ I H Q) (Pe C ex env ad σ I H) := q
    unfold getV at q'
    split at q'
    · rename_i d hd
      obtain ⟨v, h1, h2⟩ := s.sv i d hd
      exact ⟨v, h1, q' v I H s (Sub.refl _) (SameX.refl _) h2⟩
    · exact False.elim q'
theorem pr_var {i : Nat} {x : Str} (hN : X.N[i]? = some x) (hv : Vis X.env.scope x) (hd : (x == ("__debug__" : Str)) = false := by decide) (hcd : (x == ("__classdict__" : Str)) = false := by decide) : PM .rd C ex X (.Name x pos) (eR i) :=
  PE_imp (pe_var hN hv hd hcd) fun σ H Q ⟨n, env, ad, I, s, q⟩ => by
    have q' : AllB (getR env i) n (Po .rd C env ad σ I H Q) (Pe C ex env ad σ I H) := q
    unfold getR at q'
    split at q'
    · rename_i d hd
      obtain ⟨v, h1, h2⟩ := s.sv i d hd
      exact ⟨v, h1, q' v I H s (Sub.refl _) (SameX.refl _) (.inl h2)⟩
    · rename_i d hd
      obtain ⟨h1, h2, h3, h4, h5⟩ := s.so i d hd
      exact ⟨_, h1, q' _ I H s (Sub.refl _) (SameX.refl _) (.inr ⟨_, rfl, h5, h2⟩)⟩
    · rename_i d hd
      obtain ⟨v, h1, h2⟩ := s.sb i d hd
      refine ⟨v, h1, q' v I H s (Sub.refl _) (SameX.refl _) ?_⟩
      rcases h2 with h2 | ⟨p, h2, h3, h4⟩
      · exact .inl h2
      · obtain ⟨u, hu⟩ := h4.there
        exact .inr ⟨p, h2, h3, h4.mono (Sub.refl _) ((s.base p u h3 hu).trans hu.symm)⟩
    · exact False.elim q'
theorem ps_var {i : Nat} {x : Str} (hN : X.N[i]? = some x) (hv : Vis X.env.scope x) (hd : (x == ("__debug__" : Str)) = false := by decide) (hcd : (x == ("__classdict__" : Str)) = false := by decide) : PM .st C ex X (.Name x pos) (eS i) :=
  PE_imp (pe_var hN hv hd hcd) fun σ H Q ⟨n, env, ad, I, s, q⟩ => by
    have q' : AllB (getS env i) n (Po .st C env ad σ I H Q) (Pe C ex env ad σ I H) := q
    unfold getS at q'
    split at q'
    · rename_i d hd
      obtain ⟨v, h1, h2⟩ := s.sv i d hd
      exact ⟨v, h1, q' v I H s (Sub.refl _) (SameX.refl _) (.inl h2)⟩
    · rename_i d hd
      obtain ⟨v, h1, h2⟩ := s.sb i d hd
      exact ⟨v, h1, q' v I H s (Sub.refl _) (SameX.refl _) h2⟩
    · exact False.elim q'
theorem pm_const {v : V} {d : D} (h : PE X e (tC v)) (r : ∀ I, Rep C.W I v d) : PM .val C ex X e (eC d) :=
  PE_imp h fun σ H Q ⟨n, env, ad, I, s, q⟩ => (show Po .val C env ad σ I H Q n d from q) v I H s (Sub.refl _) (SameX.refl _) (r I)
theorem pm_int {i j pos} : PM .val C ex X (.Constant (.int i) j pos) (eC (.int i)) := pm_const pe_int fun _ => .int i
theorem pm_bl {i j pos} : PM .val C ex X (.Constant (.bool i) j pos) (eC (.bl i)) := pm_const pe_bl fun _ => .bl i
theorem pm_str {i j pos} : PM .val C ex X (.Constant (.str i) j pos) (eC (.str i)) := pm_const pe_str fun _ => .str i
theorem pm_non {j pos} : PM .val C ex X (.Constant .none j pos) (eC .non) := pm_const pe_non fun _ => .non
/-- a number or text of the module -/
theorem pm_globI {x : Str} {i : Int} {t : Tok} {pos : Pos} (hg : Gl X x) (hm : X.mg x = some (.int i t)) (hd : (x == ("__debug__" : Str)) = false := by decide) : PM .val C ex X (.Name x pos) (eC (.int i)) := pm_const (pe_glob hg hm (show RelV (.int i) (.int i t) from ⟨t, rfl⟩) hd) fun _ => .int i
theorem pm_globS {x : Str} {i : Str} {t : Tok} {pos : Pos} (hg : Gl X x) (hm : X.mg x = some (.str i t)) (hd : (x == ("__debug__" : Str)) = false := by decide) : PM .val C ex X (.Name x pos) (eC (.str i)) := pm_const (pe_glob hg hm (show RelV (.str i) (.str i t) from ⟨t, rfl⟩) hd) fun _ => .str i
theorem PM.rd (h : PM .val C ex X e f) : PM .rd C ex X e f := h.to_rd

/-! ### two operands -/
def rP (m1 m2 m : Md) (C : Ctx) (ex : Ex) (op : D → D → M D) : R2 := fun x y H Q => ∃ n env ad σ I d e, Sim C n env ad σ I H ∧ RepM m1 C env ad I H x d ∧ RepM m2 C env ad I H y e ∧ AllB (op d e) n (Po m C env ad σ I H Q) (Pe C ex env ad σ I H)
theorem tM_op {op : D → D → M D} (h1 : m1 ≠ .fr) (h2 : m2 ≠ .fr) {σ : L2.St} {H : Hp} {Q : VK} (q : tM m C ex (e2 op f g) σ H Q) : tOp (rP m1 m2 m C ex op) (tM m1 C ex f) (tM m2 C ex g) σ H Q := by
  obtain ⟨n, env, ad, I, s, q⟩ := q
  have q : AllB (f env >>= fun x => g env >>= fun y => op x y) n _ _ := q
  rw [allB_bind] at q
  refine ⟨n, env, ad, I, s, q.mono (fun n1 d q1 => ?_) (fun _ _ _ k => k)⟩
  intro v1 I1 H1 s1 i1 x1 r1
  rw [allB_bind] at q1
  refine ⟨n1, env, ad, I1, s1, q1.mono (fun n2 e q2 => ?_) (fun n' c d k => k.mono i1 x1)⟩
  intro v2 I2 H2 s2 i2 x2 r2
  exact ⟨n2, env, ad, σ, I2, d, e, s2, r1.later h1 i2 x2, r2, q2.mono (fun n3 d3 k => k.mono (i1.trans i2) (x1.trans x2)) fun n' c d k => k.mono (i1.trans i2) (x1.trans x2)⟩
theorem pm_bin {op : Operator} {o : D → D → M D} (ho : OpR X (binaryOp op) (rP m1 m2 m C ex o)) (ha : PM m1 C ex X a f) (hb : PM m2 C ex X b g) (h1 : m1 ≠ .fr := by decide) (h2 : m2 ≠ .fr := by decide) : PM m C ex X (.BinOp a op b pos) (e2 o f g) :=
  PE_imp (pe_op ho ha hb) fun σ H Q => tM_op h1 h2
theorem pm_cmp {op : CmpOp} {o : D → D → M D} (ho : OpR X (compareOp op) (rP m1 m2 m C ex o)) (ha : PM m1 C ex X a f) (hb : PM m2 C ex X b g) (hm : behindInMarks op b = false) (h1 : m1 ≠ .fr := by decide) (h2 : m2 ≠ .fr := by decide) : PM m C ex X (.Compare a [op] [b] pos) (e2 o f g) :=
  PE_imp (pe_cmpR ho ha hb hm) fun σ H Q => tM_op h1 h2

/-- an operation on ints alone -/
theorem opInt {fo : Value → Value → Sem Value} {o : D → D → M D} {Cn : Int → Int → Prop} {res : Int → Int → V} {rd : Int → Int → D}
    (rule : OpR X fo (rI Cn res)) (hr : ∀ i j I, Rep C.W I (res i j) (rd i j))
    (ho : ∀ d e n P E, AllB (o d e) n P E → ∃ i j, d = .int i ∧ e = .int j ∧ Cn i j ∧ P n (rd i j)) : OpR X fo (rP .rd .rd .val C ex o) := by
  intro pins s σ0 H x y v u Q Iv rx ry h
  obtain ⟨n, env, ad, σ, I, d, e, S, r1, r2, q⟩ := h
  obtain ⟨i, j, rfl, rfl, hc, p⟩ := ho d e n _ _ q
  obtain rfl := r1.int
  obtain rfl := r2.int
  exact rule pins s σ0 H _ _ v u Q Iv rx ry ⟨i, j, rfl, rfl, hc, p _ I H S (Sub.refl _) (SameX.refl _) (hr i j I)⟩
theorem opInt0 {fo : Value → Value → Sem Value} {o : D → D → M D} {res : Int → Int → V} {rd : Int → Int → D}
    (rule : OpR X fo (rI0 res)) (hr : ∀ i j I, Rep C.W I (res i j) (rd i j))
    (ho : ∀ d e n P E, AllB (o d e) n P E → ∃ i j, d = .int i ∧ e = .int j ∧ P n (rd i j)) : OpR X fo (rP .rd .rd .val C ex o) := by
  intro pins s σ0 H x y v u Q Iv rx ry h
  obtain ⟨n, env, ad, σ, I, d, e, S, r1, r2, q⟩ := h
  obtain ⟨i, j, rfl, rfl, p⟩ := ho d e n _ _ q
  obtain rfl := r1.int
  obtain rfl := r2.int
  exact rule pins s σ0 H _ _ v u Q Iv rx ry ⟨i, j, rfl, rfl, p _ I H S (Sub.refl _) (SameX.refl _) (hr i j I)⟩
theorem d_sub : OpR X (binaryOp .Sub) (rP .rd .rd .val C ex subM) := opInt0 op_sub (rd := fun i j => .int (i - j)) (fun _ _ _ => .int _) fun d e n P E q => by
  cases d <;> cases e <;> first | exact ⟨_, _, rfl, rfl, q⟩ | exact False.elim q
theorem d_mulI : OpR X (binaryOp .Mult) (rP .rd .rd .val C ex mulM) := opInt op_mulW (rd := fun i j => .int (i * j)) (fun _ _ _ => .int _) fun d e n P E q => by
  cases d <;> cases e <;> first | exact False.elim q | skip
  obtain ⟨h, q⟩ := allB_ite (show AllB (if _ then _ else .bad) _ _ _ from q)
  exact ⟨_, _, rfl, rfl, h, q⟩
theorem d_fdiv : OpR X (binaryOp .FloorDiv) (rP .rd .rd .val C ex fdivM) := opInt op_fdivW (rd := fun i j => .int (i / j)) (fun _ _ _ => .int _) fun d e n P E q => by
  cases d <;> cases e <;> first | exact False.elim q | skip
  obtain ⟨h, q⟩ := allB_ite (show AllB (if _ then _ else .bad) _ _ _ from q)
  exact ⟨_, _, rfl, rfl, h, q⟩
theorem d_mod : OpR X (binaryOp .Mod) (rP .rd .rd .val C ex modM) := opInt op_mod (rd := fun i j => .int (i % j)) (fun _ _ _ => .int _) fun d e n P E q => by
  cases d <;> cases e <;> first | exact False.elim q | skip
  obtain ⟨h, q⟩ := allB_ite (show AllB (if _ then _ else .bad) _ _ _ from q)
  exact ⟨_, _, rfl, rfl, h, q⟩
theorem d_cmp {op : CmpOp} {p : Int → Int → Bool} (rule : OpR X (compareOp op) (rI0 fun i j => .bl (p i j))) : OpR X (compareOp op) (rP .rd .rd .val C ex (cmpM p)) := opInt0 rule (rd := fun i j => .bl (p i j)) (fun _ _ _ => .bl _) fun d e n P E q => by
  cases d <;> cases e <;> first | exact ⟨_, _, rfl, rfl, q⟩ | exact False.elim q
abbrev ltM := cmpM fun i j => decide (i < j)
abbrev leM := cmpM fun i j => decide (i ≤ j)
abbrev gtM := cmpM fun i j => decide (j < i)
abbrev geM := cmpM fun i j => decide (j ≤ i)
theorem d_lt : OpR X (compareOp .Lt) (rP .rd .rd .val C ex ltM) := d_cmp op_lt
theorem d_le : OpR X (compareOp .LtE) (rP .rd .rd .val C ex leM) := d_cmp op_le
theorem d_gt : OpR X (compareOp .Gt) (rP .rd .rd .val C ex gtM) := d_cmp op_gt
theorem d_ge : OpR X (compareOp .GtE) (rP .rd .rd .val C ex geM) := d_cmp op_ge
theorem d_add (hK : C.W.K = X.K) : OpR X (binaryOp .Add) (rP .rd .rd .val C ex addM) := by
  intro pins s σ0 H x y v u Q Iv rx ry h
  obtain ⟨n, env, ad, σ, I, d, e, S, r1, r2, q⟩ := h
  cases d with
  | int i =>
    cases e with
    | int j =>
      obtain rfl := r1.int
      obtain rfl := r2.int
      exact op_add pins s σ0 H _ _ v u Q Iv rx ry ⟨i, j, rfl, rfl, q _ I H S (Sub.refl _) (SameX.refl _) (Rep.int _)⟩
    | _ => exact False.elim q
  | str i =>
    cases e with
    | str j =>
      obtain ⟨hz, q⟩ := allB_ite (show AllB (if _ then _ else .bad) _ _ _ from q)
      obtain rfl := r1.str
      obtain rfl := r2.str
      exact op_add_str pins s σ0 H _ _ v u Q Iv rx ry ⟨i, j, rfl, rfl, by rw [← line_eq]; exact hz, q _ I H S (Sub.refl _) (SameX.refl _) (Rep.str _)⟩
    | _ => exact False.elim q
  | lst xs =>
    cases e with
    | lst ys =>
      obtain ⟨hz, q⟩ := allB_ite (show AllB (if _ then _ else .bad) _ _ _ from q)
      obtain ⟨p1, v1, rfl, h1, l1⟩ := r1.lst S
      obtain ⟨p2, v2, rfl, h2, l2⟩ := r2.lst S
      exact op_cat pins s σ0 H _ _ v u Q Iv rx ry ⟨p1, p2, v1, v2, rfl, rfl, h1, h2, by rw [l1.length, l2.length, ← line_eq]; exact hz, fun p hp =>
        q _ (upd I p _) (upd H p _) (S.laid hp) (sub_upd (S.none_I hp)) (SameX.upd hp) (Rep.lst upd_same ((l1.append l2).mono (sub_upd (S.none_I hp))))⟩
    | _ => exact False.elim q
  | tup xs =>
    cases e with
    | tup ys =>
      obtain ⟨hz, q⟩ := allB_ite (show AllB (if _ then _ else .bad) _ _ _ from q)
      obtain ⟨p1, v1, rfl, h1, l1, t1⟩ := r1.tup S
      obtain ⟨p2, v2, rfl, h2, l2, t2⟩ := r2.tup S
      rw [hK] at h1 h2
      refine op_catA pins s σ0 H _ _ v u Q Iv rx ry ⟨p1, p2, v1, v2, rfl, rfl, h1, h2, by rw [l1.length, l2.length, ← line_eq]; exact hz, fun e0 => ?_, fun _ e0 => ?_, fun _ _ p hp => ?_⟩
      · subst e0
        cases l1
        exact q _ I H S (Sub.refl _) (SameX.refl _) t2
      · subst e0
        cases l2
        rw [List.append_nil] at q
        exact q _ I H S (Sub.refl _) (SameX.refl _) t1
      · exact q _ (upd I p _) (upd H p _) (S.laid hp) (sub_upd (S.none_I hp)) (SameX.upd hp) (Rep.tup (SqT.of upd_same) ((l1.append l2).mono (sub_upd (S.none_I hp))))
    | _ => exact False.elim q
  | _ => exact False.elim q
/-- lists alone, the new one in no other hand -/
def catM : D → D → M D
  | .lst xs, .lst ys => if xs.length + ys.length ≤ line then .ret (.lst (xs ++ ys)) else .bad
  | _, _ => .bad
theorem Sim.none_B {n : Nat} {env : Env} {ad : Nat → Addr} {σ : L2.St} {I H : Hp} {p : Addr} (S : Sim C n env ad σ I H) (hp : H p = none) : C.B p = none := by
  cases e : C.B p with
  | none => rfl
  | some u => have := S.base _ _ (S.src.none_ne hp) e; rw [hp] at this; cases this
theorem Sim.new {n : Nat} {env : Env} {ad : Nat → Addr} {σ : L2.St} {I H : Hp} {p : Addr} {vs : List V} {ds : List D} (S : Sim C n env ad σ I H) (hp : H p = none) (r : RepL C.W I vs ds) : RepM .fr C env ad I (upd H p (.lst vs)) (.ref p) (.lst ds) :=
  ⟨p, rfl, S.src.none_ne hp, ⟨vs, upd_same, r⟩, S.none_I hp, S.none_B hp, fun i e h => by
    obtain ⟨h1, h2, h3⟩ := S.so i e h
    obtain ⟨u, hu⟩ := h2.there
    exact ne_of_none hu hp⟩
theorem d_cat : OpR X (binaryOp .Add) (rP .rd .rd .fr C ex catM) := by
  intro pins s σ0 H x y v u Q Iv rx ry h
  obtain ⟨n, env, ad, σ, I, d, e, S, r1, r2, q⟩ := h
  cases d <;> cases e <;> first | exact False.elim q | skip
  obtain ⟨hz, q⟩ := allB_ite (show AllB (if _ then _ else .bad) _ _ _ from q)
  obtain ⟨p1, v1, rfl, h1, l1⟩ := r1.lst S
  obtain ⟨p2, v2, rfl, h2, l2⟩ := r2.lst S
  exact op_cat pins s σ0 H _ _ v u Q Iv rx ry ⟨p1, p2, v1, v2, rfl, rfl, h1, h2, by rw [l1.length, l2.length, ← line_eq]; exact hz, fun p hp =>
    q _ I (upd H p _) (S.laid' hp) (Sub.refl _) (SameX.upd hp) (S.new hp (l1.append l2))⟩
end
end PD

set_option Elab.async false
set_option linter.all false
set_option maxRecDepth 100000
set_option maxHeartbeats 2000000
/-! PDEq: == and in of plain data. -/
namespace PD
open PySem PySem.Spec L2
mutual
def toPy : D → PyData
  | .non => .none
  | .bl b => .bool b
  | .int i => .int i
  | .str x => .str x
  | .lst xs => .list (toPys xs)
  | .tup xs => .tuple (toPys xs)
  | _ => .none
def toPys : List D → List PyData
  | [] => []
  | x :: xs => toPy x :: toPys xs
end
theorem okD_lst {n : Nat} {xs : List D} (h : okD n (.lst xs) = true) : ∃ k, n = k + 1 ∧ ∀ x ∈ xs, okD k x = true := by
  cases n with
  | zero => cases h
  | succ k => exact ⟨k, rfl, fun x hx => List.all_eq_true.mp h x hx⟩
theorem okD_tup {n : Nat} {xs : List D} (h : okD n (.tup xs) = true) : ∃ k, n = k + 1 ∧ ∀ x ∈ xs, okD k x = true := by
  cases n with
  | zero => cases h
  | succ k => exact ⟨k, rfl, fun x hx => List.all_eq_true.mp h x hx⟩
mutual
theorem toPy_lay : ∀ {d : D} {n : Nat}, okD n d = true → (toPy d).canLay0 = true ∧ (toPy d).depth ≤ n
  | .non, n, _ => by unfold toPy; exact ⟨by simp [PyData.canLay0], by simp [PyData.depth]⟩
  | .bl b, n, _ => by unfold toPy; exact ⟨by simp [PyData.canLay0], by simp [PyData.depth]⟩
  | .int i, n, _ => by unfold toPy; exact ⟨by simp [PyData.canLay0], by simp [PyData.depth]⟩
  | .str x, n, h => by
    unfold toPy
    refine ⟨?_, by simp [PyData.depth]⟩
    have h' : strOkD x = true := by cases n <;> exact h
    simp only [PyData.canLay0]
    exact h'
  | .lst xs, n, h => by
    obtain ⟨k, rfl, hx⟩ := okD_lst h
    obtain ⟨h1, h2⟩ := toPys_lay hx
    unfold toPy
    exact ⟨by simp only [PyData.canLay0]; exact h1, by simp only [PyData.depth]; omega⟩
  | .tup xs, n, h => by
    obtain ⟨k, rfl, hx⟩ := okD_tup h
    obtain ⟨h1, h2⟩ := toPys_lay hx
    unfold toPy
    exact ⟨by simp only [PyData.canLay0]; exact h1, by simp only [PyData.depth]; omega⟩
  | .dct _, n, h => by cases n <;> cases h
  | .obj _ _, n, h => by cases n <;> cases h
  | .src, n, h => by cases n <;> cases h
theorem toPys_lay : ∀ {xs : List D} {n : Nat}, (∀ x ∈ xs, okD n x = true) → PyData.canLayAll0 (toPys xs) = true ∧ PyData.depthAll (toPys xs) ≤ n
  | [], n, _ => by unfold toPys; exact ⟨by simp [PyData.canLayAll0], by simp [PyData.depthAll]⟩
  | x :: xs, n, h => by
    obtain ⟨h1, h2⟩ := toPy_lay (h x List.mem_cons_self)
    obtain ⟨h3, h4⟩ := toPys_lay fun y hy => h y (List.mem_cons_of_mem _ hy)
    unfold toPys
    exact ⟨by simp only [PyData.canLayAll0, h1, h3]; rfl, by simp only [PyData.depthAll]; omega⟩
end
theorem toPy_shaped {d : D} (h : okD 64 d = true) : SeqAt.shaped (toPy d) = true := by
  obtain ⟨h1, h2⟩ := toPy_lay h
  unfold SeqAt.shaped
  rw [h1, decide_eq_true h2]
  rfl
mutual
theorem eqv_toPy : ∀ {d e : D} {n m : Nat}, okD n d = true → okD m e = true → PyData.eqv (toPy d) (toPy e) = eqD d e
  | d, .dct _, n, m, _, h => by cases m <;> cases h
  | d, .obj _ _, n, m, _, h => by cases m <;> cases h
  | d, .src, n, m, _, h => by cases m <;> cases h
  | .dct _, e, n, m, h, _ => by cases n <;> cases h
  | .obj _ _, e, n, m, h, _ => by cases n <;> cases h
  | .src, e, n, m, h, _ => by cases n <;> cases h
  | .lst xs, .lst ys, n, m, h1, h2 => by
    obtain ⟨k, rfl, hx⟩ := okD_lst h1
    obtain ⟨k', rfl, hy⟩ := okD_lst h2
    simp only [toPy, PyData.eqv, eqD]
    exact eqvs_toPy hx hy
  | .tup xs, .tup ys, n, m, h1, h2 => by
    obtain ⟨k, rfl, hx⟩ := okD_tup h1
    obtain ⟨k', rfl, hy⟩ := okD_tup h2
    simp only [toPy, PyData.eqv, eqD]
    exact eqvs_toPy hx hy
  | .non, .non, _, _, _, _ => by simp only [toPy, PyData.eqv, eqD]
  | .non, .bl _, _, _, _, _ => by simp only [toPy, PyData.eqv, eqD]
  | .non, .int _, _, _, _, _ => by simp only [toPy, PyData.eqv, eqD]
  | .non, .str _, _, _, _, _ => by simp only [toPy, PyData.eqv, eqD]
  | .non, .lst _, _, _, _, _ => by simp only [toPy, PyData.eqv, eqD]
  | .non, .tup _, _, _, _, _ => by simp only [toPy, PyData.eqv, eqD]
  | .bl _, .non, _, _, _, _ => by simp only [toPy, PyData.eqv, eqD]
  | .bl _, .bl _, _, _, _, _ => by simp only [toPy, PyData.eqv, eqD]
  | .bl _, .int _, _, _, _, _ => by simp only [toPy, PyData.eqv, eqD]
  | .bl _, .str _, _, _, _, _ => by simp only [toPy, PyData.eqv, eqD]
  | .bl _, .lst _, _, _, _, _ => by simp only [toPy, PyData.eqv, eqD]
  | .bl _, .tup _, _, _, _, _ => by simp only [toPy, PyData.eqv, eqD]
  | .int _, .non, _, _, _, _ => by simp only [toPy, PyData.eqv, eqD]
  | .int _, .bl _, _, _, _, _ => by simp only [toPy, PyData.eqv, eqD]
  | .int _, .int _, _, _, _, _ => by simp only [toPy, PyData.eqv, eqD]
  | .int _, .str _, _, _, _, _ => by simp only [toPy, PyData.eqv, eqD]
  | .int _, .lst _, _, _, _, _ => by simp only [toPy, PyData.eqv, eqD]
  | .int _, .tup _, _, _, _, _ => by simp only [toPy, PyData.eqv, eqD]
  | .str _, .non, _, _, _, _ => by simp only [toPy, PyData.eqv, eqD]
  | .str _, .bl _, _, _, _, _ => by simp only [toPy, PyData.eqv, eqD]
  | .str _, .int _, _, _, _, _ => by simp only [toPy, PyData.eqv, eqD]
  | .str _, .str _, _, _, _, _ => by simp only [toPy, PyData.eqv, eqD]
  | .str _, .lst _, _, _, _, _ => by simp only [toPy, PyData.eqv, eqD]
  | .str _, .tup _, _, _, _, _ => by simp only [toPy, PyData.eqv, eqD]
  | .lst _, .non, _, _, _, _ => by simp only [toPy, PyData.eqv, eqD]
  | .lst _, .bl _, _, _, _, _ => by simp only [toPy, PyData.eqv, eqD]
  | .lst _, .int _, _, _, _, _ => by simp only [toPy, PyData.eqv, eqD]
  | .lst _, .str _, _, _, _, _ => by simp only [toPy, PyData.eqv, eqD]
  | .lst _, .tup _, _, _, _, _ => by simp only [toPy, PyData.eqv, eqD]
  | .tup _, .non, _, _, _, _ => by simp only [toPy, PyData.eqv, eqD]
  | .tup _, .bl _, _, _, _, _ => by simp only [toPy, PyData.eqv, eqD]
  | .tup _, .int _, _, _, _, _ => by simp only [toPy, PyData.eqv, eqD]
  | .tup _, .str _, _, _, _, _ => by simp only [toPy, PyData.eqv, eqD]
  | .tup _, .lst _, _, _, _, _ => by simp only [toPy, PyData.eqv, eqD]
theorem eqvs_toPy : ∀ {xs ys : List D} {n m : Nat}, (∀ x ∈ xs, okD n x = true) → (∀ y ∈ ys, okD m y = true) → PyData.eqvAll (toPys xs) (toPys ys) = eqDs xs ys
  | [], [], _, _, _, _ => by simp only [toPys, PyData.eqvAll, eqDs]
  | [], _ :: _, _, _, _, _ => by simp only [toPys, PyData.eqvAll, eqDs]
  | _ :: _, [], _, _, _, _ => by simp only [toPys, PyData.eqvAll, eqDs]
  | x :: xs, y :: ys, _, _, h1, h2 => by
    simp only [toPys, PyData.eqvAll, eqDs]
    rw [eqv_toPy (h1 x List.mem_cons_self) (h2 y List.mem_cons_self), eqvs_toPy (fun z hz => h1 z (List.mem_cons_of_mem _ hz)) fun z hz => h2 z (List.mem_cons_of_mem _ hz)]
end
section
variable {C : Ctx} {ex : Ex} {X : Cx} {m1 m2 : Md} {env : Env} {ad : Nat → Addr} {σ : L2.St} {n : Nat} {I H : Hp}
mutual
theorem Rep.dp (hK : C.W.K = X.K) (s : Sub I H) : ∀ {v : V} {d : D} {k : Nat}, Rep C.W I v d → okD k d = true → Dp X.K H v (toPy d)
  | _, _, _, .non, _ => by unfold toPy; exact .non
  | _, _, _, .bl _, _ => by unfold toPy; exact .bl _
  | _, _, _, .int _, _ => by unfold toPy; exact .int _
  | _, _, _, .str _, _ => by unfold toPy; exact .str _
  | _, _, k, .lst q r, h => by
    obtain ⟨k, rfl, hx⟩ := okD_lst h
    unfold toPy
    exact .lst (SqL.of (s _ _ q)) (RepL.dp hK s r hx)
  | _, _, k, .tup q r, h => by
    obtain ⟨k, rfl, hx⟩ := okD_tup h
    unfold toPy
    exact .tup (by rw [← hK]; exact s.sqT q) (RepL.dp hK s r hx)
  | _, _, k, .dct _ _, h => by cases k <;> cases h
  | _, _, k, .obj _ _ _, h => by cases k <;> cases h
  | _, _, k, .src _, h => by cases k <;> cases h
  | _, _, k, .exc _ _ _ _, h => by cases k <;> cases h
theorem RepL.dp (hK : C.W.K = X.K) (s : Sub I H) : ∀ {vs : List V} {ds : List D} {k : Nat}, RepL C.W I vs ds → (∀ x ∈ ds, okD k x = true) → DpAll X.K H vs (toPys ds)
  | _, _, _, .nil, _ => by unfold toPys; exact .nil
  | _, _, _, .cons a b, h => by
    unfold toPys
    exact .cons (Rep.dp hK s a (h _ List.mem_cons_self)) (RepL.dp hK s b fun z hz => h z (List.mem_cons_of_mem _ hz))
end
theorem RepM.dp {m : Md} (hK : C.W.K = X.K) (S : Sim C n env ad σ I H) {v : V} {d : D} {k : Nat} (hm : m ≠ .fr) (r : RepM m C env ad I H v d) (h : okD k d = true) : Dp X.K H v (toPy d) := by
  cases m with
  | val => exact Rep.dp hK S.sub r h
  | st =>
    rcases r with r | ⟨a, rfl, hN, o⟩
    · exact r.dp hK S.sub h
    · cases d with
      | lst ds =>
        obtain ⟨vs, e, r⟩ := o
        obtain ⟨k, rfl, hx⟩ := okD_lst h
        unfold toPy
        exact .lst (SqL.of (S.base _ _ hN e)) (r.dp hK S.sub hx)
      | dct ds => cases k <;> cases h
      | obj c ds => cases k <;> cases h
      | _ => exact False.elim o
  | rd =>
    rcases r with r | ⟨a, rfl, _, o⟩
    · exact r.dp hK S.sub h
    · cases d with
      | lst ds =>
        obtain ⟨vs, e, r⟩ := o
        obtain ⟨k, rfl, hx⟩ := okD_lst h
        unfold toPy
        exact .lst (SqL.of e) (r.dp hK S.sub hx)
      | dct ds => cases k <;> cases h
      | obj c ds => cases k <;> cases h
      | _ => exact False.elim o
  | fr => exact absurd rfl hm
theorem d_eq (hK : C.W.K = X.K) (hu : X.A.units + 64 < cLine) : OpR X (compareOp .Eq) (rP .rd .rd .val C ex eqM) := by
  intro pins s σ0 H x y v u Q Iv rx ry h
  obtain ⟨n, env, ad, σ, I, d, e, S, r1, r2, q⟩ := h
  obtain ⟨hz, q⟩ := allB_ite (show AllB (if _ then _ else .bad) _ _ _ from q)
  rcases Bool.or_eq_true_iff.mp hz with hz | hz
  · obtain ⟨a, b, rfl, rfl⟩ := bothS_in hz
    obtain rfl := r1.str
    obtain rfl := r2.str
    refine op_eq pins s σ0 H _ _ v u Q Iv rx ry ⟨rfl, ?_⟩
    rw [show decide (V.str a = V.str b) = eqD (.str a) (.str b) from (Bool.eq_iff_iff.mpr (by simp [eqD]))]
    exact q _ I H S (Sub.refl _) (SameX.refl _) (Rep.bl _)
  obtain ⟨h1, h2⟩ := Bool.and_eq_true_iff.mp hz
  refine op_eqD hu pins s σ0 H _ _ v u Q Iv rx ry ⟨toPy d, toPy e, r1.dp hK S (by decide) h1, r2.dp hK S (by decide) h2, toPy_shaped h1, toPy_shaped h2, ?_⟩
  rw [eqv_toPy h1 h2]
  exact q _ I H S (Sub.refl _) (SameX.refl _) (Rep.bl _)
theorem d_ne (hK : C.W.K = X.K) (hu : X.A.units + 64 < cLine) : OpR X (compareOp .NotEq) (rP .rd .rd .val C ex neM) := by
  intro pins s σ0 H x y v u Q Iv rx ry h
  obtain ⟨n, env, ad, σ, I, d, e, S, r1, r2, q⟩ := h
  obtain ⟨hz, q⟩ := allB_ite (show AllB (if _ then _ else .bad) _ _ _ from q)
  rcases Bool.or_eq_true_iff.mp hz with hz | hz
  · obtain ⟨a, b, rfl, rfl⟩ := bothS_in hz
    obtain rfl := r1.str
    obtain rfl := r2.str
    refine op_ne pins s σ0 H _ _ v u Q Iv rx ry ⟨rfl, ?_⟩
    rw [show decide (V.str a = V.str b) = eqD (.str a) (.str b) from (Bool.eq_iff_iff.mpr (by simp [eqD]))]
    exact q _ I H S (Sub.refl _) (SameX.refl _) (Rep.bl _)
  obtain ⟨h1, h2⟩ := Bool.and_eq_true_iff.mp hz
  refine op_neD hu pins s σ0 H _ _ v u Q Iv rx ry ⟨toPy d, toPy e, r1.dp hK S (by decide) h1, r2.dp hK S (by decide) h2, toPy_shaped h1, toPy_shaped h2, ?_⟩
  rw [eqv_toPy h1 h2]
  exact q _ I H S (Sub.refl _) (SameX.refl _) (Rep.bl _)
end
end PD

set_option Elab.async false
set_option linter.all false
set_option maxRecDepth 100000
set_option maxHeartbeats 2000000
/-! PDExp2: in, is None, isinstance, tests, chains, displays, indexes, slices. -/
namespace PD
open PySem PySem.Spec L2
section
variable {C : Ctx} {ex : Ex} {X : Cx} {a b c e : Expr} {es : List Expr} {f g k l : Env → M D} {fs : Env → M (List D)} {pos : Pos} {m m1 m2 m3 : Md}

/-! ### in -/
theorem toPys_any {xs : List D} {d : D} {n k : Nat} (h : ∀ x ∈ xs, okD n x = true) (hd : okD k d = true) : ((toPys xs).any fun y => PyData.eqv y (toPy d)) = xs.any fun y => eqD y d := by
  induction xs with
  | nil => rfl
  | cons x xs ih =>
    show (PyData.eqv (toPy x) (toPy d) || (toPys xs).any _) = _
    rw [eqv_toPy (h x List.mem_cons_self) hd, ih fun y hy => h y (List.mem_cons_of_mem _ hy)]
    rfl
theorem d_inL (hK : C.W.K = X.K) (hu : X.A.units + 65 < cLine) (neg : Bool) : OpR X (compareOp (if neg then .NotIn else .In)) (rP .rd .rd .val C ex fun x ys => inM x ys >>= boolM >>= fun b => .ret (.bl (if neg then !b else b))) := by
  intro pins s σ0 H x y v u Q Iv rx ry h
  obtain ⟨n, env, ad, σ, I, d, e, S, r1, r2, q⟩ := h
  cases e with
  | lst ys =>
    rw [allB_bind, allB_bind] at q
    obtain ⟨hz, q⟩ := allB_ite (show AllB (if _ then _ else .bad) _ _ _ from q)
    obtain ⟨h1, h2⟩ := Bool.and_eq_true_iff.mp hz
    obtain ⟨p, vs, rfl, hp, rl⟩ := r2.lst S
    have hx : ∀ z ∈ ys, okD 64 z = true := fun z hz => List.all_eq_true.mp h2 z hz
    obtain ⟨as, ra⟩ := Dp.reads Iv _ _ _ (r1.dp hK S (by decide) h1) rx
    obtain ⟨bs, rb⟩ := Dp.reads Iv (.list (toPys ys)) _ _ (Dp.lst (SqL.of hp) (rl.dp hK S.sub hx)) ry
    obtain ⟨l1, l2⟩ := toPy_lay h1
    obtain ⟨l3, _⟩ := toPys_lay hx
    have room : X.A.units + 1 + min (PyData.depthAll (toPys ys)) (toPy d).depth < cLine := by omega
    have q' : Q (.bl (if neg then !(ys.any fun y => eqD y d) else ys.any fun y => eqD y d)) H := q _ I H S (Sub.refl _) (SameX.refl _) (Rep.bl _)
    rw [← toPys_any hx h1] at q'
    cases neg with
    | false => exact SeqAt.in_list_reads rb ra l3 l1 room ⟨.bl _, H, Iv, rfl, q'⟩
    | true => exact SeqAt.notIn_list_reads rb ra l3 l1 room ⟨.bl _, H, Iv, rfl, q'⟩
  | tup ys =>
    rw [allB_bind, allB_bind] at q
    obtain ⟨hz, q⟩ := allB_ite (show AllB (if _ then _ else .bad) _ _ _ from q)
    obtain ⟨h1, h2⟩ := Bool.and_eq_true_iff.mp hz
    obtain ⟨p, vs, rfl, hp, rl, _⟩ := r2.tup S
    have hx : ∀ z ∈ ys, okD 64 z = true := fun z hz => List.all_eq_true.mp h2 z hz
    obtain ⟨as, ra⟩ := Dp.reads Iv _ _ _ (r1.dp hK S (by decide) h1) rx
    obtain ⟨bs, rb⟩ := Dp.reads Iv (.tuple (toPys ys)) _ _ (Dp.tup (by rw [← hK]; exact hp) (rl.dp hK S.sub hx)) ry
    obtain ⟨l1, l2⟩ := toPy_lay h1
    obtain ⟨l3, _⟩ := toPys_lay hx
    have room : X.A.units + 1 + min (PyData.depthAll (toPys ys)) (toPy d).depth < cLine := by omega
    have q' : Q (.bl (if neg then !(ys.any fun y => eqD y d) else ys.any fun y => eqD y d)) H := q _ I H S (Sub.refl _) (SameX.refl _) (Rep.bl _)
    rw [← toPys_any hx h1] at q'
    cases neg with
    | false => exact SeqAt.in_tuple_reads rb ra l3 l1 room ⟨.bl _, H, Iv, rfl, q'⟩
    | true => exact SeqAt.notIn_tuple_reads rb ra l3 l1 room ⟨.bl _, H, Iv, rfl, q'⟩
  | _ => exact False.elim q
def notInM (x y : D) : M D := inM x y >>= boolM >>= fun b => .ret (.bl (!b))
theorem d_in (hK : C.W.K = X.K) (hu : X.A.units + 65 < cLine) : OpR X (compareOp .In) (rP .rd .rd .val C ex inM) := by
  intro pins s σ0 H x y v u Q Iv rx ry h
  refine d_inL (ex := ex) hK hu false pins s σ0 H x y v u Q Iv rx ry ?_
  obtain ⟨n, env, ad, σ, I, d, e, S, r1, r2, q⟩ := h
  refine ⟨n, env, ad, σ, I, d, e, S, r1, r2, ?_⟩
  cases e <;> first | exact False.elim q | skip
  all_goals
    obtain ⟨hz, q⟩ := allB_ite (show AllB (if _ then _ else .bad) _ _ _ from q)
    simp only [inM, hz, if_true, ret_bind, boolM]
    exact q
theorem d_notIn (hK : C.W.K = X.K) (hu : X.A.units + 65 < cLine) : OpR X (compareOp .NotIn) (rP .rd .rd .val C ex notInM) := d_inL hK hu true

/-! ### is None -/
def isNoneM : D → M D
  | .non => .ret (.bl true)
  | _ => .ret (.bl false)
def notNoneM : D → M D
  | .non => .ret (.bl false)
  | _ => .ret (.bl true)
theorem RepM.is_non {env : Env} {ad : Nat → Addr} {I H : Hp} {v : V} {d : D} (hm : m ≠ .fr) (r : RepM m C env ad I H v d) : isNoneM d = .ret (.bl (decide (v = .non))) ∧ notNoneM d = .ret (.bl (!decide (v = .non))) := by
  have key : ∀ {v : V} {d : D}, Rep C.W I v d → isNoneM d = .ret (.bl (decide (v = .non))) ∧ notNoneM d = .ret (.bl (!decide (v = .non))) := fun {v d} r => by
    cases r <;> simp [isNoneM, notNoneM]
  cases m with
  | val => exact key r
  | st =>
    rcases r with r | ⟨a, rfl, _, o⟩
    · exact key r
    · cases d <;> first | exact False.elim o | simp [isNoneM, notNoneM]
  | rd =>
    rcases r with r | ⟨a, rfl, _, o⟩
    · exact key r
    · cases d <;> first | exact False.elim o | simp [isNoneM, notNoneM]
  | fr => exact absurd rfl hm
theorem pm_isN {j pos'} (ha : PM .rd C ex X a f) : PM .val C ex X (.Compare a [.Is] [.Constant .none j pos'] pos) (e1 isNoneM f) :=
  PE_imp (pe_cmp (pc_isN ha)) fun σ H Q ⟨n, env, ad, I, S, q⟩ => by
    have q : AllB (f env >>= isNoneM) n _ _ := q
    rw [allB_bind] at q
    refine ⟨n, env, ad, I, S, q.mono (fun n1 d q1 => ?_) (fun _ _ _ k => k)⟩
    intro v1 I1 H1 s1 i1 x1 r1
    rw [(r1.is_non (by decide)).1] at q1
    exact q1 _ I1 H1 s1 i1 x1 (Rep.bl _)
theorem pm_notN {j pos'} (ha : PM .rd C ex X a f) : PM .val C ex X (.Compare a [.IsNot] [.Constant .none j pos'] pos) (e1 notNoneM f) :=
  PE_imp (pe_cmp (pc_notN ha)) fun σ H Q ⟨n, env, ad, I, S, q⟩ => by
    have q : AllB (f env >>= notNoneM) n _ _ := q
    rw [allB_bind] at q
    refine ⟨n, env, ad, I, S, q.mono (fun n1 d q1 => ?_) (fun _ _ _ k => k)⟩
    intro v1 I1 H1 s1 i1 x1 r1
    rw [(r1.is_non (by decide)).2] at q1
    exact q1 _ I1 H1 s1 i1 x1 (Rep.bl _)

/-! ### tests -/
def PoT (C : Ctx) (env : Env) (ad : Nat → Addr) (σ : L2.St) (I H : Hp) (Q : Bool → Hp → Prop) : Nat → Bool → Prop := fun n' b => ∀ I' H', Sim C n' env ad σ I' H' → Sub I I' → SameX C.W.S H H' → Q b H'
def tT (C : Ctx) (ex : Ex) (f : Env → M Bool) : TT := fun σ H Q => ∃ n env ad I, Sim C n env ad σ I H ∧ AllB (f env) n (PoT C env ad σ I H Q) (Pe C ex env ad σ I H)
abbrev PMT (C : Ctx) (ex : Ex) (X : Cx) (e : Expr) (f : Env → M Bool) : Prop := PT X e (tT C ex f)
variable {t u : Env → M Bool}
theorem PoT.mono {env : Env} {ad : Nat → Addr} {σ : L2.St} {I I1 H H1 : Hp} {Q : Bool → Hp → Prop} {n : Nat} {d : Bool} (h : PoT C env ad σ I H Q n d) (s : Sub I I1) (x : SameX C.W.S H H1) : PoT C env ad σ I1 H1 Q n d :=
  fun I' H' a b c => h I' H' a (s.trans b) (x.trans c)
theorem tT_of {f : Env → M D} {σ : L2.St} {H : Hp} {Q : Bool → Hp → Prop} (q : tT C ex (eTest f) σ H Q) : tM .rd C ex f σ H fun x H1 => ∃ b, x = .bl b ∧ Q b H1 := by
  obtain ⟨n, env, ad, I, S, q⟩ := q
  have q : AllB (f env >>= boolM) n _ _ := q
  rw [allB_bind] at q
  refine ⟨n, env, ad, I, S, q.mono (fun n1 d q1 => ?_) (fun _ _ _ k => k)⟩
  intro v1 I1 H1 s1 i1 x1 r1
  cases d with
  | bl b => exact ⟨b, r1.bl, q1 I1 H1 s1 i1 x1⟩
  | _ => exact False.elim q1
/-- a comparison or a call whose value is a bool, as a test -/
theorem pt_of (h : PM .rd C ex X e f) (he : ∀ whole, isTrue e X.env whole = (do let v ← whole; standAt e.pos; holding [v] (truthy v)) := by intro _; rfl) : PMT C ex X e (eTest f) :=
  PT_imp (pt_val h he) fun σ H Q q => tT_of q
theorem OpR_rd {fo : Value → Value → Sem Value} {o : D → D → M D} (h : OpR X fo (rP m1 m2 .val C ex o)) : OpR X fo (rP m1 m2 .rd C ex o) := fun pins s σ H x y v u Q Iv rx ry ⟨n, env, ad, τ, I, d, e, S, r1, r2, q⟩ =>
  h pins s σ H x y v u Q Iv rx ry ⟨n, env, ad, τ, I, d, e, S, r1, r2, q.mono (fun n' d' k v I' H' a b c r => k v I' H' a b c (.inl r)) fun _ _ _ k => k⟩
theorem pt_cmp1 {op : CmpOp} {o : D → D → M D} (ho : OpR X (compareOp op) (rP m1 m2 .rd C ex o)) (ha : PM m1 C ex X a f) (hb : PM m2 C ex X b g) (hm : behindInMarks op b = false) (h1 : m1 ≠ .fr := by decide) (h2 : m2 ≠ .fr := by decide) : PMT C ex X (.Compare a [op] [b] pos) (eTest (e2 o f g)) :=
  PT_imp (pt_cmpR ho ha hb hm) fun σ H Q q => tM_op h1 h2 (tT_of q)
theorem pt_isN {j pos'} (ha : PM .rd C ex X a f) : PMT C ex X (.Compare a [.Is] [.Constant .none j pos'] pos) (eTest (e1 isNoneM f)) :=
  PT_imp (pt_cmp (pc_isN ha)) fun σ H Q q => by
    obtain ⟨n, env, ad, I, S, q⟩ := q
    have q : AllB ((f env >>= isNoneM) >>= boolM) n _ _ := q
    rw [allB_bind, allB_bind] at q
    refine ⟨n, env, ad, I, S, q.mono (fun n1 d q1 => ?_) (fun _ _ _ k => k)⟩
    intro v1 I1 H1 s1 i1 x1 r1
    rw [(r1.is_non (by decide)).1] at q1
    exact ⟨_, rfl, q1 I1 H1 s1 i1 x1⟩
theorem pt_notN {j pos'} (ha : PM .rd C ex X a f) : PMT C ex X (.Compare a [.IsNot] [.Constant .none j pos'] pos) (eTest (e1 notNoneM f)) :=
  PT_imp (pt_cmp (pc_notN ha)) fun σ H Q q => by
    obtain ⟨n, env, ad, I, S, q⟩ := q
    have q : AllB ((f env >>= notNoneM) >>= boolM) n _ _ := q
    rw [allB_bind, allB_bind] at q
    refine ⟨n, env, ad, I, S, q.mono (fun n1 d q1 => ?_) (fun _ _ _ k => k)⟩
    intro v1 I1 H1 s1 i1 x1 r1
    rw [(r1.is_non (by decide)).2] at q1
    exact ⟨_, rfl, q1 I1 H1 s1 i1 x1⟩
abbrev PMW (C : Ctx) (ex : Ex) (X : Cx) (e : Expr) (f : Env → M Bool) : Prop := PW X e (tT C ex f)
theorem PW_imp {X : Cx} {e : Expr} {t t' : TT} (h : PW X e t) (k : ∀ σ H Q, t' σ H Q → t σ H Q) : PW X e t' := ⟨fun wh pins s σ H Q I q => h.run wh pins s σ H Q I (k σ H Q q)⟩
theorem pmw_and1 (h : PMT C ex X a t) : PMW C ex X (.BoolOp .And [a] pos) t := pw_and1 h
theorem pmw_or1 (h : PMT C ex X a t) : PMW C ex X (.BoolOp .Or [a] pos) t := pw_or1 h
theorem pmw_and {rest : List Expr} (ha : PMT C ex X a t) (hb : PMW C ex X (.BoolOp .And (b :: rest) pos) u) : PMW C ex X (.BoolOp .And (a :: b :: rest) pos) (eAnd t u) :=
  PW_imp (pw_and ha hb) fun σ H Q q => by
    obtain ⟨n, env, ad, I, S, q⟩ := q
    have q : AllB (t env >>= fun b => if b then u env else .ret false) n _ _ := q
    rw [allB_bind] at q
    refine ⟨n, env, ad, I, S, q.mono (fun n1 d q1 => ?_) (fun _ _ _ k => k)⟩
    intro I1 H1 s1 i1 x1
    cases d with
    | true =>
      rw [if_pos rfl] at q1 ⊢
      exact ⟨n1, env, ad, I1, s1, q1.mono (fun _ _ k => k.mono i1 x1) fun _ _ _ k => k.mono i1 x1⟩
    | false =>
      rw [if_neg Bool.false_ne_true] at q1 ⊢
      exact q1 I1 H1 s1 i1 x1
theorem pmw_or {rest : List Expr} (ha : PMT C ex X a t) (hb : PMW C ex X (.BoolOp .Or (b :: rest) pos) u) : PMW C ex X (.BoolOp .Or (a :: b :: rest) pos) (eOr t u) :=
  PW_imp (pw_or ha hb) fun σ H Q q => by
    obtain ⟨n, env, ad, I, S, q⟩ := q
    have q : AllB (t env >>= fun b => if b then .ret true else u env) n _ _ := q
    rw [allB_bind] at q
    refine ⟨n, env, ad, I, S, q.mono (fun n1 d q1 => ?_) (fun _ _ _ k => k)⟩
    intro I1 H1 s1 i1 x1
    cases d with
    | false =>
      rw [if_neg Bool.false_ne_true] at q1 ⊢
      exact ⟨n1, env, ad, I1, s1, q1.mono (fun _ _ k => k.mono i1 x1) fun _ _ _ k => k.mono i1 x1⟩
    | true =>
      rw [if_pos rfl] at q1 ⊢
      exact q1 I1 H1 s1 i1 x1
theorem PMW.toT (h : PMW C ex X e t) : PMT C ex X e t := h.pt
theorem pmt_not (ha : PMT C ex X a t) : PMT C ex X (.UnaryOp .Not a pos) (eNot t) :=
  PT_imp (pt_not ha) fun σ H Q q => by
    obtain ⟨n, env, ad, I, S, q⟩ := q
    have q : AllB (t env >>= fun b => .ret (!b)) n _ _ := q
    rw [allB_bind] at q
    exact ⟨n, env, ad, I, S, q.mono (fun n1 d q1 => fun I1 H1 s1 i1 x1 => q1 I1 H1 s1 i1 x1) (fun _ _ _ k => k)⟩
/-! ### and, or, not, if as values -/
theorem pm_one {op} (h : PM .val C ex X a f) : PM .val C ex X (.BoolOp op [a] pos) f := pe_one h
theorem pm_and {rest : List Expr} (ha : PM .rd C ex X a f) (hb : PM .val C ex X (.BoolOp .And (b :: rest) pos) g) : PM .val C ex X (.BoolOp .And (a :: b :: rest) pos) (eAndV f g) :=
  PE_imp (pe_and ha hb) fun σ H Q q => by
    obtain ⟨n, env, ad, I, S, q⟩ := q
    have q : AllB ((f env >>= boolM) >>= fun b => if b then g env else .ret (.bl false)) n _ _ := q
    rw [allB_bind, allB_bind] at q
    refine ⟨n, env, ad, I, S, q.mono (fun n1 d q1 => ?_) (fun _ _ _ k => k)⟩
    intro v1 I1 H1 s1 i1 x1 r1
    cases d with
    | bl b =>
      refine ⟨b, r1.bl, ?_⟩
      have q1 : AllB (if b then g env else .ret (.bl false)) n1 _ _ := q1
      cases b with
      | true =>
        rw [if_pos rfl] at q1 ⊢
        exact ⟨n1, env, ad, I1, s1, q1.mono (fun _ _ k => k.mono i1 x1) fun _ _ _ k => k.mono i1 x1⟩
      | false =>
        rw [if_neg Bool.false_ne_true] at q1 ⊢
        exact q1 _ I1 H1 s1 i1 x1 (Rep.bl _)
    | _ => exact False.elim q1
theorem pm_or {rest : List Expr} (ha : PM .rd C ex X a f) (hb : PM .val C ex X (.BoolOp .Or (b :: rest) pos) g) : PM .val C ex X (.BoolOp .Or (a :: b :: rest) pos) (eOrV f g) :=
  PE_imp (pe_or ha hb) fun σ H Q q => by
    obtain ⟨n, env, ad, I, S, q⟩ := q
    have q : AllB ((f env >>= boolM) >>= fun b => if b then .ret (.bl true) else g env) n _ _ := q
    rw [allB_bind, allB_bind] at q
    refine ⟨n, env, ad, I, S, q.mono (fun n1 d q1 => ?_) (fun _ _ _ k => k)⟩
    intro v1 I1 H1 s1 i1 x1 r1
    cases d with
    | bl b =>
      refine ⟨b, r1.bl, ?_⟩
      have q1 : AllB (if b then .ret (.bl true) else g env) n1 _ _ := q1
      cases b with
      | false =>
        rw [if_neg Bool.false_ne_true] at q1 ⊢
        exact ⟨n1, env, ad, I1, s1, q1.mono (fun _ _ k => k.mono i1 x1) fun _ _ _ k => k.mono i1 x1⟩
      | true =>
        rw [if_pos rfl] at q1 ⊢
        exact q1 _ I1 H1 s1 i1 x1 (Rep.bl _)
    | _ => exact False.elim q1
theorem pm_not (ha : PM .rd C ex X a f) : PM .val C ex X (.UnaryOp .Not a pos) (eNotV f) :=
  PE_imp (pe_not ha) fun σ H Q q => by
    obtain ⟨n, env, ad, I, S, q⟩ := q
    have q : AllB ((f env >>= boolM) >>= fun b => .ret (D.bl (!b))) n _ _ := q
    rw [allB_bind, allB_bind] at q
    refine ⟨n, env, ad, I, S, q.mono (fun n1 d q1 => ?_) (fun _ _ _ k => k)⟩
    intro v1 I1 H1 s1 i1 x1 r1
    cases d with
    | bl b => exact ⟨b, r1.bl, q1 _ I1 H1 s1 i1 x1 (Rep.bl _)⟩
    | _ => exact False.elim q1
theorem pm_if (ht : PMT C ex X c t) (ha : PM m C ex X a f) (hb : PM m C ex X b g) : PM m C ex X (.IfExp c a b pos) (eIf t f g) :=
  PE_imp (pe_ifExp ht ha hb) fun σ H Q q => by
    obtain ⟨n, env, ad, I, S, q⟩ := q
    have q : AllB (t env >>= fun b => if b then f env else g env) n _ _ := q
    rw [allB_bind] at q
    refine ⟨n, env, ad, I, S, q.mono (fun n1 d q1 => ?_) (fun _ _ _ k => k)⟩
    intro I1 H1 s1 i1 x1
    cases d with
    | true =>
      rw [if_pos rfl] at q1 ⊢
      exact ⟨n1, env, ad, I1, s1, q1.mono (fun _ _ k => k.mono i1 x1) fun _ _ _ k => k.mono i1 x1⟩
    | false =>
      rw [if_neg Bool.false_ne_true] at q1 ⊢
      exact ⟨n1, env, ad, I1, s1, q1.mono (fun _ _ k => k.mono i1 x1) fun _ _ _ k => k.mono i1 x1⟩
end
end PD

set_option Elab.async false
set_option linter.all false
set_option maxRecDepth 100000
set_option maxHeartbeats 2000000
/-! PDCall: chains, argument lists, displays, calls of built-ins and of the text's own defs. -/
namespace PD
open PySem PySem.Spec L2
section
variable {C : Ctx} {ex : Ex} {X : Cx} {a b c d e : Expr} {es : List Expr} {f g k l : Env → M D} {fs : Env → M (List D)} {pos : Pos} {m m1 m2 m3 : Md} {ms : List Md}

/-! ### chains of comparisons -/
theorem tChain_of {o o' : D → D → M D} {σ : L2.St} {H : Hp} {Q : VK} (q : tM .val C ex (eChain o o' f g k) σ H Q) : tChain (rP .rd .rd .val C ex o) (rP .rd .rd .val C ex o') (tM .rd C ex f) (tM .rd C ex g) (tM .rd C ex k) σ H Q := by
  obtain ⟨n, env, ad, I, S, q⟩ := q
  have q : AllB (f env >>= fun x => g env >>= fun y => o x y >>= boolM >>= fun b => if b then k env >>= fun z => o' y z else .ret (D.bl false)) n (Po .val C env ad σ I H Q) (Pe C ex env ad σ I H) := q
  rw [allB_bind] at q
  refine ⟨n, env, ad, I, S, q.mono (fun n1 d q1 => ?_) (fun _ _ _ k => k)⟩
  intro v1 I1 H1 s1 i1 x1 r1
  rw [allB_bind] at q1
  refine ⟨n1, env, ad, I1, s1, q1.mono (fun n2 e q2 => ?_) (fun n' c d k => k.mono i1 x1)⟩
  intro v2 I2 H2 s2 i2 x2 r2
  rw [allB_bind, allB_bind] at q2
  refine ⟨n2, env, ad, σ, I2, d, e, s2, r1.later (by decide) i2 x2, r2, q2.mono (fun n3 z q3 => ?_) fun n' c d k => k.mono (i1.trans i2) (x1.trans x2)⟩
  intro v3 I3 H3 s3 i3 x3 r3
  have i13 := (i1.trans i2).trans i3
  have x13 := (x1.trans x2).trans x3
  cases z with
  | bl b =>
    refine ⟨b, r3.bl, ?_⟩
    have q3 : AllB (if b then k env >>= fun z => o' e z else .ret (D.bl false)) n3 (Po .val C env ad σ I H Q) (Pe C ex env ad σ I H) := q3
    cases b with
    | true =>
      rw [if_pos rfl] at q3 ⊢
      rw [allB_bind] at q3
      refine ⟨n3, env, ad, I3, s3, q3.mono (fun n4 w q4 => ?_) fun n' c d k => k.mono i13 x13⟩
      intro v4 I4 H4 s4 i4 x4 r4
      exact ⟨n4, env, ad, σ, I4, e, w, s4, r2.later (by decide) (i3.trans i4) (x3.trans x4), r4, q4.mono (fun _ _ k => k.mono (i13.trans i4) (x13.trans x4)) fun _ _ _ k => k.mono (i13.trans i4) (x13.trans x4)⟩
    | false =>
      rw [if_neg Bool.false_ne_true] at q3 ⊢
      exact q3 _ I3 H3 s3 i13 x13 (Rep.bl _)
  | _ => exact False.elim q3
theorem pm_chain {op op' : CmpOp} {o o' : D → D → M D} (ho : OpR X (compareOp op) (rP .rd .rd .val C ex o)) (ho' : OpR X (compareOp op') (rP .rd .rd .val C ex o')) (ha : PM .rd C ex X a f) (hb : PM .rd C ex X b g) (hc : PM .rd C ex X c k)
    (hm : lastMarks [op, op'] [b, c] = false := by with_unfolding_all rfl) : PM .val C ex X (.Compare a [op, op'] [b, c] pos) (eChain o o' f g k) :=
  PE_imp (pe_chain ho ho' ha hb hc hm) fun σ H Q q => tChain_of q
theorem pt_chainP {op op' : CmpOp} {o o' : D → D → M D} (ho : OpR X (compareOp op) (rP .rd .rd .val C ex o)) (ho' : OpR X (compareOp op') (rP .rd .rd .val C ex o')) (ha : PM .rd C ex X a f) (hb : PM .rd C ex X b g) (hc : PM .rd C ex X c k)
    (hm : lastMarks [op, op'] [b, c] = false := by with_unfolding_all rfl) : PMT C ex X (.Compare a [op, op'] [b, c] pos) (eTest (eChain o o' f g k)) :=
  PT_imp (pt_chain ho ho' ha hb hc hm) fun σ H Q q => tChain_of (by
    obtain ⟨n, env, ad, I, S, q⟩ := tT_of q
    exact ⟨n, env, ad, I, S, q.mono (fun n' d k v I' H' a b c r => k v I' H' a b c (.inl r)) fun _ _ _ k => k⟩)
/-- three comparisons, by the library's words -/
def tChain3 (r r' r'' : R2) (ta tb tc td : TE) : TE := fun σ H Q => ta σ H fun x H1 => tb σ H1 fun y H2 => r x y H2 fun z H3 => ∃ k, z = .bl k ∧
  (if k = true then tc σ H3 fun w' H4 => r' y w' H4 fun z' H5 => ∃ k', z' = .bl k' ∧ (if k' = true then td σ H5 fun w2 H6 => r'' w' w2 H6 Q else Q (.bl false) H5) else Q (.bl false) H3)
theorem pe_chain3 {op op' op'' : CmpOp} {r r' r'' : R2} {ta tb tc td : TE} (ho : OpR X (compareOp op) r) (ho' : OpR X (compareOp op') r') (ho'' : OpR X (compareOp op'') r'') (ha : PE X a ta) (hb : PE X b tb) (hc : PE X c tc) (hd : PE X d td)
    (hm : lastMarks [op, op', op''] [b, c, d] = false := by with_unfolding_all rfl) : PE X (.Compare a [op, op', op''] [b, c, d] pos) (tChain3 r r' r'' ta tb tc td) := by
  refine ⟨fun pins s σ H Q I h => ?_⟩
  refine PyProof.Rows.Compare_chain (thn (ha.run pins s σ H _ I h) fun v s1 ⟨x, H1, I1, r1, q1⟩ => PyProof.Rows.chain_link (thn (hb.run pins s1 σ H1 _ I1 q1) fun u s2 ⟨y, H2, I2, r2, q2⟩ =>
    thn (ho pins s2 σ H2 x y v u _ I2 r1 r2 q2) fun d s3 ⟨z, H3, I3, r3, k, e, q3⟩ => ?_)) hm
  subst e
  cases r3
  refine wpAny_truthy_bool ?_
  cases k with
  | false => exact PyProof.Rows.ite_ff ⟨.bl false, H3, I3, rfl, q3⟩
  | true =>
    refine PyProof.Rows.ite_tt (PyProof.Rows.chain_link (thn (hc.run pins s3 σ H3 _ I3 q3) fun w' s4 ⟨z', H4, I4, r4, q4⟩ => thn (ho' pins s4 σ H4 y z' u w' _ I4 r2 r4 q4) fun d' s5 ⟨z5, H5, I5, r5, k', e', q5⟩ => ?_))
    subst e'
    cases r5
    refine wpAny_truthy_bool ?_
    cases k' with
    | false => exact PyProof.Rows.ite_ff ⟨.bl false, H5, I5, rfl, q5⟩
    | true => exact PyProof.Rows.ite_tt (PyProof.Rows.chain_last (thn (hd.run pins s5 σ H5 _ I5 q5) fun w6 s6 ⟨z6, H6, I6, r6, q6⟩ => ho'' pins s6 σ H6 z' z6 w' w6 Q I6 r4 r6 q6))
theorem pm_chain3 {op op' op'' : CmpOp} {o o' o'' : D → D → M D} (ho : OpR X (compareOp op) (rP .rd .rd .val C ex o)) (ho' : OpR X (compareOp op') (rP .rd .rd .val C ex o')) (ho'' : OpR X (compareOp op'') (rP .rd .rd .val C ex o''))
    (ha : PM .rd C ex X a f) (hb : PM .rd C ex X b g) (hc : PM .rd C ex X c k) (hd : PM .rd C ex X d l)
    (hm : lastMarks [op, op', op''] [b, c, d] = false := by with_unfolding_all rfl) : PM .val C ex X (.Compare a [op, op', op''] [b, c, d] pos) (eChain3 o o' o'' f g k l) :=
  PE_imp (pe_chain3 ho ho' ho'' ha hb hc hd hm) fun σ H Q q => by
    obtain ⟨n, env, ad, I, S, q⟩ := q
    have q : AllB (f env >>= fun x => g env >>= fun y => o x y >>= boolM >>= fun b => if b then k env >>= fun z => o' y z >>= boolM >>= fun b' => if b' then l env >>= fun w => o'' z w else .ret (D.bl false) else .ret (D.bl false)) n (Po .val C env ad σ I H Q) (Pe C ex env ad σ I H) := q
    rw [allB_bind] at q
    refine ⟨n, env, ad, I, S, q.mono (fun n1 d q1 => ?_) (fun _ _ _ k => k)⟩
    intro v1 I1 H1 s1 i1 x1 r1
    rw [allB_bind] at q1
    refine ⟨n1, env, ad, I1, s1, q1.mono (fun n2 e q2 => ?_) (fun n' c d k => k.mono i1 x1)⟩
    intro v2 I2 H2 s2 i2 x2 r2
    rw [allB_bind, allB_bind] at q2
    refine ⟨n2, env, ad, σ, I2, d, e, s2, r1.later (by decide) i2 x2, r2, q2.mono (fun n3 z q3 => ?_) fun n' c d k => k.mono (i1.trans i2) (x1.trans x2)⟩
    intro v3 I3 H3 s3 i3 x3 r3
    have i13 := (i1.trans i2).trans i3
    have x13 := (x1.trans x2).trans x3
    cases z with
    | bl b =>
      refine ⟨b, r3.bl, ?_⟩
      have q3 : AllB (if b then k env >>= fun z => o' e z >>= boolM >>= fun b' => if b' then l env >>= fun w => o'' z w else .ret (D.bl false) else .ret (D.bl false)) n3 (Po .val C env ad σ I H Q) (Pe C ex env ad σ I H) := q3
      cases b with
      | true =>
        rw [if_pos rfl] at q3 ⊢
        rw [allB_bind] at q3
        refine ⟨n3, env, ad, I3, s3, q3.mono (fun n4 w q4 => ?_) fun n' c d k => k.mono i13 x13⟩
        intro v4 I4 H4 s4 i4 x4 r4
        rw [allB_bind, allB_bind] at q4
        have i14 := i13.trans i4
        have x14 := x13.trans x4
        refine ⟨n4, env, ad, σ, I4, e, w, s4, r2.later (by decide) (i3.trans i4) (x3.trans x4), r4, q4.mono (fun n5 z5 q5 => ?_) fun _ _ _ k => k.mono i14 x14⟩
        intro v5 I5 H5 s5 i5 x5 r5
        have i15 := i14.trans i5
        have x15 := x14.trans x5
        cases z5 with
        | bl b' =>
          refine ⟨b', r5.bl, ?_⟩
          have q5 : AllB (if b' then l env >>= fun z => o'' w z else .ret (D.bl false)) n5 (Po .val C env ad σ I H Q) (Pe C ex env ad σ I H) := q5
          cases b' with
          | true =>
            rw [if_pos rfl] at q5 ⊢
            rw [allB_bind] at q5
            refine ⟨n5, env, ad, I5, s5, q5.mono (fun n6 w6 q6 => ?_) fun n' c d k => k.mono i15 x15⟩
            intro v6 I6 H6 s6 i6 x6 r6
            exact ⟨n6, env, ad, σ, I6, w, w6, s6, r4.later (by decide) (i5.trans i6) (x5.trans x6), r6, q6.mono (fun _ _ k => k.mono (i15.trans i6) (x15.trans x6)) fun _ _ _ k => k.mono (i15.trans i6) (x15.trans x6)⟩
          | false =>
            rw [if_neg Bool.false_ne_true] at q5 ⊢
            exact q5 _ I5 H5 s5 i15 x15 (Rep.bl _)
        | _ => exact False.elim q5
      | false =>
        rw [if_neg Bool.false_ne_true] at q3 ⊢
        exact q3 _ I3 H3 s3 i13 x13 (Rep.bl _)
    | _ => exact False.elim q3

/-! ### argument lists -/
def RepA (C : Ctx) (I H : Hp) : List Md → List V → List D → Prop
  | [], [], [] => True
  | m :: ms, v :: vs, d :: ds => m ≠ .fr ∧ RepM m C [] (fun _ => 0) I H v d ∧ RepA C I H ms vs ds
  | _, _, _ => False
theorem RepM.any {env env' : Env} {ad ad' : Nat → Addr} {I H : Hp} {v : V} {d : D} (hm : m ≠ .fr) (r : RepM m C env ad I H v d) : RepM m C env' ad' I H v d := by
  cases m with
  | val => exact r
  | st => exact r
  | rd => exact r
  | fr => exact absurd rfl hm
theorem RepA.later {I I' H H' : Hp} (s : Sub I I') (x : SameX C.W.S H H') : ∀ {ms : List Md} {vs : List V} {ds : List D}, RepA C I H ms vs ds → RepA C I' H' ms vs ds
  | [], [], [], _ => trivial
  | m :: ms, v :: vs, d :: ds, ⟨h, r, q⟩ => ⟨h, r.later h s x, RepA.later s x q⟩
theorem RepA.len {I H : Hp} : ∀ {ms : List Md} {vs : List V} {ds : List D}, RepA C I H ms vs ds → vs.length = ms.length ∧ ds.length = ms.length
  | [], [], [], _ => ⟨rfl, rfl⟩
  | m :: ms, v :: vs, d :: ds, ⟨h, r, q⟩ => by
    obtain ⟨a, b⟩ := RepA.len q
    exact ⟨congrArg (· + 1) a, congrArg (· + 1) b⟩
def PoA (ms : List Md) (C : Ctx) (env : Env) (ad : Nat → Addr) (σ : L2.St) (I H : Hp) (Q : List V → Hp → Prop) : Nat → List D → Prop := fun n' ds => ∀ vs I' H', Sim C n' env ad σ I' H' → Sub I I' → SameX C.W.S H H' → RepA C I' H' ms vs ds → Q vs H'
def tA (ms : List Md) (C : Ctx) (ex : Ex) (f : Env → M (List D)) : TA := fun σ H Q => ∃ n env ad I, Sim C n env ad σ I H ∧ AllB (f env) n (PoA ms C env ad σ I H Q) (Pe C ex env ad σ I H)
abbrev PMA (ms : List Md) (C : Ctx) (ex : Ex) (X : Cx) (es : List Expr) (f : Env → M (List D)) : Prop := PA X es (tA ms C ex f)
theorem pma_nil : PMA [] C ex X [] eNil := PA_imp pa_nil fun σ H Q ⟨n, env, ad, I, S, q⟩ => (show PoA [] C env ad σ I H Q n [] from q) [] I H S (Sub.refl _) (SameX.refl _) trivial
theorem pma_cons (ha : PM m C ex X e f) (hr : PMA ms C ex X es fs) (hm : m ≠ .fr := by decide) (hs : starEach (e :: es) X.env = (false, eval e X.env) :: starEach es X.env := by rfl) : PMA (m :: ms) C ex X (e :: es) (eCons f fs) :=
  PA_imp (pa_cons ha hr hs) fun σ H Q q => by
    obtain ⟨n, env, ad, I, S, q⟩ := q
    have q : AllB (f env >>= fun x => fs env >>= fun xs => .ret (x :: xs)) n (PoA (m :: ms) C env ad σ I H Q) (Pe C ex env ad σ I H) := q
    rw [allB_bind] at q
    refine ⟨n, env, ad, I, S, q.mono (fun n1 d q1 => ?_) (fun _ _ _ k => k)⟩
    intro v1 I1 H1 s1 i1 x1 r1
    rw [allB_bind] at q1
    refine ⟨n1, env, ad, I1, s1, q1.mono (fun n2 ds q2 => ?_) (fun n' c d k => k.mono i1 x1)⟩
    intro vs I2 H2 s2 i2 x2 r2
    exact (show PoA (m :: ms) C env ad σ I H Q n2 (d :: ds) from q2) (v1 :: vs) I2 H2 s2 (i1.trans i2) (x1.trans x2) ⟨hm, (r1.later hm i2 x2).any hm, r2⟩

/-! ### displays -/
theorem RepA.vals {I H : Hp} : ∀ {ms : List Md} {vs : List V} {ds : List D}, (ms.all fun m => decide (m = .val)) = true → RepA C I H ms vs ds → RepL C.W I vs ds
  | [], [], [], _, _ => .nil
  | m :: ms, v :: vs, d :: ds, h, ⟨_, r, q⟩ => by
    rw [List.all_cons, Bool.and_eq_true] at h
    obtain rfl := of_decide_eq_true h.1
    exact .cons r (RepA.vals h.2 q)
theorem pm_tup {x1} (ha : PMA ms C ex X es fs) (hv : (ms.all fun m => decide (m = .val)) = true := by rfl) : PM .val C ex X (.Tuple es x1 pos) (eTup fs) :=
  PE_imp (pe_tup ha) fun σ H Q q => by
    obtain ⟨n, env, ad, I, S, q⟩ := q
    have q : AllB (fs env >>= fun xs => if xs.length ≤ line then .ret (D.tup xs) else .bad) n (Po .val C env ad σ I H Q) (Pe C ex env ad σ I H) := q
    rw [allB_bind] at q
    refine ⟨n, env, ad, I, S, q.mono (fun n1 ds q1 => ?_) (fun _ _ _ k => k)⟩
    intro vs I1 H1 s1 i1 x1 r1
    obtain ⟨hz, q1⟩ := allB_ite q1
    have rl := r1.vals hv
    refine ⟨by rw [rl.length, ← line_eq]; exact hz, fun p hp => ?_⟩
    exact q1 _ (upd I1 p _) (upd H1 p _) (s1.laid hp) (i1.trans (sub_upd (s1.none_I hp))) (x1.trans (SameX.upd hp)) (Rep.tup (SqT.of upd_same) (rl.mono (sub_upd (s1.none_I hp))))
theorem pm_lst (ha : PMA ms C ex X es fs) (hv : (ms.all fun m => decide (m = .val)) = true := by rfl) : PM .fr C ex X (.List es pos) (eLst fs) :=
  PE_imp (pe_lst ha) fun σ H Q q => by
    obtain ⟨n, env, ad, I, S, q⟩ := q
    have q : AllB (fs env >>= fun xs => if xs.length ≤ line then .ret (D.lst xs) else .bad) n (Po .fr C env ad σ I H Q) (Pe C ex env ad σ I H) := q
    rw [allB_bind] at q
    refine ⟨n, env, ad, I, S, q.mono (fun n1 ds q1 => ?_) (fun _ _ _ k => k)⟩
    intro vs I1 H1 s1 i1 x1 r1
    obtain ⟨hz, q1⟩ := allB_ite q1
    have rl := r1.vals hv
    refine ⟨by rw [rl.length, ← line_eq]; exact hz, fun p hp => ?_⟩
    exact q1 _ I1 (upd H1 p _) (s1.laid' hp) i1 (x1.trans (SameX.upd hp)) (s1.new hp rl)

/-! ### built-ins -/
def rC (ms : List Md) (m : Md) (C : Ctx) (ex : Ex) (o : List D → M D) : List V → Hp → VK → Prop := fun vs H Q => ∃ n env ad σ I ds, Sim C n env ad σ I H ∧ RepA C I H ms vs ds ∧ AllB (o ds) n (Po m C env ad σ I H Q) (Pe C ex env ad σ I H)
theorem tA_call {o : List D → M D} {σ : L2.St} {H : Hp} {Q : VK} (q : tM m C ex (eCall o fs) σ H Q) : tA ms C ex fs σ H fun vs H1 => rC ms m C ex o vs H1 Q := by
  obtain ⟨n, env, ad, I, S, q⟩ := q
  have q : AllB (fs env >>= o) n (Po m C env ad σ I H Q) (Pe C ex env ad σ I H) := q
  rw [allB_bind] at q
  refine ⟨n, env, ad, I, S, q.mono (fun n1 ds q1 => ?_) (fun _ _ _ k => k)⟩
  intro vs I1 H1 s1 i1 x1 r1
  exact ⟨n1, env, ad, σ, I1, ds, s1, r1, q1.mono (fun _ _ k => k.mono i1 x1) fun _ _ _ k => k.mono i1 x1⟩
theorem pm_callB {x : Str} {p : Pos} {id : String} {o : List D → M D} (hc : CallR X (.builtin id) (rC ms m C ex o)) (hg : Gl X x) (hm : X.mg x = none) (hv : bootBuiltins x = some (.builtin id)) (ha : PMA ms C ex X (e :: es) fs) (hn : x ≠ "__name__" := by decide) (hdb : (x == ("__debug__" : Str)) = false := by decide)
    (he : starEach (e :: es) X.env = (false, eval e X.env) :: starEach es X.env := by rfl) (hpl : (backTo pos (starEach es X.env)).any (·.1) = false := by rfl) : PM m C ex X (.Call (.Name x p) (e :: es) [] pos) (eCall o fs) :=
  PE_imp (pe_callB hc hg hm hv ha hn hdb he hpl) fun σ H Q q => tA_call q
theorem pm_callTy {x : Str} {p : Pos} {T : String} {o : List D → M D} (hc : CallR X (.type T) (rC ms m C ex o)) (hg : Gl X x) (hm : X.mg x = none) (hv : bootBuiltins x = some (.type T)) (ha : PMA ms C ex X (e :: es) fs) (hn : x ≠ "__name__" := by decide) (hdb : (x == ("__debug__" : Str)) = false := by decide)
    (he : starEach (e :: es) X.env = (false, eval e X.env) :: starEach es X.env := by rfl) (hpl : (backTo pos (starEach es X.env)).any (·.1) = false := by rfl) : PM m C ex X (.Call (.Name x p) (e :: es) [] pos) (eCall o fs) :=
  PE_imp (pe_callTy hc hg hm hv ha hn hdb he hpl) fun σ H Q q => tA_call q
theorem RepA.one {I H : Hp} {vs : List V} {ds : List D} (r : RepA C I H [m] vs ds) : ∃ v d, vs = [v] ∧ ds = [d] ∧ RepM m C [] (fun _ => 0) I H v d := by
  cases vs with
  | nil => cases ds <;> exact False.elim r
  | cons v vs =>
    cases ds with
    | nil => exact False.elim r
    | cons d ds =>
      obtain ⟨_, r1, r2⟩ := r
      cases vs with
      | nil =>
        cases ds with
        | nil => exact ⟨v, d, rfl, rfl, r1⟩
        | cons _ _ => exact False.elim r2
      | cons _ _ => cases ds <;> exact False.elim r2
theorem RepA.two {I H : Hp} {vs : List V} {ds : List D} (r : RepA C I H [m1, m2] vs ds) : ∃ v d w e, vs = [v, w] ∧ ds = [d, e] ∧ RepM m1 C [] (fun _ => 0) I H v d ∧ RepM m2 C [] (fun _ => 0) I H w e := by
  cases vs with
  | nil => cases ds <;> exact False.elim r
  | cons v vs =>
    cases ds with
    | nil => exact False.elim r
    | cons d ds =>
      obtain ⟨_, r1, r2⟩ := r
      obtain ⟨w, e, rfl, rfl, r3⟩ := RepA.one r2
      exact ⟨v, d, w, e, rfl, rfl, r1, r3⟩
/-- one argument -/
def arg1 (o : D → M D) : List D → M D
  | [d] => o d
  | _ => .bad
def arg2 (o : D → D → M D) : List D → M D
  | [d, e] => o d e
  | _ => .bad
theorem c_len (hK : C.W.K = X.K) : CallR X (.builtin "len") (rC [.rd] .val C ex (arg1 lenM)) := by
  intro pins s σ0 H vs us Q Iv r h
  obtain ⟨n, env, ad, σ, I, ds, S, ra, q⟩ := h
  obtain ⟨v, d, rfl, rfl, r1⟩ := ra.one
  have r1 := r1.any (env' := env) (ad' := ad) (by decide)
  cases d with
  | lst xs =>
    obtain ⟨p, ws, rfl, hp, rl⟩ := r1.lst S
    refine call_len pins s σ0 H _ us Q Iv r ⟨_, ws.length, rfl, .inl ⟨ws, SqL.of hp, rfl⟩, ?_⟩
    rw [rl.length]
    exact q _ I H S (Sub.refl _) (SameX.refl _) (Rep.int _)
  | tup xs =>
    obtain ⟨p, ws, rfl, hp, rl, _⟩ := r1.tup S
    refine call_len pins s σ0 H _ us Q Iv r ⟨_, ws.length, rfl, .inr ⟨ws, by rw [← hK]; exact hp, rfl⟩, ?_⟩
    rw [rl.length]
    exact q _ I H S (Sub.refl _) (SameX.refl _) (Rep.int _)
  | str x =>
    obtain ⟨hz, q⟩ := allB_ite (show AllB (if _ then _ else .bad) _ _ _ from q)
    obtain rfl := r1.str
    exact call_len pins s σ0 H _ us Q Iv r ⟨_, x.length, rfl, ⟨by rw [← line_eq]; exact hz, rfl⟩, q _ I H S (Sub.refl _) (SameX.refl _) (Rep.int _)⟩
  | dct kvs =>
    obtain ⟨p, ws, rfl, hp, rl⟩ := r1.dct S
    obtain ⟨u, rfl, ru⟩ := vals1 r
    cases ru
    refine L2.d_len Iv (.inl hp) fun t s' I' => ⟨.int kvs.length, H, I', ⟨t, by rw [rl.length]⟩, q _ I H S (Sub.refl _) (SameX.refl _) (Rep.int _)⟩
  | _ => exact False.elim q
end
end PD

set_option Elab.async false
set_option linter.all false
set_option maxRecDepth 100000
set_option maxHeartbeats 2000000
/-! PDStm: statements over plain data. -/
namespace PD
open PySem PySem.Spec L2
section
variable {C : Ctx} {ex : Ex} {X : Cx} {e : Expr} {st : Stmt} {rest : List Stmt} {f g : Env → M D} {t : Env → M Bool} {s u : Env → M (Fl × Env)} {pos : Pos} {m : Md}

/-- what a statement's end must do -/
def PoS (C : Ctx) (ex : Ex) (Dn : Ends) (I : Hp) : Nat → Fl × Env → Prop := fun n' r => match r with
  | (.nx, env') => ∀ ad' σ' I' H', Sim C n' env' ad' σ' I' H' → Sub I I' → Dn.nx σ' H'
  | (.brk, env') => ∀ ad' σ' I' H', Sim C n' env' ad' σ' I' H' → Sub I I' → Dn.bk σ' H'
  | (.cnt, env') => ∀ ad' σ' I' H', Sim C n' env' ad' σ' I' H' → Sub I I' → Dn.ct σ' H'
  | (.rt d, env') => ∀ ad' σ' I' H' v, Sim C n' env' ad' σ' I' H' → Sub I I' → Rep C.W I' v d → Dn.rt v H'
  | (.rtF d, env') => ∀ ad' σ' I' H' v, Sim C n' env' ad' σ' I' H' → Sub I I' → RepM .fr C [] ad' I' H' v d → Dn.rt v H'
  | (.exc c d, env') => ∀ ad' σ' I' H', Sim C n' env' ad' σ' I' H' → Sub I I' → ex n' c d env' ad' σ' I' H'
abbrev noE : Nat → Nat → D → Prop := fun _ _ _ => False
def tS (C : Ctx) (ex : Ex) (s : Env → M (Fl × Env)) : TS := fun Dn σ H => ∃ n env ad I, Sim C n env ad σ I H ∧ AllB (s env) n (PoS C ex Dn I) noE
abbrev PMS (C : Ctx) (ex : Ex) (X : Cx) (st : Stmt) (s : Env → M (Fl × Env)) : Prop := PS X st (tS C ex s)
abbrev PMB (C : Ctx) (ex : Ex) (X : Cx) (st : List Stmt) (s : Env → M (Fl × Env)) : Prop := PSs X st (tS C ex s)
theorem PoS.mono {Dn : Ends} {I I1 : Hp} {n : Nat} {r : Fl × Env} (h : PoS C ex Dn I n r) (i : Sub I I1) : PoS C ex Dn I1 n r := by
  obtain ⟨fl, env⟩ := r
  cases fl <;> exact fun ad' σ' I' H' => by
    intro
    first
    | (intro a b; exact h ad' σ' I' H' ‹_› (i.trans a) b)
    | (intro a; exact h ad' σ' I' H' ‹_› (i.trans a))
    | (intro a b c; exact h ad' σ' I' H' _ a (i.trans b) c)
/-- an expression within a statement -/
theorem tM_S {k : D → M (Fl × Env)} {n : Nat} {env : Env} {ad : Nat → Addr} {σ : L2.St} {I H : Hp} {Dn : Ends} {Q : VK} {x : M D} (S : Sim C n env ad σ I H) (q : AllB (tryB x env k) n (PoS C ex Dn I) noE)
    (hq : ∀ n' d v I' H', Sim C n' env ad σ I' H' → Sub I I' → SameX C.W.S H H' → RepM m C env ad I' H' v d → AllB (k d) n' (PoS C ex Dn I') noE → Q v H') : AllB x n (Po m C env ad σ I H Q) (Pe C ex env ad σ I H) := by
  rw [allB_tryB] at q
  exact q.mono (fun n' d q1 v I' H' S' i x r => hq n' d v I' H' S' i x r (q1.mono (fun _ _ z => z.mono i) fun _ _ _ z => z)) fun n' c d z I' H' S' i x => z ad σ I' H' S' i
theorem tT_S {k : Bool → M (Fl × Env)} {n : Nat} {env : Env} {ad : Nat → Addr} {σ : L2.St} {I H : Hp} {Dn : Ends} {Q : Bool → Hp → Prop} {x : M Bool} (S : Sim C n env ad σ I H) (q : AllB (tryB x env k) n (PoS C ex Dn I) noE)
    (hq : ∀ n' d I' H', Sim C n' env ad σ I' H' → Sub I I' → SameX C.W.S H H' → AllB (k d) n' (PoS C ex Dn I') noE → Q d H') : AllB x n (PoT C env ad σ I H Q) (Pe C ex env ad σ I H) := by
  rw [allB_tryB] at q
  exact q.mono (fun n' d q1 I' H' S' i x => hq n' d I' H' S' i x (q1.mono (fun _ _ z => z.mono i) fun _ _ _ z => z)) fun n' c d z I' H' S' i x => z ad σ I' H' S' i

theorem ms_nil : PMB C ex X [] sSkip := PSs_imp pss_nil fun Dn σ H ⟨n, env, ad, I, S, q⟩ => (show PoS C ex Dn I n (.nx, env) from q) ad σ I H S (Sub.refl _)
theorem ms_cons (h1 : PMS C ex X st s) (h2 : PMB C ex X rest u) : PMB C ex X (st :: rest) (sSeq s u) := PSs_imp (pss_cons h1 h2) fun Dn σ H q => by
  obtain ⟨n, env, ad, I, S, q⟩ := q
  have q : AllB (s env >>= fun r => match r with | (.nx, e') => u e' | r => .ret r) n (PoS C ex Dn I) noE := q
  rw [allB_bind] at q
  refine ⟨n, env, ad, I, S, q.mono (fun n1 r q1 => ?_) fun _ _ _ k => k⟩
  obtain ⟨fl, env'⟩ := r
  cases fl with
  | nx => exact fun ad' σ' I' H' S' i => ⟨n1, env', ad', I', S', q1.mono (fun _ _ z => z.mono i) fun _ _ _ z => z⟩
  | brk => exact q1
  | cnt => exact q1
  | rt d => exact q1
  | rtF d => exact q1
  | exc c d => exact q1
theorem ms_one (h1 : PMS C ex X st s) : PMB C ex X [st] s := PSs_imp (pss_one h1) fun _ _ _ q => q
theorem ms_pass : PMS C ex X (.Pass pos) sSkip := PS_imp ps_pass fun Dn σ H ⟨n, env, ad, I, S, q⟩ => (show PoS C ex Dn I n (.nx, env) from q) ad σ I H S (Sub.refl _)
theorem ms_doc {x j pos pos'} : PMS C ex X (.Expr (.Constant (.str x) j pos) pos') sSkip := PS_imp ps_doc fun Dn σ H ⟨n, env, ad, I, S, q⟩ => (show PoS C ex Dn I n (.nx, env) from q) ad σ I H S (Sub.refl _)
theorem ms_brk : PMS C ex X (.Break pos) sBrk := PS_imp ps_break fun Dn σ H ⟨n, env, ad, I, S, q⟩ => (show PoS C ex Dn I n (.brk, env) from q) ad σ I H S (Sub.refl _)
theorem ms_cnt : PMS C ex X (.Continue pos) sCnt := PS_imp ps_continue fun Dn σ H ⟨n, env, ad, I, S, q⟩ => (show PoS C ex Dn I n (.cnt, env) from q) ad σ I H S (Sub.refl _)
theorem ms_never : PMS C ex X st sNever := PS_imp ps_never fun Dn σ H ⟨n, env, ad, I, S, q⟩ => q
theorem mb_never : PMB C ex X rest sNever := PSs_imp pss_never fun Dn σ H ⟨n, env, ad, I, S, q⟩ => q
theorem ms_expr (he : PM m C ex X e f) (hs : swapsWith e none pos.line X.env = pure false := by rfl) : PMS C ex X (.Expr e pos) (sExpr f) := PS_imp (ps_expr he hs) fun Dn σ H ⟨n, env, ad, I, S, q⟩ =>
  ⟨n, env, ad, I, S, tM_S S q fun n' d v I' H' S' i x r q' => (show PoS C ex Dn I' n' (.nx, env) from q') ad σ I' H' S' (Sub.refl _)⟩
theorem ms_ret (he : PM .val C ex X e f) : PMS C ex X (.Return (some e) pos) (sRet f) := PS_imp (ps_ret he) fun Dn σ H ⟨n, env, ad, I, S, q⟩ =>
  ⟨n, env, ad, I, S, tM_S S q fun n' d v I' H' S' i x r q' => (show PoS C ex Dn I' n' (.rt d, env) from q') ad σ I' H' v S' (Sub.refl _) r⟩
theorem ms_retF (he : PM .fr C ex X e f) : PMS C ex X (.Return (some e) pos) (sRetF f) := PS_imp (ps_ret he) fun Dn σ H ⟨n, env, ad, I, S, q⟩ =>
  ⟨n, env, ad, I, S, tM_S S q fun n' d v I' H' S' i x r q' => (show PoS C ex Dn I' n' (.rtF d, env) from q') ad σ I' H' v S' (Sub.refl _) (by
    obtain ⟨a, h1, h2, h3, h4, h5, h6⟩ := r
    exact ⟨a, h1, h2, h3, h4, h5, fun i e h => by simp at h⟩)⟩
theorem ms_retN : PMS C ex X (.Return none pos) sRetN := PS_imp ps_retN fun Dn σ H ⟨n, env, ad, I, S, q⟩ => (show PoS C ex Dn I n (.rt .non, env) from q) ad σ I H .non S (Sub.refl _) .non
theorem ms_if {c : Expr} {a b : List Stmt} (hc : PMT C ex X c t) (ha : PMB C ex X a s) (hb : PMB C ex X b u) : PMS C ex X (.If c a b pos) (sIf t s u) := PS_imp (ps_if hc ha hb) fun Dn σ H ⟨n, env, ad, I, S, q⟩ =>
  ⟨n, env, ad, I, S, tT_S S q fun n' b I' H' S' i x q' => by
    cases b with
    | true => exact ⟨n', env, ad, I', S', q'⟩
    | false => exact ⟨n', env, ad, I', S', q'⟩⟩
/-- a value into a slot -/
theorem Sim.setV {n : Nat} {env : Env} {ad : Nat → Addr} {σ : L2.St} {I H : Hp} {i : Nat} {v : V} {d : D} (S : Sim C n env ad σ I H) (r : Rep C.W I v d) : Sim C n (env.set i (.v d)) ad (σ.set i (some v)) I H := by
  refine ⟨S.sub, S.i0, S.base, S.fresh, S.nos, S.src, by rw [List.length_set, List.length_set]; exact S.len, fun j e h => ?_, fun j e h => ?_, fun j e h => ?_, fun j k e e' h h' => ?_⟩
  · by_cases hj : i = j
    · subst hj
      have hl : i < env.length := by
        have := (List.getElem?_eq_some_iff.mp h).1
        rwa [List.length_set] at this
      rw [List.getElem?_set_self hl] at h
      cases h
      exact ⟨v, List.getElem?_set_self (by rw [← S.len]; exact hl), r⟩
    · rw [List.getElem?_set_ne hj] at h ⊢
      exact S.sv j e h
  · by_cases hj : i = j
    · subst hj
      have hl : i < env.length := by
        have := (List.getElem?_eq_some_iff.mp h).1
        rwa [List.length_set] at this
      rw [List.getElem?_set_self hl] at h
      cases h
    · rw [List.getElem?_set_ne hj] at h ⊢
      exact S.sb j e h
  · by_cases hj : i = j
    · subst hj
      have hl : i < env.length := by
        have := (List.getElem?_eq_some_iff.mp h).1
        rwa [List.length_set] at this
      rw [List.getElem?_set_self hl] at h
      cases h
    · rw [List.getElem?_set_ne hj] at h ⊢
      exact S.so j e h
  · have key : ∀ {j : Nat} {e : D}, (env.set i (.v d))[j]? = some (Slot.own e) → env[j]? = some (Slot.own e) := fun {j e} h => by
      by_cases hj : i = j
      · subst hj
        have hl : i < env.length := by
          have := (List.getElem?_eq_some_iff.mp h).1
          rwa [List.length_set] at this
        rw [List.getElem?_set_self hl] at h
        cases h
      · rwa [List.getElem?_set_ne hj] at h
    exact S.inj j k e e' (key h) (key h')
theorem set_own {env : Env} {i j : Nat} {x : Slot} {e : D} (h : (env.set i x)[j]? = some (Slot.own e)) : (i = j ∧ x = .own e) ∨ (i ≠ j ∧ env[j]? = some (Slot.own e)) := by
  by_cases hj : i = j
  · subst hj
    have hl : i < env.length := by
      have := (List.getElem?_eq_some_iff.mp h).1
      rwa [List.length_set] at this
    rw [List.getElem?_set_self hl] at h
    cases h
    exact .inl ⟨rfl, rfl⟩
  · rw [List.getElem?_set_ne hj] at h
    exact .inr ⟨hj, h⟩
theorem set_not {env : Env} {i j : Nat} {x y : Slot} (h : (env.set i x)[j]? = some y) : (i = j ∧ i < env.length ∧ x = y) ∨ (i ≠ j ∧ env[j]? = some y) := by
  by_cases hj : i = j
  · subst hj
    have hl : i < env.length := by
      have := (List.getElem?_eq_some_iff.mp h).1
      rwa [List.length_set] at this
    rw [List.getElem?_set_self hl] at h
    cases h
    exact .inl ⟨rfl, hl, rfl⟩
  · rw [List.getElem?_set_ne hj] at h
    exact .inr ⟨hj, h⟩
/-- a new container into a slot -/
theorem Sim.setO {n : Nat} {env : Env} {ad : Nat → Addr} {σ : L2.St} {I H : Hp} {i : Nat} {a : Addr} {d : D} (S : Sim C n env ad σ I H) (o : Own C.W I H a d) (hI : I a = none) (hB : C.B a = none) (hN : NotS C.W.S a) (hn : ∀ (j : Nat) (e : D), env[j]? = some (Slot.own e) → j ≠ i → ad j ≠ a) :
    Sim C n (env.set i (.own d)) (fun j => if j = i then a else ad j) (σ.set i (some (.ref a))) I H := by
  refine ⟨S.sub, S.i0, S.base, S.fresh, S.nos, S.src, by rw [List.length_set, List.length_set]; exact S.len, fun j e h => ?_, fun j e h => ?_, fun j e h => ?_, fun j k e e' h h' hh => ?_⟩
  · rcases set_not h with ⟨rfl, _, z⟩ | ⟨hj, h⟩
    · cases z
    · rw [List.getElem?_set_ne hj]; exact S.sv j e h
  · rcases set_not h with ⟨rfl, _, z⟩ | ⟨hj, h⟩
    · cases z
    · rw [List.getElem?_set_ne hj]; exact S.sb j e h
  · rcases set_not h with ⟨rfl, hl, z⟩ | ⟨hj, h⟩
    · cases z
      rw [if_pos rfl]
      exact ⟨List.getElem?_set_self (by rw [← S.len]; exact hl), o, hB, hI, hN⟩
    · rw [List.getElem?_set_ne hj, if_neg (Ne.symm hj)]; exact S.so j e h
  · rcases set_not h with ⟨rfl, _, z⟩ | ⟨hj, h⟩ <;> rcases set_not h' with ⟨rfl, _, z'⟩ | ⟨hk, h'⟩
    · rfl
    · rw [if_pos rfl, if_neg (Ne.symm hk)] at hh
      exact absurd hh.symm (hn k e' h' (Ne.symm hk))
    · rw [if_pos rfl, if_neg (Ne.symm hj)] at hh
      exact absurd hh (hn j e h (Ne.symm hj))
    · rw [if_neg (Ne.symm hj), if_neg (Ne.symm hk)] at hh
      exact S.inj j k e e' h h' hh
theorem ms_set {i : Nat} {x : Str} {pos' : Pos} (hN : X.N.Nodup) (hi : X.N[i]? = some x) (hx : Loc X.env.scope x) (he : PM .val C ex X e f) (hs : swapsWith e (some (.Name x pos')) pos.line X.env = pure false := by rfl) (hf : X.fn x = true ∨ X.env.scope.names.lookup x = some .local := by first | exact .inl rfl | exact .inr rfl | assumption) :
    PMS C ex X (.Assign [.Name x pos'] e pos) (sSet i f) := PS_imp (ps_set hN hi hx he hs hf) fun Dn σ H ⟨n, env, ad, I, S, q⟩ =>
  ⟨n, env, ad, I, S, tM_S S q fun n' d v I' H' S' _ x r q' => (show PoS C ex Dn I' n' (.nx, env.set i (.v d)) from q') ad (σ.set i (some v)) I' H' (S'.setV r) (Sub.refl _)⟩
theorem ms_setO {i : Nat} {x : Str} {pos' : Pos} (hN : X.N.Nodup) (hi : X.N[i]? = some x) (hx : Loc X.env.scope x) (he : PM .fr C ex X e f) (hs : swapsWith e (some (.Name x pos')) pos.line X.env = pure false := by rfl) (hf : X.fn x = true ∨ X.env.scope.names.lookup x = some .local := by first | exact .inl rfl | exact .inr rfl | assumption) :
    PMS C ex X (.Assign [.Name x pos'] e pos) (sSetO i f) := PS_imp (ps_set hN hi hx he hs hf) fun Dn σ H ⟨n, env, ad, I, S, q⟩ =>
  ⟨n, env, ad, I, S, tM_S S q fun n' d v I' H' S' _ x r q' => by
    obtain ⟨a, rfl, hN, o, hI, hB, hn⟩ := r
    exact (show PoS C ex Dn I' n' (.nx, env.set i (.own d)) from q') _ (σ.set i (some (.ref a))) I' H' (S'.setO o hI hB hN fun j e h _ => hn j e h) (Sub.refl _)⟩
/-- a held container is from now on a value -/
theorem Sim.frz {n : Nat} {env : Env} {ad : Nat → Addr} {σ : L2.St} {I H : Hp} (S : Sim C n env ad σ I H) (i : Nat) : ∃ I', Sim C n (frz i env) ad σ I' H ∧ Sub I I' := by
  unfold PD.frz
  split
  · rename_i d h
    obtain ⟨h1, h2, h3, h4, h5⟩ := S.so i d h
    obtain ⟨u, hu⟩ := h2.there
    have hl : i < env.length := (List.getElem?_eq_some_iff.mp h).1
    -- first the slot is let go, then the container is kept
    have S1 : Sim C n (env.set i .no) ad σ I H := by
      refine ⟨S.sub, S.i0, S.base, S.fresh, S.nos, S.src, by rw [List.length_set]; exact S.len, fun j e h => ?_, fun j e h => ?_, fun j e h => ?_, fun j k e e' h h' hh => ?_⟩
      · rcases set_not h with ⟨rfl, _, z⟩ | ⟨hj, h⟩
        · cases z
        · exact S.sv j e h
      · rcases set_not h with ⟨rfl, _, z⟩ | ⟨hj, h⟩
        · cases z
        · exact S.sb j e h
      · rcases set_not h with ⟨rfl, _, z⟩ | ⟨hj, h⟩
        · cases z
        · exact S.so j e h
      · rcases set_not h with ⟨rfl, _, z⟩ | ⟨hj, h⟩ <;> rcases set_not h' with ⟨rfl, _, z'⟩ | ⟨hk, h'⟩
        · rfl
        · cases z
        · cases z'
        · exact S.inj j k e e' h h' hh
    have S2 := S1.keep hu h4 h3 h5 fun j e hj z => by
      rcases set_not hj with ⟨rfl, _, y⟩ | ⟨ne, hj⟩
      · cases y
      · exact ne (S.inj i j d e h hj z.symm)
    have r := h2.rep (sub_upd h4) (show upd I (ad i) u (ad i) = H (ad i) by rw [upd_same]; exact hu.symm)
    have S3 := S2.setV (i := i) r
    rw [List.set_set] at S3
    have es : σ.set i (some (V.ref (ad i))) = σ := by
      apply List.ext_getElem?
      intro j
      by_cases hj : i = j
      · subst hj
        rw [List.getElem?_set_self (by rw [← S.len]; exact hl)]
        exact h1.symm
      · rw [List.getElem?_set_ne hj]
    rw [es] at S3
    exact ⟨_, S3, sub_upd h4⟩
  · exact ⟨I, S, Sub.refl _⟩
theorem ms_frz (i : Nat) (h : PMS C ex X st s) : PMS C ex X st (sFrz i s) := PS_imp h fun Dn σ H ⟨n, env, ad, I, S, q⟩ => by
  obtain ⟨I', S', i'⟩ := S.frz i
  exact ⟨n, _, ad, I', S', (show AllB (s (frz i env)) n (PoS C ex Dn I) noE from q).mono (fun _ _ z => z.mono i') fun _ _ _ z => z⟩
theorem mb_frz (i : Nat) (h : PMB C ex X rest s) : PMB C ex X rest (sFrz i s) := PSs_imp h fun Dn σ H ⟨n, env, ad, I, S, q⟩ => by
  obtain ⟨I', S', i'⟩ := S.frz i
  exact ⟨n, _, ad, I', S', (show AllB (s (frz i env)) n (PoS C ex Dn I) noE from q).mono (fun _ _ z => z.mono i') fun _ _ _ z => z⟩
end
end PD

set_option Elab.async false
set_option linter.all false
set_option maxRecDepth 100000
set_option maxHeartbeats 2000000
/-! PDFor: targets, what is walked, for, list comprehensions. -/
namespace PD
open PySem PySem.Spec L2
section
variable {C : Ctx} {ex : Ex} {X : Cx} {e : Expr} {es : List Expr} {f g : Env → M D} {t : Env → M Bool} {s u : Env → M (Fl × Env)} {pos : Pos} {m : Md}

/-! ### targets -/
/-- σ' is σ but for the slots js -/
def But (js : List Nat) (σ σ' : L2.St) : Prop := σ'.length = σ.length ∧ ∀ j, j ∉ js → σ'[j]? = σ[j]?
theorem But.trans {js ks : List Nat} {σ σ1 σ2 : L2.St} (a : But js σ σ1) (b : But ks σ1 σ2) : But (js ++ ks) σ σ2 :=
  ⟨b.1.trans a.1, fun j h => (b.2 j fun z => h (List.mem_append_right _ z)).trans (a.2 j fun z => h (List.mem_append_left _ z))⟩
def tG (C : Ctx) (tg : D → Env → Option Env) (js : List Nat) : TG := fun v σ H Q => ∃ n env ad I d env', Sim C n env ad σ I H ∧ Rep C.W I v d ∧ tg d env = some env' ∧ ∀ σ', Sim C n env' ad σ' I H → But js σ σ' → Q σ' H
def tGs (C : Ctx) (ts : List (D → Env → Option Env)) (js : List Nat) : TGs := fun vs σ H Q => ∃ n env ad I ds env', Sim C n env ad σ I H ∧ RepL C.W I vs ds ∧ tgL ts ds env = some env' ∧ ∀ σ', Sim C n env' ad σ' I H → But js σ σ' → Q σ' H
abbrev PMG (C : Ctx) (X : Cx) (e : Expr) (tg : D → Env → Option Env) (js : List Nat) : Prop := PG X e (tG C tg js)
abbrev PMGs (C : Ctx) (X : Cx) (es : List Expr) (ts : List (D → Env → Option Env)) (js : List Nat) : Prop := PGs X es (tGs C ts js)
theorem PG_imp {t t' : TG} (h : PG X e t) (k : ∀ v σ H Q, t' v σ H Q → t v σ H Q) : PG X e t' := ⟨fun pins s σ H v u Q I r q => h.run pins s σ H v u Q I r (k v σ H Q q)⟩
theorem PGs_imp {t t' : TGs} (h : PGs X es t) (k : ∀ v σ H Q, t' v σ H Q → t v σ H Q) : PGs X es t' := ⟨fun pins s σ H v u Q I r q => h.run pins s σ H v u Q I r (k v σ H Q q)⟩
theorem mg_name {i : Nat} {x : Str} (hN : X.N.Nodup) (hi : X.N[i]? = some x) (hx : Loc X.env.scope x) (hf : X.fn x = true ∨ X.env.scope.names.lookup x = some .local := by first | exact .inl rfl | exact .inr rfl | assumption) : PMG C X (.Name x pos) (tgN i) [i] :=
  PG_imp (pg_name hN hi hx hf) fun v σ H Q ⟨n, env, ad, I, d, env', S, r, ht, q⟩ => by
    cases ht
    exact q _ (S.setV r) ⟨List.length_set, fun j hj => List.getElem?_set_ne fun z => hj (by simp [z])⟩
theorem mgs_nil : PMGs C X [] [] [] := PGs_imp pgs_nil fun vs σ H Q ⟨n, env, ad, I, ds, env', S, r, ht, q⟩ => by
  cases ds with
  | cons _ _ => cases ht
  | nil =>
    cases ht
    cases r
    exact ⟨rfl, q σ S ⟨rfl, fun _ _ => rfl⟩⟩
theorem mgs_cons {tg : D → Env → Option Env} {ts : List (D → Env → Option Env)} {js ks : List Nat} (h1 : PMG C X e tg js) (h2 : PMGs C X es ts ks) (hs : (assignEach (e :: es) X.env).map (·.2) = assign e X.env :: (assignEach es X.env).map (·.2) := by rfl) :
    PMGs C X (e :: es) (tg :: ts) (js ++ ks) := PGs_imp (pgs_cons h1 h2 hs) fun vs σ H Q ⟨n, env, ad, I, ds, env', S, r, ht, q⟩ => by
  cases ds with
  | nil => cases ht
  | cons d ds =>
    cases r with
    | cons r1 r2 =>
      have ht : (tg d env).bind (tgL ts ds) = some env' := ht
      cases hd : tg d env with
      | none => rw [hd] at ht; cases ht
      | some e1 =>
        rw [hd] at ht
        exact ⟨_, _, rfl, n, env, ad, I, d, e1, S, r1, hd, fun σ1 S1 b1 => ⟨n, e1, ad, I, ds, env', S1, r2, ht, fun σ2 S2 b2 => q σ2 S2 (b1.trans b2)⟩⟩
theorem mg_tup {k : Nat} {ts : List (D → Env → Option Env)} {js : List Nat} {n : Nat} (hK : C.W.K = X.K) (hc : X.calm = true) (h : PMGs C X es ts js) (hl : ts.length = n := by rfl)
    (hn : (assignEach es X.env).length = n := by rfl) (hst : (assignEach es X.env).findIdx? (·.1) = none := by rfl) : PMG C X (.Tuple es k pos) (tgT ts) js :=
  PG_imp (pg_tup hc h hn hst) fun v σ H Q ⟨n', env, ad, I, d, env', S, r, ht, q⟩ => by
    cases d with
    | tup ds =>
      have len : ∀ {ts : List (D → Env → Option Env)} {ds : List D} {e e' : Env}, tgL ts ds e = some e' → ts.length = ds.length := fun {ts} => by
        induction ts with
        | nil => intro ds e e' h; cases ds <;> first | rfl | cases h
        | cons t ts ih =>
          intro ds e e' h
          cases ds with
          | nil => cases h
          | cons d ds =>
            have h : (t d e).bind (tgL ts ds) = some e' := h
            cases hd : t d e with
            | none => rw [hd] at h; cases h
            | some e1 => rw [hd] at h; simp [ih h]
      cases r with
      | tup hq rl =>
        rw [hK] at hq
        exact ⟨_, _, rfl, S.sub.sqT hq, by rw [rl.length, ← len ht, hl], n', env, ad, I, ds, env', S, rl, ht, q⟩
    | _ => cases ht
theorem ms_asg {tg : Expr} {tgt : D → Env → Option Env} {js : List Nat} (he : PM .val C ex X e f) (hg : PMG C X tg tgt js) (hs : swapsWithSole [tg] e pos.line X.env = pure false := by rfl) (hw : swappedStores [tg] e X.env = pure none := by rfl)
    (h1 : (assignEach [tg] X.env).map (·.2) = [assign tg X.env] := by rfl) : PMS C ex X (.Assign [tg] e pos) (sAsg tgt f) := PS_imp (ps_asg he hg hs hw h1) fun Dn σ H ⟨n, env, ad, I, S, q⟩ =>
  ⟨n, env, ad, I, S, tM_S S q fun n' d v I' H' S' _ x r q' => by
    cases ht : tgt d env with
    | none => rw [ht] at q'; exact False.elim q'
    | some env' =>
      rw [ht] at q'
      exact ⟨n', env, ad, I', d, env', S', r, ht, fun σ' S2 _ => (show PoS C ex Dn I' n' (.nx, env') from q') ad σ' I' H' S2 (Sub.refl _)⟩⟩

/-! ### what is walked -/
structure WalkD (C : Ctx) (I : Hp) (J : It) (ds : List D) : Prop where
  ex : ∃ (G : Hp → Prop) (Y : Nat → Hp → V → Hp → Prop), Walk J ds.length G Y ∧ (∀ n env ad σ I2 H2, Sim C n env ad σ I2 H2 → Sub I I2 → G H2) ∧
    ∀ i H v H' n env ad σ I2, i < ds.length → Sim C n env ad σ I2 H → Sub I I2 → Y i H v H' → ∃ I3, Sim C n env ad σ I3 H' ∧ Sub I2 I3 ∧ SameX C.W.S H H' ∧ (∀ b o, I3 b = some o → I2 b = some o ∨ H b = none) ∧ ∃ d, ds[i]? = some d ∧ Rep C.W I3 v d
def PoI (C : Ctx) (env : Env) (ad : Nat → Addr) (σ : L2.St) (I H : Hp) (R : It → Hp → Prop) : Nat → List D → Prop := fun n' ds => ∀ J I' H', Sim C n' env ad σ I' H' → Sub I I' → SameX C.W.S H H' → WalkD C I' J ds → R J H'
def tI (C : Ctx) (ex : Ex) (fi : Env → M (List D)) : TI := fun σ H R => ∃ n env ad I, Sim C n env ad σ I H ∧ AllB (fi env) n (PoI C env ad σ I H R) (Pe C ex env ad σ I H)
abbrev PMI (C : Ctx) (ex : Ex) (X : Cx) (tg iter : Expr) (fi : Env → M (List D)) : Prop := PI X tg iter (tI C ex fi)
theorem PI_imp {tg : Expr} {t t' : TI} (h : PI X tg e t) (k : ∀ σ H R, t' σ H R → t σ H R) : PI X tg e t' := ⟨fun pins s σ H R I q => h.run pins s σ H R I (k σ H R q)⟩

theorem ms_for {tg iter : Expr} {body : List Stmt} {fi : Env → M (List D)} {tgt : D → Env → Option Env} {js : List Nat} (hp : PassesOwn (model X.prog X.w) X.A X.env X.xe) (hc : X.calm = true) (hi : PMI C ex X tg iter fi) (hg : PMG C X tg tgt js) (hb : PMB C ex X body s)
    (hs : ∀ x, foldedSetIterable iter X.env x = pure x := by intro _; rfl) : PMS C ex X (.For tg iter body [] pos) (sFor fi tgt s) := PS_imp (ps_for hp hc hi hg hb hs) fun Dn σ H q => by
  obtain ⟨n, env, ad, I, S, q⟩ := q
  have q : AllB (tryB (fi env) env fun ds => loopM tgt s ds env) n (PoS C ex Dn I) noE := q
  rw [allB_tryB] at q
  refine ⟨n, env, ad, I, S, q.mono (fun n1 ds q1 => ?_) fun n' c d z I' H' S' i x => z ad σ I' H' S' i⟩
  intro J I1 H1 S1 i1 x1 ⟨G, Y, w, hG, hY⟩
  have q1 : AllB (loopM tgt s ds env) n1 (PoS C ex Dn I1) noE := q1.mono (fun _ _ z => z.mono i1) fun _ _ _ z => z
  refine for_it w (fun i σ H => ∃ n env ad I2, Sim C n env ad σ I2 H ∧ Sub I1 I2 ∧ AllB (loopM tgt s (ds.drop i) env) n (PoS C ex Dn I2) noE) ⟨n1, env, ad, I1, S1, Sub.refl _, q1⟩ (fun i σ H _ ⟨n, env, ad, I2, S2, i2, _⟩ => hG _ _ _ _ _ _ S2 i2) ?_ ?_
  · rintro i x σ2 H2 H2' hi ⟨n2, env2, ad2, I2, S2, i2, q2⟩ y
    obtain ⟨I3, S3, i3, x3, nw3, d, hd, r⟩ := hY i H2 x H2' n2 env2 ad2 σ2 I2 hi S2 i2 y
    have e : ds.drop i = d :: ds.drop (i + 1) := by
      rw [List.drop_eq_getElem_cons hi]
      congr 1
      rw [List.getElem?_eq_getElem hi] at hd
      exact Option.some.inj hd
    rw [e] at q2
    have q2 : AllB (match tgt d env2 with | none => M.bad | some e' => s e' >>= fun r => match r with | (.nx, e2) => loopM tgt s (ds.drop (i + 1)) e2 | (.cnt, e2) => loopM tgt s (ds.drop (i + 1)) e2 | (.brk, e2) => .ret (.nx, e2) | r => .ret r) n2 (PoS C ex Dn I2) noE := q2
    cases ht : tgt d env2 with
    | none => rw [ht] at q2; exact False.elim q2
    | some env3 =>
      rw [ht] at q2
      have q2 : AllB (s env3 >>= fun r => match r with | (.nx, e2) => loopM tgt s (ds.drop (i + 1)) e2 | (.cnt, e2) => loopM tgt s (ds.drop (i + 1)) e2 | (.brk, e2) => .ret (.nx, e2) | r => .ret r) n2 (PoS C ex Dn I2) noE := q2
      rw [allB_bind] at q2
      refine ⟨n2, env2, ad2, I3, d, env3, S3, r, ht, fun σ4 S4 _ => ⟨n2, env3, ad2, I3, S4, q2.mono (fun n5 rr q5 => ?_) fun _ _ _ z => z⟩⟩
      obtain ⟨fl, env5⟩ := rr
      have i13 := i2.trans i3
      cases fl with
      | nx => exact fun ad' σ' I' H' S' i' => ⟨n5, env5, ad', I', S', i13.trans i', q5.mono (fun _ _ z => z.mono (i3.trans i')) fun _ _ _ z => z⟩
      | cnt => exact fun ad' σ' I' H' S' i' => ⟨n5, env5, ad', I', S', i13.trans i', q5.mono (fun _ _ z => z.mono (i3.trans i')) fun _ _ _ z => z⟩
      | brk => exact fun ad' σ' I' H' S' i' => (show PoS C ex Dn I2 n5 (.nx, env5) from q5) ad' σ' I' H' S' (i3.trans i')
      | rt d' => exact fun ad' σ' I' H' v S' i' r' => (show PoS C ex Dn I2 n5 (.rt d', env5) from q5) ad' σ' I' H' v S' (i3.trans i') r'
      | rtF d' => exact fun ad' σ' I' H' v S' i' r' => (show PoS C ex Dn I2 n5 (.rtF d', env5) from q5) ad' σ' I' H' v S' (i3.trans i') r'
      | exc c d' => exact fun ad' σ' I' H' S' i' => (show PoS C ex Dn I2 n5 (.exc c d', env5) from q5) ad' σ' I' H' S' (i3.trans i')
  · rintro σ2 H2 ⟨n2, env2, ad2, I2, S2, i2, q2⟩
    rw [List.drop_length] at q2
    exact (show PoS C ex Dn I2 n2 (.nx, env2) from q2) ad2 σ2 I2 H2 S2 (Sub.refl _)

/-! ### list comprehensions -/
theorem Sim.no {n : Nat} {env : Env} {ad : Nat → Addr} {σ : L2.St} {I H : Hp} (S : Sim C n env ad σ I H) (i : Nat) : Sim C n (env.set i .no) ad (σ.set i none) I H := by
  refine ⟨S.sub, S.i0, S.base, S.fresh, S.nos, S.src, by rw [List.length_set, List.length_set]; exact S.len, fun j e h => ?_, fun j e h => ?_, fun j e h => ?_, fun j k e e' h h' hh => ?_⟩
  · rcases set_not h with ⟨rfl, _, z⟩ | ⟨hj, h⟩
    · cases z
    · rw [List.getElem?_set_ne hj]; exact S.sv j e h
  · rcases set_not h with ⟨rfl, _, z⟩ | ⟨hj, h⟩
    · cases z
    · rw [List.getElem?_set_ne hj]; exact S.sb j e h
  · rcases set_not h with ⟨rfl, _, z⟩ | ⟨hj, h⟩
    · cases z
    · rw [List.getElem?_set_ne hj]; exact S.so j e h
  · rcases set_not h with ⟨rfl, _, z⟩ | ⟨hj, h⟩ <;> rcases set_not h' with ⟨rfl, _, z'⟩ | ⟨hk, h'⟩
    · rfl
    · cases z
    · cases z'
    · exact S.inj j k e e' h h' hh
theorem Sim.wipe {n : Nat} {env : Env} {ad : Nat → Addr} {σ : L2.St} {I H : Hp} (S : Sim C n env ad σ I H) : ∀ vs : List Nat, Sim C n (wipeE env vs) ad (L2.wipe σ vs) I H
  | [] => S
  | v :: vs => (S.wipe vs).no v
/-- back to an earlier frame -/
theorem Sim.back {n1 n2 : Nat} {env env2 : Env} {ad : Nat → Addr} {σ σ2 : L2.St} {I1 I2 H1 H2 : Hp} (S1 : Sim C n1 env ad σ I1 H1) (S2 : Sim C n2 env2 ad σ2 I2 H2) (i : Sub I1 I2) (x : SameX C.W.S H1 H2) (ho : ∀ i d, env[i]? = some (Slot.own d) → I2 (ad i) = none) : Sim C n2 env ad σ I2 H2 := by
  refine ⟨S2.sub, S2.i0, S2.base, S2.fresh, S2.nos, S2.src, S1.len, fun j e h => ?_, fun j e h => ?_, fun j e h => ?_, S1.inj⟩
  · obtain ⟨v, h1, h2⟩ := S1.sv j e h
    exact ⟨v, h1, h2.mono i⟩
  · obtain ⟨v, h1, h2⟩ := S1.sb j e h
    refine ⟨v, h1, ?_⟩
    rcases h2 with h2 | ⟨a, h2, h3, h4⟩
    · exact .inl (h2.mono i)
    · exact .inr ⟨a, h2, h3, h4.mono i rfl⟩
  · obtain ⟨h1, h2, h3, h4, h5⟩ := S1.so j e h
    obtain ⟨u, hu⟩ := h2.there
    exact ⟨h1, h2.mono i ((x _ _ h5 hu).trans hu.symm), h3, ho j e h, h5⟩
/-- a store at an address in no one's hand -/
theorem SrcOk.write {S} {n : Nat} {H : Hp} {p : Addr} {o : HO} (s : SrcOk S n H) (hN : NotS S p) : SrcOk S n (L2.upd H p o) := by
  cases S with
  | none => trivial
  | some ac =>
    obtain ⟨a, c⟩ := ac
    rcases s with s | ⟨ne, t, cells, e1, e2, r⟩
    · exact .inl s
    obtain ⟨h1, h2⟩ := hN a c rfl ne
    exact .inr ⟨ne, t, cells, by rw [upd_ne (Ne.symm h1)]; exact e1, by rw [upd_ne (Ne.symm h2)]; exact e2, r⟩
theorem Sim.write {n : Nat} {env : Env} {ad : Nat → Addr} {σ : L2.St} {I H : Hp} {p : Addr} {o : HO} (S : Sim C n env ad σ I H) (hI : I p = none) (hB : C.B p = none) (hN : NotS C.W.S p) (hn : ∀ (i : Nat) (d : D), env[i]? = some (Slot.own d) → ad i ≠ p) : Sim C n env ad σ I (upd H p o) := by
  refine ⟨fun b u e => ?_, S.i0, fun b u hb e => ?_, S.fresh, S.nos, S.src.write hN, S.len, S.sv, S.sb, fun j e h => ?_, S.inj⟩
  · rw [upd_ne (ne_of_none e hI)]; exact S.sub b u e
  · rw [upd_ne (ne_of_none e hB)]; exact S.base b u hb e
  · obtain ⟨h1, h2, h3, h4, h5⟩ := S.so j e h
    exact ⟨h1, h2.mono (Sub.refl _) (upd_ne (hn j e h)), h3, h4, h5⟩
theorem wipeE_out {e : Env} {i : Nat} : ∀ {vs : List Nat}, i ∉ vs → (wipeE e vs)[i]? = e[i]?
  | [], _ => rfl
  | v :: vs, h => by
    unfold wipeE
    rw [List.getElem?_set_ne fun z => h (by simp [z])]
    exact wipeE_out fun z => h (List.mem_cons_of_mem _ z)
theorem wipeE_own {e : Env} {i : Nat} {d : D} : ∀ {vs : List Nat}, (wipeE e vs)[i]? = some (Slot.own d) → e[i]? = some (Slot.own d)
  | [], h => h
  | v :: vs, h => by
    unfold wipeE at h
    rcases set_not h with ⟨_, _, z⟩ | ⟨_, h⟩
    · cases z
    · exact wipeE_own h
theorem wipe_but {js vs : List Nat} {σ σ2 : L2.St} (h : ∀ j ∈ js, j ∈ vs) (b : But js (L2.wipe σ vs) σ2) : L2.wipe σ2 vs = L2.wipe σ vs := by
  apply List.ext_getElem?
  intro i
  by_cases hi : i ∈ vs
  · have key : ∀ {vs : List Nat} {τ : L2.St}, i ∈ vs → (L2.wipe τ vs)[i]? = if i < τ.length then some none else none := fun {vs} => by
      induction vs with
      | nil => intro τ h; cases h
      | cons v vs ih =>
        intro τ h
        unfold L2.wipe
        by_cases e : v = i
        · subst e
          by_cases hl : v < τ.length
          · rw [if_pos hl, List.getElem?_set_self (by rw [wipe_length]; exact hl)]
          · rw [if_neg hl, List.getElem?_eq_none (by rw [List.length_set, wipe_length]; omega)]
        · rw [List.getElem?_set_ne e]
          exact ih ((List.mem_cons.mp h).resolve_left fun z => e z.symm)
    rw [key hi, key hi, b.1, wipe_length]
  · rw [wipe_out hi, b.2 i fun z => hi (h i z)]
abbrev PMTs (C : Ctx) (ex : Ex) (X : Cx) (ifs : List Expr) (f : Env → M Bool) : Prop := PTs X ifs (tT C ex f)
theorem PTs_imp {es : List Expr} {t t' : TT} (h : PTs X es t) (k : ∀ σ H Q, t' σ H Q → t σ H Q) : PTs X es t' := ⟨fun pins s σ H Q I q => h.run pins s σ H Q I (k σ H Q q)⟩
theorem mts_nil : PMTs C ex X [] eYes := PTs_imp pts_nil fun σ H Q ⟨n, env, ad, I, S, q⟩ => (show PoT C env ad σ I H Q n true from q) I H S (Sub.refl _) (SameX.refl _)
theorem mts_one (h : PMT C ex X e t) : PMTs C ex X [e] t := PTs_imp (pts_one h) fun _ _ _ q => q
theorem sub_I {I I2 : Hp} {D0 : Addr} (h : I2 D0 = none) (s : Sub I I2) : I D0 = none := by
  cases e : I D0 with
  | none => rfl
  | some u => have := s _ _ e; rw [h] at this; cases this
/-- a frame within a frame: what is held is read -/
theorem Sim.inner {n : Nat} {env : Env} {ad : Nat → Addr} {σ : L2.St} {I H : Hp} (S : Sim C n env ad σ I H) : Sim ⟨C.W, H, I⟩ n (borE env) ad σ I H := by
  have get : ∀ {i : Nat} {x : Slot}, (borE env)[i]? = some x → ∃ y, env[i]? = some y ∧ x = borS y := fun {i x} h => by
    unfold borE at h
    rw [List.getElem?_map] at h
    cases e : env[i]? with
    | none => rw [e] at h; cases h
    | some y => rw [e] at h; cases h; exact ⟨y, rfl, rfl⟩
  refine ⟨S.sub, Sub.refl _, SameX.refl _, fun b o e => .inl e, S.nos, S.src, by unfold borE; rw [List.length_map]; exact S.len, fun j e h => ?_, fun j e h => ?_, fun j e h => ?_, fun j k e e' h h' hh => ?_⟩
  · obtain ⟨y, hy, z⟩ := get h
    cases y <;> cases z
    exact S.sv j e hy
  · obtain ⟨y, hy, z⟩ := get h
    cases y <;> cases z
    · obtain ⟨h1, h2, h3, h4, h5⟩ := S.so j e hy
      exact ⟨_, h1, .inr ⟨_, rfl, h5, h2⟩⟩
    · obtain ⟨v, h1, h2⟩ := S.sb j e hy
      refine ⟨v, h1, ?_⟩
      rcases h2 with h2 | ⟨a, h2, h3, h4⟩
      · exact .inl h2
      · obtain ⟨u, hu⟩ := h4.there
        exact .inr ⟨a, h2, h3, h4.mono (Sub.refl _) ((S.base a u h3 hu).trans hu.symm)⟩
  · obtain ⟨y, hy, z⟩ := get h
    cases y <;> cases z
  · obtain ⟨y, hy, z⟩ := get h
    cases y <;> cases z
/-- back from a frame within it -/
theorem Sim.ret {n1 n2 : Nat} {env env2 : Env} {ad ad2 : Nat → Addr} {σ σ2 : L2.St} {I1 I2 H1 H2 : Hp} (S1 : Sim C n1 env ad σ I1 H1) (S2 : Sim ⟨C.W, H1, I1⟩ n2 env2 ad2 σ2 I2 H2) : Sim C n2 env ad σ I2 H2 := by
  refine ⟨S2.sub, S1.i0.trans S2.i0, S1.base.trans S2.base, fun b u e => ?_, S2.nos, S2.src, S1.len, fun j e h => ?_, fun j e h => ?_, fun j e h => ?_, S1.inj⟩
  · rcases S2.fresh b u e with h | h
    · exact S1.fresh b u h
    · refine .inr ?_
      cases hb : C.B b with
      | none => rfl
      | some u' =>
        have := S1.base b u' (S2.nos b u e) hb
        have h : H1 b = none := h
        rw [h] at this; cases this
  · obtain ⟨v, h1, h2⟩ := S1.sv j e h
    exact ⟨v, h1, h2.mono S2.i0⟩
  · obtain ⟨v, h1, h2⟩ := S1.sb j e h
    refine ⟨v, h1, ?_⟩
    rcases h2 with h2 | ⟨a, h2, h3, h4⟩
    · exact .inl (h2.mono S2.i0)
    · exact .inr ⟨a, h2, h3, h4.mono S2.i0 rfl⟩
  · obtain ⟨h1, h2, h3, h4, h5⟩ := S1.so j e h
    obtain ⟨u, hu⟩ := h2.there
    refine ⟨h1, h2.mono S2.i0 ((S2.base _ _ h5 hu).trans hu.symm), h3, ?_, h5⟩
    cases e : I2 (ad j) with
    | none => rfl
    | some u' =>
      rcases S2.fresh _ u' e with h | h
      · have h : I1 (ad j) = some u' := h
        rw [h4] at h; cases h
      · have h : H1 (ad j) = none := h
        rw [hu] at h; cases h
/-- what stood at the entry and is not kept there, is not kept -/
theorem Sim.none_in {n1 n2 : Nat} {env2 : Env} {ad2 : Nat → Addr} {σ2 : L2.St} {I1 I2 H1 H2 : Hp} {W : Wd} {a : Addr} {o : HO} (S2 : Sim ⟨W, H1, I1⟩ n2 env2 ad2 σ2 I2 H2) (h1 : I1 a = none) (h2 : H1 a = some o) : I2 a = none := by
  cases e : I2 a with
  | none => rfl
  | some u' =>
    rcases S2.fresh _ u' e with h | h
    · have h : I1 a = some u' := h
      rw [h1] at h; cases h
    · have h : H1 a = none := h
      rw [h2] at h; cases h
def aE (W : Wd) (m : Md) (f : Env → M D) : TE := fun σ H Q => ∃ B I0, tM m ⟨W, B, I0⟩ exNo f σ H Q
def aT (W : Wd) (f : Env → M Bool) : TT := fun σ H Q => ∃ B I0, tT ⟨W, B, I0⟩ exNo f σ H Q
def aG (W : Wd) (tg : D → Env → Option Env) (js : List Nat) : TG := fun v σ H Q => ∃ B I0, tG ⟨W, B, I0⟩ tg js v σ H Q
theorem pe_any {W : Wd} (h : ∀ B I0, PM m ⟨W, B, I0⟩ exNo X e f) : PE X e (aE W m f) := ⟨fun pins s σ H Q I ⟨B, I0, q⟩ => (h B I0).run pins s σ H Q I q⟩
theorem pts_any {W : Wd} (h : ∀ B I0, PMTs ⟨W, B, I0⟩ exNo X es t) : PTs X es (aT W t) := ⟨fun pins s σ H Q I ⟨B, I0, q⟩ => (h B I0).run pins s σ H Q I q⟩
theorem pg_any {W : Wd} {tg : D → Env → Option Env} {js : List Nat} (h : ∀ B I0, PMG ⟨W, B, I0⟩ X e tg js) : PG X e (aG W tg js) := ⟨fun pins s σ H v u Q I r ⟨B, I0, q⟩ => (h B I0).run pins s σ H v u Q I r q⟩
/-- the turns of a comprehension -/
theorem tLc_of {fi : Env → M (List D)} {tgt : D → Env → Option Env} {js vs : List Nat} {ft : Env → M Bool} {fe : Env → M D} (hj : ∀ j ∈ js, j ∈ vs) {σ : L2.St} {H : Hp} {Q : VK} (q : tM .fr C ex (eComp vs fi tgt ft fe) σ H Q) :
    tLc (tI C ex fi) (aG C.W tgt js) (aT C.W ft) (aE C.W .val fe) vs σ H Q := by
  obtain ⟨n, env, ad, I, S, q⟩ := q
  have q : AllB (fi env >>= fun ds => if ds.length ≤ line ∧ (vs.any fun i => (env[i]?).any isOwn) = false then noR (compM tgt ft fe (borE (wipeE env vs)) ds) >>= fun ys => .ret (D.lst ys) else .bad) n (Po .fr C env ad σ I H Q) (Pe C ex env ad σ I H) := q
  rw [allB_bind] at q
  refine ⟨n, env, ad, I, S, q.mono (fun n1 ds q1 => ?_) fun _ _ _ k => k⟩
  intro J I1 H1 S1 i1 x1 ⟨G, Y, w, hG, hY⟩ D0 hD
  obtain ⟨⟨hz, ho⟩, q1⟩ := allB_ite q1
  rw [allB_bind] at q1
  have q1 := allB_noR (E' := noE) q1
  have hN0 := S1.src.none_ne hD
  have hI0 := S1.none_I hD
  have hB0 := S1.none_B hD
  have hown : ∀ (i : Nat) (d : D), env[i]? = some (Slot.own d) → ad i ≠ D0 := fun i d h => by
    obtain ⟨_, h2, _⟩ := S1.so i d h
    obtain ⟨u, hu⟩ := h2.there
    exact ne_of_none hu hD
  have hnv : ∀ (i : Nat) (d : D), env[i]? = some (Slot.own d) → i ∉ vs := fun i d h hi => by
    have := List.any_eq_false.mp ho i hi
    rw [h] at this
    exact this rfl
  refine lc_it w (fun i H2 => ∃ n2 I2 acc ys, Sim C n2 (wipeE env vs) ad (L2.wipe σ vs) I2 H2 ∧ Sub I1 I2 ∧ SameX C.W.S H1 H2 ∧ H2 D0 = some (.lst acc) ∧ acc.length ≤ i ∧ RepL C.W I2 acc ys ∧ I2 D0 = none ∧
    AllB (compM tgt ft fe (borE (wipeE env vs)) (ds.drop i)) n2 (fun n' zs => Po .fr C env ad σ I H Q n' (.lst (ys ++ zs))) noE)
    ⟨n1, I1, [], [], (S1.wipe vs).write hI0 hB0 hN0 fun i d h => hown i d (wipeE_own h), Sub.refl _, SameX.upd hD, upd_same, Nat.le_refl _, .nil, hI0, by
      simp only [List.drop_zero, List.nil_append]
      exact q1⟩ (fun i H2 _ ⟨n2, I2, acc, ys, S2, i2, _⟩ => hG _ _ _ _ _ _ S2 i2) ?_ ?_
  · rintro i x H2 H2' hi ⟨n2, I2, acc, ys, S2, i2, x2, hD2, hl2, r2, hI2, q2⟩ y
    obtain ⟨I3, S3, i3, x3, nw3, d, hd, r⟩ := hY i H2 x H2' n2 _ ad _ I2 hi S2 i2 y
    have e : ds.drop i = d :: ds.drop (i + 1) := by
      rw [List.drop_eq_getElem_cons hi]
      congr 1
      rw [List.getElem?_eq_getElem hi] at hd
      exact Option.some.inj hd
    rw [e] at q2
    have q2 : AllB (match tgt d (borE (wipeE env vs)) with | none => M.bad | some e' => ft e' >>= fun b => if b then fe e' >>= fun y => compM tgt ft fe (borE (wipeE env vs)) (ds.drop (i + 1)) >>= fun ys => .ret (y :: ys) else compM tgt ft fe (borE (wipeE env vs)) (ds.drop (i + 1))) n2 (fun n' zs => Po .fr C env ad σ I H Q n' (.lst (ys ++ zs))) noE := q2
    have hI3 : I3 D0 = none := by
      cases e : I3 D0 with
      | none => rfl
      | some u =>
        rcases nw3 _ _ e with h | h
        · rw [hI2] at h; cases h
        · rw [hD2] at h; cases h
    cases ht : tgt d (borE (wipeE env vs)) with
    | none => rw [ht] at q2; exact False.elim q2
    | some env3 =>
      rw [ht] at q2
      have q2 : AllB (ft env3 >>= fun b => if b then fe env3 >>= fun y => compM tgt ft fe (borE (wipeE env vs)) (ds.drop (i + 1)) >>= fun ys => .ret (y :: ys) else compM tgt ft fe (borE (wipeE env vs)) (ds.drop (i + 1))) n2 (fun n' zs => Po .fr C env ad σ I H Q n' (.lst (ys ++ zs))) noE := q2
      rw [allB_bind] at q2
      have hD3 : H2' D0 = some (.lst acc) := x3 _ _ hN0 hD2
      refine ⟨H2', I3, n2, _, ad, I3, d, env3, S3.inner, r, ht, fun σ4 S4 b4 => ⟨wipe_but hj b4, H2', I3, n2, env3, ad, I3, S4, q2.mono (fun n5 b q5 => ?_) fun _ _ _ z => z.elim⟩⟩
      intro I5 H5 S5 i5 x5
      have i15 : Sub I1 I5 := (i2.trans i3).trans i5
      have x15 : SameX C.W.S H1 H5 := (x2.trans x3).trans x5
      have hD5 : H5 D0 = some (.lst acc) := x5 _ _ hN0 hD3
      cases b with
      | false =>
        rw [if_neg Bool.false_ne_true] at q5 ⊢
        exact ⟨n5, I5, acc, ys, S3.ret S5, i15, x15, hD5, Nat.le_succ_of_le hl2, r2.mono (i3.trans i5), S5.none_in (n1 := 0) hI3 hD3, q5⟩
      | true =>
        rw [if_pos rfl] at q5 ⊢
        rw [allB_bind] at q5
        refine ⟨H2', I3, n5, env3, ad, I5, S5, q5.mono (fun n6 yd q6 => ?_) fun _ _ _ z => z.elim⟩
        intro v6 I6 H6 S6 i6 x6 r6
        rw [allB_bind] at q6
        have hD6 : H6 D0 = some (.lst acc) := x6 _ _ hN0 hD5
        have hI6 : I6 D0 = none := S6.none_in (n1 := 0) hI3 hD3
        refine ⟨acc, hD6, by rw [sizeLine_eq]; have : line = 16777216 := rfl; omega, n6, I6, acc ++ [v6], ys ++ [yd], (S3.ret S6).write hI6 hB0 hN0 fun i d h => hown i d (wipeE_own h), i15.trans i6, fun b u hb e => ?_, upd_same, by rw [List.length_append]; exact Nat.succ_le_succ hl2, ((r2.mono (i3.trans (i5.trans i6))).append (.cons r6 .nil)), hI6, q6.mono (fun n7 zs z => by rw [List.append_assoc]; exact z) fun _ _ _ z => z⟩
        rw [upd_ne (ne_of_none e hD)]
        exact (x15.trans x6) b u hb e
  · rintro H2 ⟨n2, I2, acc, ys, S2, i2, x2, hD2, hl2, r2, hI2, q2⟩
    rw [List.drop_length] at q2
    have q2 : Po .fr C env ad σ I H Q n2 (.lst (ys ++ [])) := q2
    rw [List.append_nil] at q2
    have Sb := S1.back S2 i2 x2 fun i d h => by
      have h' : (wipeE env vs)[i]? = some (Slot.own d) := by rw [wipeE_out (hnv i d h)]; exact h
      exact (S2.so i d h').2.2.2.1
    exact q2 _ I2 H2 Sb (i1.trans i2) (x1.trans x2) ⟨D0, rfl, hN0, ⟨acc, hD2, r2⟩, hI2, hB0, hown⟩
theorem pm_lc {elt tg iter : Expr} {ifs : List Expr} {scope : Scope} {own : List (Str × Nat)} {fi : Env → M (List D)} {tgt : D → Env → Option Env} {js : List Nat} {ft : Env → M Bool} {fe : Env → M D} (hc : X.calm = true) (hN : X.N.Nodup) (hi : PMI C ex X tg iter fi) (ok : BlkOk X.N X.env.scope scope own)
    (hg : ∀ (s : Shared) (H : Hp) (Ca : Addr) (cl : List (Str × Addr)) (fp : List Addr) B I0, PMG ⟨C.W, B, I0⟩ (X.blk s H scope (compEnvC scope cl Ca X.env) fp) tg tgt js) (ht : ∀ (s : Shared) (H : Hp) (Ca : Addr) (cl : List (Str × Addr)) (fp : List Addr) B I0, PMTs ⟨C.W, B, I0⟩ exNo (X.blk s H scope (compEnvC scope cl Ca X.env) fp) ifs ft)
    (he : ∀ (s : Shared) (H : Hp) (Ca : Addr) (cl : List (Str × Addr)) (fp : List Addr) B I0, PM .val ⟨C.W, B, I0⟩ exNo (X.blk s H scope (compEnvC scope cl Ca X.env) fp) elt fe) (hj : (js.all fun j => (own.map (·.2)).contains j) = true := by rfl) (hs : ∀ x, foldedSetIterable iter X.env x = pure x := by intro _; rfl) :
    PM .fr C ex X (.ListComp elt [⟨tg, iter, ifs, 0⟩] scope pos) (eComp (own.map (·.2)) fi tgt ft fe) :=
  PE_imp (pe_lc hc hN hi ok (fun s H Ca cl fp => pg_any (hg s H Ca cl fp)) (fun s H Ca cl fp => pts_any (ht s H Ca cl fp)) (fun s H Ca cl fp => pe_any (he s H Ca cl fp)) hs) fun σ H Q q => tLc_of (fun j h => by simpa using List.all_eq_true.mp hj j h) q
theorem asgO {i : Nat} {Dn : Ends} {σ : L2.St} {H : Hp} (q : tS C ex (sSetO i f) Dn σ H) : tAsg (tM .fr C ex f) (gName i) Dn σ H := by
  obtain ⟨n, env, ad, I, S, q⟩ := q
  exact ⟨n, env, ad, I, S, tM_S S q fun n' d v I' H' S' _ x r q' => by
    obtain ⟨a, rfl, hN, o, hI, hB, hn⟩ := r
    exact (show PoS C ex Dn I' n' (.nx, env.set i (.own d)) from q') _ (σ.set i (some (.ref a))) I' H' (S'.setO o hI hB hN fun j e h _ => hn j e h) (Sub.refl _)⟩
theorem tM_frv {σ : L2.St} {H : Hp} {Q : VK} (q : tM .val C ex f σ H Q) : tM .fr C ex f σ H Q := by
  obtain ⟨n, env, ad, I, s, q⟩ := q
  exact ⟨n, env, ad, I, s, q.mono (fun n' d k v I' H' s' i x r => by
    obtain ⟨a, rfl, hN, o, hI, hB, hn⟩ := r
    obtain ⟨u, hu⟩ := o.there
    exact k _ (upd I' a u) H' (s'.keep hu hI hB hN hn) (i.trans (sub_upd hI)) x (o.rep (sub_upd hI) (by rw [upd_same]; exact hu.symm))) fun _ _ _ k => k⟩
theorem asgV {i : Nat} {Dn : Ends} {σ : L2.St} {H : Hp} (q : tS C ex (sSet i f) Dn σ H) : tAsg (tM .fr C ex f) (gName i) Dn σ H := tM_frv (by
  obtain ⟨n, env, ad, I, S, q⟩ := q
  exact ⟨n, env, ad, I, S, tM_S S q fun n' d v I' H' S' _ x r q' => (show PoS C ex Dn I' n' (.nx, env.set i (.v d)) from q') ad (σ.set i (some v)) I' H' (S'.setV r) (Sub.refl _)⟩)
section
variable {i : Nat} {y : Str} {py spos : Pos} {elt tg iter : Expr} {ifs : List Expr} {scope : Scope} {own : List (Str × Nat)} {fi : Env → M (List D)} {tgt : D → Env → Option Env} {js : List Nat} {ft : Env → M Bool} {fe : Env → M D}
theorem ms_setLcO (hc : X.calm = true) (hN : X.N.Nodup) (hy : X.N[i]? = some y) (hyl : X.env.scope.names.lookup y = some .local)
    (hsw : swapsWith (.ListComp elt [⟨tg, iter, ifs, 0⟩] scope pos) (some (.Name y py)) spos.line X.env = pure true) (hi : PMI C ex X tg iter fi) (ok : BlkOk X.N X.env.scope scope own)
    (hg : ∀ (s : Shared) (H : Hp) (Ca : Addr) (cl : List (Str × Addr)) (fp : List Addr) B I0, PMG ⟨C.W, B, I0⟩ (X.blk s H scope (compEnvC scope cl Ca X.env) fp) tg tgt js) (ht : ∀ (s : Shared) (H : Hp) (Ca : Addr) (cl : List (Str × Addr)) (fp : List Addr) B I0, PMTs ⟨C.W, B, I0⟩ exNo (X.blk s H scope (compEnvC scope cl Ca X.env) fp) ifs ft)
    (he : ∀ (s : Shared) (H : Hp) (Ca : Addr) (cl : List (Str × Addr)) (fp : List Addr) B I0, PM .val ⟨C.W, B, I0⟩ exNo (X.blk s H scope (compEnvC scope cl Ca X.env) fp) elt fe) (hj : (js.all fun j => (own.map (·.2)).contains j) = true := by rfl) (hs : ∀ x, foldedSetIterable iter X.env x = pure x := by intro _; rfl) :
    PMS C ex X (.Assign [.Name y py] (.ListComp elt [⟨tg, iter, ifs, 0⟩] scope pos) spos) (sSetO i (eComp (own.map (·.2)) fi tgt ft fe)) :=
  PS_imp (ps_setLc hc hN hy hyl hsw hi ok (fun s H Ca cl fp => pg_any (hg s H Ca cl fp)) (fun s H Ca cl fp => pts_any (ht s H Ca cl fp)) (fun s H Ca cl fp => pe_any (he s H Ca cl fp)) hs) fun Dn σ H q => tLc_of (fun j h => by simpa using List.all_eq_true.mp hj j h) (asgO q)
theorem ms_setLc (hc : X.calm = true) (hN : X.N.Nodup) (hy : X.N[i]? = some y) (hyl : X.env.scope.names.lookup y = some .local)
    (hsw : swapsWith (.ListComp elt [⟨tg, iter, ifs, 0⟩] scope pos) (some (.Name y py)) spos.line X.env = pure true) (hi : PMI C ex X tg iter fi) (ok : BlkOk X.N X.env.scope scope own)
    (hg : ∀ (s : Shared) (H : Hp) (Ca : Addr) (cl : List (Str × Addr)) (fp : List Addr) B I0, PMG ⟨C.W, B, I0⟩ (X.blk s H scope (compEnvC scope cl Ca X.env) fp) tg tgt js) (ht : ∀ (s : Shared) (H : Hp) (Ca : Addr) (cl : List (Str × Addr)) (fp : List Addr) B I0, PMTs ⟨C.W, B, I0⟩ exNo (X.blk s H scope (compEnvC scope cl Ca X.env) fp) ifs ft)
    (he : ∀ (s : Shared) (H : Hp) (Ca : Addr) (cl : List (Str × Addr)) (fp : List Addr) B I0, PM .val ⟨C.W, B, I0⟩ exNo (X.blk s H scope (compEnvC scope cl Ca X.env) fp) elt fe) (hj : (js.all fun j => (own.map (·.2)).contains j) = true := by rfl) (hs : ∀ x, foldedSetIterable iter X.env x = pure x := by intro _; rfl) :
    PMS C ex X (.Assign [.Name y py] (.ListComp elt [⟨tg, iter, ifs, 0⟩] scope pos) spos) (sSet i (eComp (own.map (·.2)) fi tgt ft fe)) :=
  PS_imp (ps_setLc hc hN hy hyl hsw hi ok (fun s H Ca cl fp => pg_any (hg s H Ca cl fp)) (fun s H Ca cl fp => pts_any (ht s H Ca cl fp)) (fun s H Ca cl fp => pe_any (he s H Ca cl fp)) hs) fun Dn σ H q => tLc_of (fun j h => by simpa using List.all_eq_true.mp hj j h) (asgV q)
end

/-! ### sources -/
theorem WalkD.still {I : Hp} {J : It} {ds : List D} {xs : List V} {G : Hp → Prop} {Y : Nat → Hp → V → Hp → Prop} (w : Walk J xs.length G Y) (r : RepL C.W I xs ds) (hG : ∀ n env ad σ I2 H2, Sim C n env ad σ I2 H2 → Sub I I2 → G H2) (hY : ∀ i H v H', Y i H v H' → H' = H ∧ xs[i]? = some v) : WalkD C I J ds :=
  ⟨G, Y, r.length ▸ w, hG, fun i H v H' n env ad σ I2 hi S i2 y => by
    obtain ⟨rfl, hv⟩ := hY i H v H' y
    obtain ⟨d, hd, rd⟩ := r.getV hv
    exact ⟨I2, S, Sub.refl _, SameX.refl _, fun b o e => .inl e, d, hd, rd.mono i2⟩⟩
/-- a list that stays, or a caller's -/
theorem RepM.stL {env : Env} {ad : Nat → Addr} {σ : L2.St} {n : Nat} {I H : Hp} {x : V} {ds : List D} (r : RepM .st C env ad I H x (.lst ds)) : ∃ a vs, x = .ref a ∧ RepL C.W I vs ds ∧ ∀ n env ad σ I2 H2, Sim C n env ad σ I2 H2 → Sub I I2 → H2 a = some (.lst vs) := by
  rcases r with r | ⟨a, e, hN, vs, h, r⟩
  · cases r with
    | lst q r => exact ⟨_, _, rfl, r, fun n env ad σ I2 H2 S i => S.sub _ _ (i _ _ q)⟩
  · exact ⟨a, vs, e, r, fun n env ad σ I2 H2 S i => S.base _ _ hN h⟩
theorem mi_seq {tg : Expr} (hK : C.W.K = X.K) (hl : PM .st C ex X e f) : PMI C ex X tg e (iSeq f) := by
  refine ⟨fun pins s σ H R Iv h => ?_⟩
  obtain ⟨n, env, ad, I, S, q⟩ := h
  have q : AllB (f env >>= itemsM) n (PoI C env ad σ I H R) (Pe C ex env ad σ I H) := q
  rw [allB_bind] at q
  refine thn (hl.run pins s σ H (fun x H1 => ∃ n1 d I1, Sim C n1 env ad σ I1 H1 ∧ Sub I I1 ∧ SameX C.W.S H H1 ∧ RepM .st C env ad I1 H1 x d ∧ AllB (itemsM d) n1 (PoI C env ad σ I H R) (Pe C ex env ad σ I H)) Iv ⟨n, env, ad, I, S, q.mono (fun n1 d q1 => ?_) fun _ _ _ k => k⟩) fun v s1 h1 => ?_
  · exact fun v I1 H1 S1 i1 x1 r1 => ⟨n1, d, I1, S1, i1, x1, r1, q1⟩
  · obtain ⟨x, H1, Iv1, rv, n1, d, I1, S1, i1, x1, r1, q1⟩ := h1
    cases d with
    | lst ds =>
      obtain ⟨a, vs, rfl, rl, stab⟩ := RepM.stL (σ := σ) (n := n1) r1
      cases rv
      have hq : SqL X.K H1 a vs := SqL.of (stab _ _ _ _ _ _ S1 (Sub.refl _))
      obtain ⟨its, rv, p, hz⟩ := Iv1.list hq
      refine wpAny_pyIter_list p.isList ?_
      refine ⟨s1.heap.objs.size, [s1.heap.objs.size], _, _, H1, rfl, Iv1.kept (t' := s1.toks) fun b o e => Heap.get?_push_of_some _ e, turn_list a _, ⟨_, Heap.get?_push_size _ rfl, rfl, rfl⟩, fun b hb => ?_, ?_⟩
      · have e : b = s1.heap.objs.size := by simpa using hb
        subst e
        exact Iv1.fpOk (Nat.le_refl _) (Iv1.hok.fresh (Nat.le_refl _))
      · exact (show PoI C env ad σ I H R n1 ds from q1) _ I1 H1 S1 i1 x1 (WalkD.still walk_list rl (fun n env ad σ I2 H2 S i => SqL.of (stab n env ad σ I2 H2 S i)) fun i H v H' y => y)
    | tup ds =>
      obtain ⟨a, vs, rfl, hq, rl, rt⟩ := r1.tup S1
      cases rv
      have rt : Rep C.W I1 (.ref a) (.tup ds) := rt
      cases rt with
      | tup q' rl =>
        rw [hK] at q'
        have hq : SqT X.K H1 a _ := S1.sub.sqT q'
        obtain ⟨its, rv, p, hz⟩ := Iv1.tuple hq
        refine wpAny_pyIter_tuple (show s1.heap.IsTuple a its.toArray from p) ?_
        refine ⟨s1.heap.objs.size, [s1.heap.objs.size], _, _, H1, rfl, Iv1.kept (t' := s1.toks) fun b o e => Heap.get?_push_of_some _ e, turn_tuple a _, ⟨_, Heap.get?_push_size _ rfl, rfl, rfl⟩, fun b hb => ?_, ?_⟩
        · have e : b = s1.heap.objs.size := by simpa using hb
          subst e
          exact Iv1.fpOk (Nat.le_refl _) (Iv1.hok.fresh (Nat.le_refl _))
        · exact (show PoI C env ad σ I H R n1 ds from q1) _ I1 H1 S1 i1 x1 (WalkD.still walk_tup rl (fun n env ad σ I2 H2 S i => (i.trans S.sub).sqT q') fun i H v H' y => y)
    | str y =>
      obtain rfl := r1.str
      obtain ⟨t, rfl⟩ := rv
      have q1 : PoI C env ad σ I H R n1 (y.cps.toList.map fun c => .str ⟨#[c]⟩) := q1
      have qq := q1 (Its y) I1 H1 S1 i1 x1 ⟨fun _ => True, (fun i H v H' => H' = H ∧ ∃ c, y.cps[i]? = some c ∧ v = .str ⟨#[c]⟩), (by rw [List.length_map, Array.length_toList]; exact walk_str), fun _ _ _ _ _ _ _ _ => trivial, fun i H v H' n env ad σ I2 hi S i2 ⟨e1, c, hc, e2⟩ => by
        subst e1
        exact ⟨I2, S, Sub.refl _, SameX.refl _, fun b o e => .inl e, .str ⟨#[c]⟩, by rw [List.getElem?_map, Array.getElem?_toList, hc]; rfl, e2 ▸ .str _⟩⟩
      cases ha : y.cps.all (· < 128)
      · exact wpAny_pyIter_wide ha (pi_one (tk := s1.toks) Iv1 _ (turn_str _ y t "str_iterator" (.inr rfl)) ⟨_, Heap.get?_push_size _ rfl, rfl, rfl⟩ qq)
      · exact wpAny_pyIter_ascii ha (pi_one (tk := s1.toks) Iv1 _ (turn_str _ y t "str_ascii_iterator" (.inl rfl)) ⟨_, Heap.get?_push_size _ rfl, rfl, rfl⟩ qq)
    | _ => exact False.elim q1
/-- a source by its argument list -/
theorem tI_call {ms : List Md} {F : List D → M (List D)} {fs : Env → M (List D)} {σ : L2.St} {H : Hp} {R : It → Hp → Prop} (q : tI C ex (iCall F fs) σ H R) : tA ms C ex fs σ H fun vs H1 => ∃ n env ad σ I ds, Sim C n env ad σ I H1 ∧ RepA C I H1 ms vs ds ∧ AllB (F ds) n (PoI C env ad σ I H1 R) (Pe C ex env ad σ I H1) := by
  obtain ⟨n, env, ad, I, S, q⟩ := q
  have q : AllB (fs env >>= F) n (PoI C env ad σ I H R) (Pe C ex env ad σ I H) := q
  rw [allB_bind] at q
  refine ⟨n, env, ad, I, S, q.mono (fun n1 ds q1 => ?_) fun _ _ _ k => k⟩
  exact fun vs I1 H1 S1 i1 x1 r1 => ⟨n1, env, ad, σ, I1, ds, S1, r1, q1.mono (fun n' zs z J I' H' a b c w => z J I' H' a (i1.trans b) (x1.trans c) w) fun _ _ _ k => k.mono i1 x1⟩
theorem walkD_rng {I : Hp} {i : Int} {n : Nat} : WalkD C I (Itr i n) ((List.range n).map fun k => .int (i + (k : Nat))) :=
  ⟨fun _ => True, YFn fun k => .int (i + k), (by rw [List.length_map, List.length_range]; exact walk_range), fun _ _ _ _ _ _ _ _ => trivial, fun k H v H' n' env ad σ I2 hi S i2 ⟨e1, e2⟩ => by
    subst e1; subst e2
    rw [List.length_map, List.length_range] at hi
    exact ⟨I2, S, Sub.refl _, SameX.refl _, fun b o e => .inl e, _, by rw [List.getElem?_map, List.getElem?_range hi]; rfl, .int _⟩⟩
theorem mi_rng1 {tg a : Expr} {fs : Env → M (List D)} {p pos : Pos} (hg : Gl X "range") (hm : X.mg "range" = none) (ha : PMA [m] C ex X [a] fs) (hs : starEach [a] X.env = [(false, eval a X.env)] := by rfl) : PMI C ex X tg (.Call (.Name "range" p) [a] [] pos) (iCall rng1M fs) :=
  PI_imp (pi_range1 hg hm ha hs) fun σ H R q => by
    obtain ⟨n, env, ad, I, S, q⟩ := tI_call (ms := [m]) q
    refine ⟨n, env, ad, I, S, q.mono (fun n1 ds k vs I1 H1 S1 i1 x1 r1 => ?_) fun _ _ _ k => k⟩
    obtain ⟨n2, env2, ad2, σ2, I2, ds2, S2, r2, q2⟩ := k vs I1 H1 S1 i1 x1 r1
    obtain ⟨v, d, rfl, rfl, rd⟩ := r2.one
    cases d with
    | int j =>
      obtain ⟨hj, q2⟩ := allB_ite (show AllB (if _ then _ else .bad) _ _ _ from q2)
      replace hj := in62 hj
      obtain rfl := rd.int
      have w := walkD_rng (C := C) (I := I2) (i := 0) (n := j.toNat)
      refine ⟨j, rfl, hj.1, hj.2, (show PoI C env2 ad2 σ2 I2 H1 R n2 (rngM 0 j) from q2) _ I2 H1 S2 (Sub.refl _) (SameX.refl _) ?_⟩
      unfold rngM
      rw [Int.sub_zero]
      exact w
    | _ => exact False.elim q2
theorem mi_rng2 {tg a b : Expr} {m2 : Md} {fs : Env → M (List D)} {p pos : Pos} (hg : Gl X "range") (hm : X.mg "range" = none) (ha : PMA [m, m2] C ex X [a, b] fs) (hs : starEach [a, b] X.env = [(false, eval a X.env), (false, eval b X.env)] := by rfl) (hs2 : starEach [b] X.env = [(false, eval b X.env)] := by rfl) : PMI C ex X tg (.Call (.Name "range" p) [a, b] [] pos) (iCall rng2M fs) :=
  PI_imp (pi_range2 hg hm ha hs hs2) fun σ H R q => by
    obtain ⟨n, env, ad, I, S, q⟩ := tI_call (ms := [m, m2]) q
    refine ⟨n, env, ad, I, S, q.mono (fun n1 ds k vs I1 H1 S1 i1 x1 r1 => ?_) fun _ _ _ k => k⟩
    obtain ⟨n2, env2, ad2, σ2, I2, ds2, S2, r2, q2⟩ := k vs I1 H1 S1 i1 x1 r1
    obtain ⟨v, d, w, d', rfl, rfl, rd, rd'⟩ := r2.two
    cases d with
    | int i =>
      cases d' with
      | int j =>
        obtain ⟨hj, q2⟩ := allB_ite (show AllB (if _ then _ else .bad) _ _ _ from q2)
        obtain rfl := rd.int
        obtain rfl := rd'.int
        have h1 := in62 hj.1
        have h2 := in62 hj.2
        exact ⟨i, j, rfl, ⟨h1.1, h1.2, h2.1, h2.2⟩, (show PoI C env2 ad2 σ2 I2 H1 R n2 (rngM i j) from q2) _ I2 H1 S2 (Sub.refl _) (SameX.refl _) walkD_rng⟩
      | _ => exact False.elim q2
    | _ => exact False.elim q2
end
end PD

set_option Elab.async false
set_option linter.all false
set_option maxRecDepth 100000
set_option maxHeartbeats 2000000
/-! PDOps: indexes, slices, appends, calls of built-ins. -/
namespace PD
open PySem PySem.Spec L2
section
variable {C : Ctx} {ex : Ex} {X : Cx} {e : Expr} {es : List Expr} {a b : Expr} {f g : Env → M D} {fs : Env → M (List D)} {pos : Pos} {m m1 m2 : Md} {ms : List Md}

/-! ### indexes -/
theorem place_ix {n : Nat} {i : Int} : placeI i n = ixN n i := by
  unfold placeI ixN
  split <;> rfl
theorem ix_rel {W : Wd} {I : Hp} {vs : List V} {ds : List D} {i : Int} {d : D} (r : RepL W I vs ds) (h : ((placeI i ds.length).bind fun k => ds[k]?) = some d) : ∃ v, atI vs i = some v ∧ Rep W I v d := by
  unfold atI
  rw [← place_ix, r.length]
  cases e : placeI i ds.length with
  | none => rw [e] at h; cases h
  | some k =>
    rw [e] at h
    have h : ds[k]? = some d := h
    obtain ⟨v, h1, h2⟩ := r.get h
    exact ⟨v, h1, h2⟩
theorem pm_ix (hK : C.W.K = X.K) (ha : PM .rd C ex X a f) (hb : PM .rd C ex X b g) (hs : PlainIx b := by intro _ _; rfl) : PM .val C ex X (.Subscript a b pos) (e2 ixM f g) :=
  PE_imp (pe_ix ix_seq ha hb hs) fun σ H Q q => by
    obtain ⟨n, env, ad, I, S, q⟩ := q
    have q : AllB (f env >>= fun x => g env >>= fun y => ixM x y) n (Po .val C env ad σ I H Q) (Pe C ex env ad σ I H) := q
    rw [allB_bind] at q
    refine ⟨n, env, ad, I, S, q.mono (fun n1 d q1 => ?_) (fun _ _ _ k => k)⟩
    intro v1 I1 H1 s1 i1 x1 r1
    rw [allB_bind] at q1
    refine ⟨n1, env, ad, I1, s1, q1.mono (fun n2 e q2 => ?_) (fun n' c d k => k.mono i1 x1)⟩
    intro v2 I2 H2 s2 i2 x2 r2
    have r1 := r1.later (by decide) i2 x2
    cases d with
    | lst ds =>
      cases e with
      | int i =>
        cases hx : (placeI i ds.length).bind fun k => ds[k]? with
        | none => simp only [ixM, hx] at q2; exact False.elim q2
        | some y =>
          simp only [ixM, hx] at q2
          obtain rfl := r2.int
          obtain ⟨p, ws, rfl, hp, rl⟩ := r1.lst s2
          obtain ⟨v, h1, h2⟩ := ix_rel rl hx
          exact .inl ⟨p, ws, i, v, rfl, rfl, SqL.of hp, h1, q2 v I2 H2 s2 (i1.trans i2) (x1.trans x2) h2⟩
      | _ => exact False.elim q2
    | tup ds =>
      cases e with
      | int i =>
        cases hx : (placeI i ds.length).bind fun k => ds[k]? with
        | none => simp only [ixM, hx] at q2; exact False.elim q2
        | some y =>
          simp only [ixM, hx] at q2
          obtain rfl := r2.int
          obtain ⟨p, ws, rfl, hp, rl, _⟩ := r1.tup s2
          obtain ⟨v, h1, h2⟩ := ix_rel rl hx
          exact .inr (.inl ⟨p, ws, i, v, rfl, rfl, by rw [← hK]; exact hp, h1, q2 v I2 H2 s2 (i1.trans i2) (x1.trans x2) h2⟩)
      | _ => exact False.elim q2
    | str z =>
      cases e with
      | int i =>
        obtain ⟨hz, q2⟩ := allB_ite (show AllB (if _ then _ else .bad) _ _ _ from q2)
        cases hx : (placeI i z.cps.toList.length).bind fun k => z.cps.toList[k]? with
        | none => rw [hx] at q2; exact False.elim q2
        | some y =>
          rw [hx] at q2
          obtain rfl := r2.int
          obtain rfl := r1.str
          refine .inr (.inr ⟨z, i, y, rfl, rfl, by rw [← line_eq]; exact hz, ?_, (show Po .val C env ad σ I H Q n2 (.str ⟨#[y]⟩) from q2) _ I2 H2 s2 (i1.trans i2) (x1.trans x2) (Rep.str _)⟩)
          unfold atI
          rw [← place_ix]
          exact hx
      | _ => exact False.elim q2
    | _ => exact False.elim q2

/-! ### slices -/
def PoO (C : Ctx) (env : Env) (ad : Nat → Addr) (σ : L2.St) (I H : Hp) (Q : Option Int → Hp → Prop) : Nat → Option Int → Prop := fun n' o => ∀ I' H', Sim C n' env ad σ I' H' → Sub I I' → SameX C.W.S H H' → Q o H'
def tO (C : Ctx) (ex : Ex) (f : Env → M (Option Int)) : TO := fun σ H Q => ∃ n env ad I, Sim C n env ad σ I H ∧ AllB (f env) n (PoO C env ad σ I H Q) (Pe C ex env ad σ I H)
abbrev PMO (C : Ctx) (ex : Ex) (X : Cx) (e : Option Expr) (f : Env → M (Option Int)) : Prop := PO X e (tO C ex f)
theorem PO_imp {e : Option Expr} {t t' : TO} (h : PO X e t) (k : ∀ σ H Q, t' σ H Q → t σ H Q) : PO X e t' := ⟨fun pins s σ H Q I q => h.run pins s σ H Q I (k σ H Q q)⟩
theorem mo_none : PMO C ex X none eNoPart := PO_imp po_none fun σ H Q ⟨n, env, ad, I, S, q⟩ => (show PoO C env ad σ I H Q n none from q) I H S (Sub.refl _) (SameX.refl _)
theorem mo_some (h : PM .rd C ex X e f) : PMO C ex X (some e) (ePart f) := PO_imp (po_some h) fun σ H Q q => by
  obtain ⟨n, env, ad, I, S, q⟩ := q
  have q : AllB (f env >>= partM) n (PoO C env ad σ I H Q) (Pe C ex env ad σ I H) := q
  rw [allB_bind] at q
  refine ⟨n, env, ad, I, S, q.mono (fun n1 d q1 => ?_) fun _ _ _ k => k⟩
  intro v I1 H1 s1 i1 x1 r1
  cases d with
  | int i => exact ⟨i, r1.int, (show PoO C env ad σ I H Q n1 (some i) from q1) I1 H1 s1 i1 x1⟩
  | _ => exact False.elim q1
theorem cut_rel {n d : Nat} {o : Option Int} : cutI n d o = HT.sIx n d o := by cases o <;> rfl
theorem RepL.cut {W : Wd} {I : Hp} {vs : List V} {ds : List D} (r : RepL W I vs ds) (lo hi : Option Int) : RepL W I (cutV vs lo hi) (cutL ds lo hi) := by
  unfold cutV cutL
  rw [r.length, cut_rel, cut_rel]
  exact (r.drop _).take _
theorem slice_in {op : Option Int → Option Int → D → M D} {lo hi : Option Expr} {ol oh : Env → M (Option Int)} {r : V → Option Int → Option Int → Hp → VK → Prop} {σ : L2.St} {H : Hp} {Q : VK} (q : tM m C ex (eSl op f ol oh) σ H Q)
    (k : ∀ n env ad I H1 x d l h, Sim C n env ad σ I H1 → RepM .rd C env ad I H1 x d → AllB (op l h d) n (Po m C env ad σ I H1 Q) (Pe C ex env ad σ I H1) → r x l h H1 Q) : tSl r (tM .rd C ex f) (tO C ex ol) (tO C ex oh) σ H Q := by
  obtain ⟨n, env, ad, I, S, q⟩ := q
  have q : AllB (f env >>= fun x => ol env >>= fun l => oh env >>= fun h => op l h x) n (Po m C env ad σ I H Q) (Pe C ex env ad σ I H) := q
  rw [allB_bind] at q
  refine ⟨n, env, ad, I, S, q.mono (fun n1 d q1 => ?_) (fun _ _ _ k => k)⟩
  intro v1 I1 H1 s1 i1 x1 r1
  rw [allB_bind] at q1
  refine ⟨n1, env, ad, I1, s1, q1.mono (fun n2 l q2 => ?_) (fun n' c d k => k.mono i1 x1)⟩
  intro I2 H2 s2 i2 x2
  rw [allB_bind] at q2
  refine ⟨n2, env, ad, I2, s2, q2.mono (fun n3 h q3 => ?_) (fun n' c d k => k.mono (i1.trans i2) (x1.trans x2))⟩
  intro I3 H3 s3 i3 x3
  exact k n3 env ad I3 H3 v1 d l h s3 ((r1.later (by decide) i2 x2).later (by decide) i3 x3) (q3.mono (fun _ _ z => z.mono ((i1.trans i2).trans i3) ((x1.trans x2).trans x3)) fun _ _ _ z => z.mono ((i1.trans i2).trans i3) ((x1.trans x2).trans x3))
theorem pm_sl {lo hi : Option Expr} {ol oh : Env → M (Option Int)} {p2 : Pos} (hK : C.W.K = X.K) (ha : PM .rd C ex X a f) (hl : PMO C ex X lo ol) (hh : PMO C ex X hi oh) : PM .val C ex X (.Subscript a (.Slice lo hi none p2) pos) (eSl slM f ol oh) :=
  PE_imp (pe_slice (sl_list.or sl_tupA) ha hl hh) fun σ H Q q => slice_in (lo := lo) (hi := hi) q fun n env ad I H1 x d l h S r q1 => by
    cases d with
    | lst ds =>
      obtain ⟨p, ws, rfl, hp, rl⟩ := r.lst S
      exact .inl ⟨p, ws, rfl, SqL.of hp, fun p' hp' => (show Po .val C env ad σ I H1 Q n (.lst (cutL ds l h)) from q1) _ (upd I p' _) (upd H1 p' _) (S.laid hp') (sub_upd (S.none_I hp')) (SameX.upd hp') (Rep.lst upd_same ((rl.cut l h).mono (sub_upd (S.none_I hp'))))⟩
    | tup ds =>
      obtain ⟨p, ws, rfl, hp, rl, rt⟩ := r.tup S
      refine .inr ⟨p, ws, rfl, by rw [← hK]; exact hp, fun hw => ?_, fun _ p' hp' => ?_⟩
      · have e : cutL ds l h = ds := by
          unfold cutL
          rw [cut_rel, cut_rel, ← rl.length, hw.1, hw.2]
          simp [rl.length]
        have q1 : Po .val C env ad σ I H1 Q n (.tup (cutL ds l h)) := q1
        rw [e] at q1
        exact q1 _ I H1 S (Sub.refl _) (SameX.refl _) rt
      · exact (show Po .val C env ad σ I H1 Q n (.tup (cutL ds l h)) from q1) _ (upd I p' _) (upd H1 p' _) (S.laid hp') (sub_upd (S.none_I hp')) (SameX.upd hp') (Rep.tup (SqT.of upd_same) ((rl.cut l h).mono (sub_upd (S.none_I hp'))))
    | _ => exact False.elim q1
/-- a list's slice, the new one in no other hand -/
theorem pm_slO {lo hi : Option Expr} {ol oh : Env → M (Option Int)} {p2 : Pos} (ha : PM .rd C ex X a f) (hl : PMO C ex X lo ol) (hh : PMO C ex X hi oh) : PM .fr C ex X (.Subscript a (.Slice lo hi none p2) pos) (eSl slLM f ol oh) :=
  PE_imp (pe_slice sl_list ha hl hh) fun σ H Q q => slice_in (lo := lo) (hi := hi) q fun n env ad I H1 x d l h S r q1 => by
    cases d with
    | lst ds =>
      obtain ⟨p, ws, rfl, hp, rl⟩ := r.lst S
      exact ⟨p, ws, rfl, SqL.of hp, fun p' hp' => (show Po .fr C env ad σ I H1 Q n (.lst (cutL ds l h)) from q1) _ I (upd H1 p' _) (S.laid' hp') (Sub.refl _) (SameX.upd hp') (S.new hp' (rl.cut l h))⟩
    | _ => exact False.elim q1

/-! ### calls -/
theorem c_list (hK : C.W.K = X.K) : CallR X (.type "list") (rC [.rd] .fr C ex (arg1 listM)) := by
  intro pins s σ0 H vs us Q Iv r h
  obtain ⟨n, env, ad, σ, I, ds, S, ra, q⟩ := h
  obtain ⟨v, d, rfl, rfl, r1⟩ := ra.one
  have r1 := r1.any (env' := env) (ad' := ad) (by decide)
  cases d with
  | lst xs =>
    obtain ⟨p, ws, rfl, hp, rl⟩ := r1.lst S
    exact call_list_of pins s σ0 H _ us Q Iv r ⟨p, ws, rfl, .inl (SqL.of hp), fun l hl => q _ I _ (S.laid' hl) (Sub.refl _) (SameX.upd hl) (S.new hl rl)⟩
  | tup xs =>
    obtain ⟨p, ws, rfl, hp, rl, _⟩ := r1.tup S
    exact call_list_of pins s σ0 H _ us Q Iv r ⟨p, ws, rfl, .inr (by rw [← hK]; exact hp), fun l hl => q _ I _ (S.laid' hl) (Sub.refl _) (SameX.upd hl) (S.new hl rl)⟩
  | _ => exact False.elim q
theorem c_tuple (hK : C.W.K = X.K) : CallR X (.type "tuple") (rC [.rd] .val C ex (arg1 tupleM)) := by
  intro pins s σ0 H vs us Q Iv r h
  obtain ⟨n, env, ad, σ, I, ds, S, ra, q⟩ := h
  obtain ⟨v, d, rfl, rfl, r1⟩ := ra.one
  have r1 := r1.any (env' := env) (ad' := ad) (by decide)
  cases d with
  | lst xs =>
    obtain ⟨p, ws, rfl, hp, rl⟩ := r1.lst S
    exact call_tuple_of pins s σ0 H _ us Q Iv r ⟨p, ws, rfl, .inl ⟨SqL.of hp, fun l hl => q _ (upd I l _) (upd H l _) (S.laid hl) (sub_upd (S.none_I hl)) (SameX.upd hl) (Rep.tup (SqT.of upd_same) (rl.mono (sub_upd (S.none_I hl))))⟩⟩
  | tup xs =>
    obtain ⟨p, ws, rfl, hp, rl, rt⟩ := r1.tup S
    exact call_tuple_of pins s σ0 H _ us Q Iv r ⟨p, ws, rfl, .inr ⟨by rw [← hK]; exact hp, q _ I H S (Sub.refl _) (SameX.refl _) rt⟩⟩
  | _ => exact False.elim q
theorem RepL.boolsR {W : Wd} {I : Hp} : ∀ {vs : List V} {ds : List D} {bs : List Bool}, RepL W I vs ds → PD.boolsL ds = some bs → vs = bs.map V.bl
  | _, [], bs, r, h => by cases r; cases h; rfl
  | _, .bl b :: ds, bs, r, h => by
    have h : (PD.boolsL ds).map (b :: ·) = some bs := h
    cases e : PD.boolsL ds with
    | none => rw [e] at h; cases h
    | some cs =>
      rw [e] at h
      cases h
      cases r with
      | cons r1 r2 =>
        cases r1
        rw [RepL.boolsR r2 e]
        rfl
  | _, .non :: _, _, _, h => by cases h
  | _, .int _ :: _, _, _, h => by cases h
  | _, .str _ :: _, _, _, h => by cases h
  | _, .tup _ :: _, _, _, h => by cases h
  | _, .lst _ :: _, _, _, h => by cases h
  | _, .dct _ :: _, _, _, h => by cases h
  | _, .obj _ _ :: _, _, _, h => by cases h
  | _, .src :: _, _, _, h => by cases h
theorem RepL.intsR {W : Wd} {I : Hp} : ∀ {vs : List V} {ds : List D} {bs : List Int}, RepL W I vs ds → PD.intsL ds = some bs → vs = bs.map V.int
  | _, [], bs, r, h => by cases r; cases h; rfl
  | _, .int b :: ds, bs, r, h => by
    have h : (PD.intsL ds).map (b :: ·) = some bs := h
    cases e : PD.intsL ds with
    | none => rw [e] at h; cases h
    | some cs =>
      rw [e] at h
      cases h
      cases r with
      | cons r1 r2 =>
        cases r1
        rw [RepL.intsR r2 e]
        rfl
  | _, .non :: _, _, _, h => by cases h
  | _, .bl _ :: _, _, _, h => by cases h
  | _, .str _ :: _, _, _, h => by cases h
  | _, .tup _ :: _, _, _, h => by cases h
  | _, .lst _ :: _, _, _, h => by cases h
  | _, .dct _ :: _, _, _, h => by cases h
  | _, .obj _ _ :: _, _, _, h => by cases h
  | _, .src :: _, _, _, h => by cases h
theorem c_all (hc : X.calm = true) : CallR X (.builtin "all") (rC [.rd] .val C ex (arg1 allM)) := by
  intro pins s σ0 H vs us Q Iv r h
  obtain ⟨n, env, ad, σ, I, ds, S, ra, q⟩ := h
  obtain ⟨v, d, rfl, rfl, r1⟩ := ra.one
  have r1 := r1.any (env' := env) (ad' := ad) (by decide)
  cases d with
  | lst xs =>
    cases e : boolsL xs with
    | none => simp only [arg1, allM, e] at q; exact False.elim q
    | some bs =>
      simp only [arg1, allM, e] at q
      obtain ⟨p, ws, rfl, hp, rl⟩ := r1.lst S
      have ew := rl.boolsR e
      subst ew
      exact cr_all hc pins s σ0 H _ us Q Iv r ⟨p, bs, rfl, SqL.of hp, q _ I H S (Sub.refl _) (SameX.refl _) (Rep.bl _)⟩
  | _ => exact False.elim q
theorem c_any (hc : X.calm = true) : CallR X (.builtin "any") (rC [.rd] .val C ex (arg1 anyM)) := by
  intro pins s σ0 H vs us Q Iv r h
  obtain ⟨n, env, ad, σ, I, ds, S, ra, q⟩ := h
  obtain ⟨v, d, rfl, rfl, r1⟩ := ra.one
  have r1 := r1.any (env' := env) (ad' := ad) (by decide)
  cases d with
  | lst xs =>
    cases e : boolsL xs with
    | none => simp only [arg1, anyM, e] at q; exact False.elim q
    | some bs =>
      simp only [arg1, anyM, e] at q
      obtain ⟨p, ws, rfl, hp, rl⟩ := r1.lst S
      have ew := rl.boolsR e
      subst ew
      exact cr_any hc pins s σ0 H _ us Q Iv r ⟨p, bs, rfl, SqL.of hp, q _ I H S (Sub.refl _) (SameX.refl _) (Rep.bl _)⟩
  | _ => exact False.elim q
theorem c_sum (hc : X.calm = true) (hK : C.W.K = X.K) : CallR X (.builtin "sum") (rC [.rd] .val C ex (arg1 sumM)) := by
  intro pins s σ0 H vs us Q Iv r h
  obtain ⟨n, env, ad, σ, I, ds, S, ra, q⟩ := h
  obtain ⟨v, d, rfl, rfl, r1⟩ := ra.one
  have r1 := r1.any (env' := env) (ad' := ad) (by decide)
  cases d with
  | lst xs =>
    cases e : intsL xs with
    | none => simp only [arg1, sumM, e] at q; exact False.elim q
    | some bs =>
      simp only [arg1, sumM, e] at q
      obtain ⟨p, ws, rfl, hp, rl⟩ := r1.lst S
      have ew := rl.intsR e
      subst ew
      exact cr_sum hc pins s σ0 H _ us Q Iv r ⟨p, bs, rfl, SqL.of hp, q _ I H S (Sub.refl _) (SameX.refl _) (Rep.int _)⟩
  | tup xs =>
    cases e : intsL xs with
    | none => simp only [arg1, sumM, e] at q; exact False.elim q
    | some bs =>
      simp only [arg1, sumM, e] at q
      obtain ⟨p, ws, rfl, hp, rl, _⟩ := r1.tup S
      have ew := rl.intsR e
      subst ew
      obtain ⟨u, rfl, ru⟩ := vals1 r
      obtain rfl : u = Value.ref p := ru
      obtain ⟨its, rv, hT, _⟩ := Iv.tuple (hK ▸ hp)
      have hi := rv.ints
      obtain ⟨zs, hx⟩ := hi.allInts.items
      have hn : PySem.numsOf (PySem.intItems zs).toList = bs := by rw [← hx]; exact hi.numsOf
      rw [PySem.nums_intItems] at hn
      have hT : s.heap.IsTuple p its.toArray := hT
      rw [hx] at hT
      refine PySem.W.ktm_sumG (Iv.ok.hd hc) hT fun h' tk t' hk => ?_
      rw [PySem.preSum_eq, List.take_of_length_le (by simp), hn]
      exact ⟨.int bs.sum, H, Iv.kept hk, ⟨t', rfl⟩, (show Po .val C env ad σ I H Q n (.int bs.sum) from q) _ I H S (Sub.refl _) (SameX.refl _) (Rep.int _)⟩
  | _ => exact False.elim q
theorem c_int : CallR X (.type "int") (rC [.rd] .val C ex (arg1 intM)) := by
  intro pins s σ0 H vs us Q Iv r h
  obtain ⟨n, env, ad, σ, I, ds, S, ra, q⟩ := h
  obtain ⟨v, d, rfl, rfl, r1⟩ := ra.one
  cases d with
  | int i =>
    obtain rfl := r1.int
    exact call_int1 pins s σ0 H _ us Q Iv r (.inl ⟨i, rfl, q _ I H S (Sub.refl _) (SameX.refl _) (Rep.int _)⟩)
  | bl i =>
    obtain rfl := r1.bl
    exact call_int1 pins s σ0 H _ us Q Iv r (.inr ⟨i, rfl, q _ I H S (Sub.refl _) (SameX.refl _) (Rep.int _)⟩)
  | _ => exact False.elim q
theorem c_abs : CallR X (.builtin "abs") (rC [.rd] .val C ex (arg1 absM)) := by
  intro pins s σ0 H vs us Q Iv r h
  obtain ⟨n, env, ad, σ, I, ds, S, ra, q⟩ := h
  obtain ⟨v, d, rfl, rfl, r1⟩ := ra.one
  cases d with
  | int i =>
    obtain rfl := r1.int
    exact call_abs pins s σ0 H _ us Q Iv r ⟨i, rfl, q _ I H S (Sub.refl _) (SameX.refl _) (Rep.int _)⟩
  | _ => exact False.elim q
theorem c_max (hc : X.calm = true) : CallR X (.builtin "max") (rC [.rd, .rd] .val C ex (arg2 maxM)) := by
  intro pins s σ0 H vs us Q Iv r h
  obtain ⟨n, env, ad, σ, I, ds, S, ra, q⟩ := h
  obtain ⟨v, d, w, e, rfl, rfl, r1, r2⟩ := ra.two
  cases d <;> cases e <;> first | exact False.elim q | skip
  obtain rfl := r1.int
  obtain rfl := r2.int
  exact call_max2 hc pins s σ0 H _ us Q Iv r ⟨_, _, rfl, q _ I H S (Sub.refl _) (SameX.refl _) (Rep.int _)⟩
theorem c_min (hc : X.calm = true) : CallR X (.builtin "min") (rC [.rd, .rd] .val C ex (arg2 minM)) := by
  intro pins s σ0 H vs us Q Iv r h
  obtain ⟨n, env, ad, σ, I, ds, S, ra, q⟩ := h
  obtain ⟨v, d, w, e, rfl, rfl, r1, r2⟩ := ra.two
  cases d <;> cases e <;> first | exact False.elim q | skip
  obtain rfl := r1.int
  obtain rfl := r2.int
  exact call_min2 hc pins s σ0 H _ us Q Iv r ⟨_, _, rfl, q _ I H S (Sub.refl _) (SameX.refl _) (Rep.int _)⟩
def CPowW (i j : Int) : Prop := 0 ≤ j ∧ (i.natAbs.log2 + 1) * j.toNat ≤ 1000000
theorem op_powW : OpR X (binaryOp .Pow) (rI CPowW fun i j => .int (i ^ j.toNat)) := opI fun i j _ _ _ _ _ hc q => by
  refine PyProof.Rows.pow_int hc.1 ?_ q
  have b : Builtin.Int.intBits i ≤ i.natAbs.log2 + 1 := by
    unfold Builtin.Int.intBits
    split <;> omega
  have h1 : Builtin.Int.intBits i * j.toNat ≤ 1000000 := Nat.le_trans (Nat.mul_le_mul_right _ b) hc.2
  have h2 : (j.toNat : Int) = j := Int.toNat_of_nonneg hc.1
  rw [← h2]
  have h3 : ((Builtin.Int.intBits i * j.toNat : Nat) : Int) ≤ ((1000000 : Nat) : Int) := Int.ofNat_le.mpr h1
  rw [Int.natCast_mul] at h3
  omega
theorem d_pow : OpR X (binaryOp .Pow) (rP .rd .rd .val C ex powM) := opInt op_powW (rd := fun i j => .int (i ^ j.toNat)) (fun _ _ _ => .int _) fun d e n P E q => by
  cases d <;> cases e <;> first | exact False.elim q | skip
  obtain ⟨h, q⟩ := allB_ite (show AllB (if _ then _ else .bad) _ _ _ from q)
  exact ⟨_, _, rfl, rfl, h, q⟩

/-! ### append, insert -/
theorem Sim.lset {n : Nat} {env : Env} {ad : Nat → Addr} {σ : L2.St} {I H : Hp} {i : Nat} {d d' : D} {o : HO} (S : Sim C n env ad σ I H) (h : env[i]? = some (.own d)) (o' : ∀ H', H' (ad i) = some o → Own C.W I H' (ad i) d') : Sim C n (env.set i (.own d')) ad σ I (upd H (ad i) o) := by
  obtain ⟨h1, h2, h3, h4, h5⟩ := S.so i d h
  have hl : i < env.length := (List.getElem?_eq_some_iff.mp h).1
  refine ⟨fun b u e => ?_, S.i0, fun b u hb e => ?_, S.fresh, S.nos, S.src.write h5, by rw [List.length_set]; exact S.len, fun j e hj => ?_, fun j e hj => ?_, fun j e hj => ?_, fun j k e e' hj hk hh => ?_⟩
  · rw [upd_ne (ne_of_none e h4)]; exact S.sub b u e
  · rw [upd_ne (ne_of_none e h3)]; exact S.base b u hb e
  · rcases set_not hj with ⟨rfl, _, z⟩ | ⟨_, hj⟩
    · cases z
    · exact S.sv j e hj
  · rcases set_not hj with ⟨rfl, _, z⟩ | ⟨_, hj⟩
    · cases z
    · exact S.sb j e hj
  · rcases set_not hj with ⟨rfl, _, z⟩ | ⟨ne, hj⟩
    · cases z
      exact ⟨h1, o' _ upd_same, h3, h4, h5⟩
    · obtain ⟨g1, g2, g3, g4, g5⟩ := S.so j e hj
      exact ⟨g1, g2.mono (Sub.refl _) (upd_ne fun z => ne (S.inj i j d e h hj z.symm)), g3, g4, g5⟩
  · have key : ∀ {j : Nat} {e : D}, (env.set i (Slot.own d'))[j]? = some (Slot.own e) → ∃ e0, env[j]? = some (Slot.own e0) := fun {j e} hj => by
      rcases set_not hj with ⟨rfl, _, z⟩ | ⟨_, hj⟩
      · exact ⟨d, h⟩
      · exact ⟨e, hj⟩
    obtain ⟨e0, hj⟩ := key hj
    obtain ⟨e1, hk⟩ := key hk
    exact S.inj j k e0 e1 hj hk hh
theorem ms_app {i : Nat} {x : Str} {p2 apos cpos : Pos} (hN : X.N[i]? = some x) (hv : Vis X.env.scope x) (he : PM .val C ex X e f) (hd : (x == ("__debug__" : Str)) = false := by decide) (hcd : (x == ("__classdict__" : Str)) = false := by decide)
    (hbase : attributeBase (.Name x p2) "append" X.env (eval (.Name x p2) X.env) = eval (.Name x p2) X.env := by rfl)
    (hfew : ((backTo cpos (starEach [e] X.env)).all (fun x => !x.1) && (backToKw cpos (keywordEach [] X.env)).all (fun x => x.1.isSome)
      && decide (([e] : List Expr).length + ([] : List Keyword).length + (if ([] : List Keyword).isEmpty then 0 else 1) < 30)) = true := by rfl)
    (hline : (apos.endLine == cpos.line) = true := by rfl) (hs : starEach [e] X.env = (false, eval e X.env) :: starEach [] X.env := by rfl) (hsw : swapsWith (.Call (.Attribute (.Name x p2) "append" apos) [e] [] cpos) none pos.line X.env = pure false := by rfl) :
    PMS C ex X (.Expr (.Call (.Attribute (.Name x p2) "append" apos) [e] [] cpos) pos) (sApp i f) :=
  PS_imp (ps_expr (pe_bm PySem.F.plainAttrs_list PySem.F.slot_list_append PySem.F.type_list_append mt_append (pe_var hN hv hd hcd) (pa_cons he pa_nil hs) hbase hfew hline hs) hsw) fun Dn σ H q => by
    obtain ⟨n, env, ad, I, S, q⟩ := q
    have q : AllB (match env[i]? with | some (.own (.lst ds)) => tryB (f env) env fun d => if ds.length < line then .ret (.nx, env.set i (.own (.lst (ds ++ [d])))) else .bad | _ => .bad) n (PoS C ex Dn I) noE := q
    split at q
    · rename_i ds h
      obtain ⟨h1, ⟨vs, h2, rl⟩, h3, h4, h5⟩ := S.so i _ h
      refine ⟨_, h1, .inl ⟨rfl, vs, SqL.of h2⟩, n, env, ad, I, S, tM_S S q fun n' d v I' H' S' i' x r q' => ?_⟩
      obtain ⟨hz, q'⟩ := allB_ite q'
      obtain ⟨_, ⟨vs', h2', rl'⟩, _⟩ := S'.so i _ h
      refine ⟨ad i, vs', v, rfl, rfl, h2', by rw [rl'.length, ← line_eq]; exact hz, ?_⟩
      exact (show PoS C ex Dn I' n' (.nx, env.set i (.own (.lst (ds ++ [d])))) from q') ad σ I' _ (S'.lset h fun H2 e => ⟨_, e, rl'.append (.cons r .nil)⟩) (Sub.refl _)
    · exact False.elim q
theorem ms_setIx {i : Nat} {x : Str} {b : Expr} {p2 p3 : Pos} (hN : X.N[i]? = some x) (hv : Vis X.env.scope x) (he : PM .val C ex X e f) (hb : PM .rd C ex X b g) (hd : (x == ("__debug__" : Str)) = false := by decide) (hcd : (x == ("__classdict__" : Str)) = false := by decide)
    (ha : ∀ v, assign (.Subscript (.Name x p2) b p3) X.env v = (do
      let ov ← holding [v] (eval (.Name x p2) X.env)
      let iv ← holding [v, ov] (eval b X.env)
      standAt p3
      holding [v, ov, iv] (setItem ov iv v)
      release [v, ov, iv] []) := by intro _; rfl)
    (hs : swapsWithSole [.Subscript (.Name x p2) b p3] e pos.line X.env = pure false := by rfl) (hw : swappedStores [.Subscript (.Name x p2) b p3] e X.env = pure none := by rfl)
    (h1 : (assignEach [.Subscript (.Name x p2) b p3] X.env).map (·.2) = [assign (.Subscript (.Name x p2) b p3) X.env] := by rfl) :
    PMS C ex X (.Assign [.Subscript (.Name x p2) b p3] e pos) (sSetIx i g f) :=
  PS_imp (ps_asg he (pg_sub (pe_var hN hv hd hcd) hb set_list ha) hs hw h1) fun Dn σ H q => by
    obtain ⟨n, env, ad, I, S, q⟩ := q
    have q : AllB (match env[i]? with | some (.own (.lst ds)) => tryB (f env) env fun d => tryB (g env) env fun k => (match k with | .int k => (match placeI k ds.length with | some j => M.ret (Fl.nx, env.set i (.own (.lst (ds.set j d)))) | none => .bad) | _ => .bad) | _ => .bad) n (PoS C ex Dn I) noE := q
    split at q
    · rename_i ds h
      refine ⟨n, env, ad, I, S, tM_S S q fun n1 d v I1 H1 S1 i1 x1 r1 q1 => ?_⟩
      obtain ⟨h1, _⟩ := S1.so i _ h
      refine ⟨_, h1, n1, env, ad, I1, S1, tM_S S1 q1 fun n2 k u I2 H2 S2 i2 x2 r2 q2 => ?_⟩
      cases k with
      | int k =>
        cases hp : placeI k ds.length with
        | none => simp only [hp] at q2; exact False.elim q2
        | some j =>
          simp only [hp] at q2
          obtain rfl := r2.int
          obtain ⟨_, ⟨vs, h2, rl⟩, _⟩ := S2.so i _ h
          refine ⟨ad i, vs, k, j, rfl, rfl, h2, by rw [← place_ix, rl.length]; exact hp, ?_⟩
          exact (show PoS C ex Dn I2 n2 (.nx, env.set i (.own (.lst (ds.set j d)))) from q2) ad σ I2 _ (S2.lset h fun H3 e => ⟨_, e, rl.set (r1.mono i2) j⟩) (Sub.refl _)
      | _ => exact False.elim q2
    · exact False.elim q
theorem ms_ins {i : Nat} {x : Str} {b : Expr} {p2 apos cpos : Pos} (hN : X.N[i]? = some x) (hv : Vis X.env.scope x) (hb : PM .rd C ex X b g) (he : PM .val C ex X e f) (hd : (x == ("__debug__" : Str)) = false := by decide) (hcd : (x == ("__classdict__" : Str)) = false := by decide)
    (hbase : attributeBase (.Name x p2) "insert" X.env (eval (.Name x p2) X.env) = eval (.Name x p2) X.env := by rfl)
    (hfew : ((backTo cpos (starEach [b, e] X.env)).all (fun x => !x.1) && (backToKw cpos (keywordEach [] X.env)).all (fun x => x.1.isSome)
      && decide (([b, e] : List Expr).length + ([] : List Keyword).length + (if ([] : List Keyword).isEmpty then 0 else 1) < 30)) = true := by rfl)
    (hline : (apos.endLine == cpos.line) = true := by rfl) (hs : starEach [b, e] X.env = (false, eval b X.env) :: starEach [e] X.env := by rfl) (hs2 : starEach [e] X.env = (false, eval e X.env) :: starEach [] X.env := by rfl) (hpl : (backTo cpos (starEach [e] X.env)).any (·.1) = false := by rfl) (hsw : swapsWith (.Call (.Attribute (.Name x p2) "insert" apos) [b, e] [] cpos) none pos.line X.env = pure false := by rfl) :
    PMS C ex X (.Expr (.Call (.Attribute (.Name x p2) "insert" apos) [b, e] [] cpos) pos) (sIns i g f) :=
  PS_imp (ps_expr (pe_bm PySem.F.plainAttrs_list PySem.F.slot_list_insert PySem.F.type_list_insert mt_insert (pe_var hN hv hd hcd) (pa_cons hb (pa_cons he pa_nil hs2) hs) hbase hfew hline hs hpl) hsw) fun Dn σ H q => by
    obtain ⟨n, env, ad, I, S, q⟩ := q
    have q : AllB (match env[i]? with | some (.own (.lst ds)) => tryB (g env) env fun k => tryB (f env) env fun d => (match k with | .int k => if ds.length < line ∧ 0 ≤ k ∧ k.natAbs < 1000000000 then M.ret (Fl.nx, env.set i (.own (.lst (ds.take k.toNat ++ [d] ++ ds.drop k.toNat)))) else .bad | _ => .bad) | _ => .bad) n (PoS C ex Dn I) noE := q
    split at q
    · rename_i ds h
      obtain ⟨h1, ⟨vs, h2, rl⟩, h3, h4, h5⟩ := S.so i _ h
      refine ⟨_, h1, .inl ⟨rfl, vs, SqL.of h2⟩, n, env, ad, I, S, tM_S S q fun n1 k u I1 H1 S1 i1 x1 r1 q1 => ?_⟩
      refine ⟨n1, env, ad, I1, S1, tM_S S1 q1 fun n2 d v I2 H2 S2 i2 x2 r2 q2 => ?_⟩
      cases k with
      | int k =>
        obtain ⟨hz, q2⟩ := allB_ite (show AllB (if _ then _ else .bad) _ _ _ from q2)
        obtain rfl := r1.int
        obtain ⟨_, ⟨vs', h2', rl'⟩, _⟩ := S2.so i _ h
        refine ⟨ad i, vs', k, v, rfl, rfl, h2', by rw [rl'.length, ← line_eq]; exact hz.1, hz.2.1, Int.lt_trans (in62 hz.2.2).2 (by decide), ?_⟩
        exact (show PoS C ex Dn I2 n2 (.nx, env.set i (.own (.lst (ds.take k.toNat ++ [d] ++ ds.drop k.toNat)))) from q2) ad σ I2 _ (S2.lset h fun H3 e => ⟨_, e, ((rl'.take _).append (.cons r2 .nil)).append (rl'.drop _)⟩) (Sub.refl _)
      | _ => exact False.elim q2
    · exact False.elim q
end
end PD

set_option Elab.async false
set_option linter.all false
set_option maxRecDepth 100000
set_option maxHeartbeats 2000000
/-! PDSort: sorted of lists and tuples. -/
namespace PD
open PySem PySem.Spec L2
section
open PyProof.Rows SrtO Srt
variable {prog : Program} {w : World} {A : Around} {E : Value → Shared → Prop} {s : Shared}
theorem collect_tup {l : Addr} {vs : List Value} {Q : List Value → Shared → Prop} (hl : s.heap.IsTuple l vs.toArray)
    (h : Q vs { s with heap := (s.heap.push (seqObj "list" #[] 0)).update s.heap.objs.size (Obj.mapSeq (· ++ vs.toArray)) }) (hsz : vs.length ≤ sizeLine := by size_fits) :
    wpAny (model prog w) A (collect (.ref l)) Q E s := by
  obtain ⟨o, ho, hc, n, hd⟩ := id hl
  unfold collect
  refine wpAny_bind (wpAny_runValue (codeAny_builtin entry_proto_collect' ?_))
  show wpAny _ _ (do again (.builtin "list.__iadd__" ⟨[← newList [], .ref l], []⟩)) _ _ s
  refine wpAny_bind (wpAny_newList (wpAny_pure ⟨Code.quiet_builtin _ (by decide +kernel), codeAny_builtin entry_list_iadd' ?_⟩))
  show wpAny _ _ (Builtin.List.listExtendWith (.ref s.heap.objs.size) (.ref l) (.ref s.heap.objs.size)) _ _ { s with heap := s.heap.push (seqObj "list" #[] 0) }
  unfold Builtin.List.listExtendWith
  have ho' : (s.heap.push (seqObj "list" #[] 0)).get? l = some o := Heap.get?_push_of_some _ ho
  refine wpAny_bind (wpAny_typeOf (T := "tuple") ⟨o, ho', hc⟩ ?_)
  have ht : (Value.type "tuple" == Value.type "tuple") = true := by rfl
  rw [if_pos (by rw [ht]; simp)]
  refine wpAny_bind (listItems_at ho' hd ?_)
  refine wpAny_bind (listItems_at (xs := #[]) (n := 0) (Heap.get?_push_size _ rfl) rfl ?_)
  rw [if_neg (by simp)]
  refine wpAny_bind (listUpdate_at (xs := #[]) (n := 0) (Heap.get?_push_size _ rfl) rfl ?_ (Nat.zero_le _) (by show (#[] ++ vs.toArray).size ≤ sizeLine + 1; simp only [Array.size_append, List.size_toArray, List.length_nil]; omega))
  refine wpAny_pure ?_
  show wpAny (model prog w) A (do
      let o ← load s.heap.objs.size
      match o.data with
      | .seq xs _ => pure xs.toList
      | _ => unsupported "internal:collect") Q E { s with heap := (s.heap.push (seqObj "list" #[] 0)).update s.heap.objs.size (Obj.mapSeq (· ++ vs.toArray)) }
  refine wpAny_bind (wpAny_load (get?_update_seq (Heap.get?_push_size _ rfl) _) ?_)
  show wpAny _ _ (pure ((#[] : Array Value) ++ vs.toArray).toList) Q E _
  rw [show ((#[] : Array Value) ++ vs.toArray).toList = vs by simp]
  exact wpAny_pure h
/-- sorted(l), l a list or a tuple -/
theorem sorted_seq {l : Addr} {vs : List Value} {ltv : Value → Value → Bool} {Q : Value → Shared → Prop} (O : Swo ltv) (hl : s.heap.IsList l vs.toArray ∨ s.heap.IsTuple l vs.toArray) (hz : vs.length ≤ sizeLine)
    (hS : 2 ≤ vs.length → ∀ (h₁ : Heap) (a : Addr), h₁.get? a = some (seqObj "list" vs.toArray 0) → (∀ b o, s.heap.get? b = some o → b ≠ a ∧ h₁.get? b = some o) → SortableO prog w A.in1.in1 { s with heap := h₁ } a vs ltv)
    (h : ∀ (h' : Heap) (d : Addr) (out : List Value), Srtd ltv out → out.Perm vs → (∀ b o, s.heap.get? b = some o → h'.get? b = some o) → s.heap.objs.size ≤ d → (∃ n, h'.get? d = some (seqObj "list" out.toArray n)) → Q (.ref d) { s with heap := h' }) :
    wpAny (model prog w) A (call (.builtin "sorted") [.ref l]) Q E s := by
  have h : ∀ out : List Value, Srtd ltv out → Stb ltv out vs → Q (.ref (s.heap.objs.size + 1)) { s with heap := sortedAll s.heap vs out.toArray } := fun out h1 h2 =>
    h _ _ out h1 h2.perm (fun b o e => sortedAll_old e) (Nat.le_succ _) (sortedAll_at s.heap vs out.toArray)
  refine Calls.call_function_entry kind_sorted plain_sorted entry_sorted (args_sorted1 _) ?_
  unfold Builtin.«sorted»
  refine wpAny_bind (m := checkCount "sorted" 1 1 _) (wpAny_pure ?_)
  refine wpAny_bind (hl.elim (fun hl => collect_list hl ?_ hz) (fun hl => collect_tup hl ?_ hz))
  all_goals
    refine wpAny_bind (wpAny_newList ?_ hz)
    have hsz : ((s.heap.push (seqObj "list" #[] 0)).update s.heap.objs.size (Obj.mapSeq (· ++ vs.toArray))).objs.size = s.heap.objs.size + 1 := by
      rw [Heap.size_update, size_push']
    have hoL : (((s.heap.push (seqObj "list" #[] 0)).update s.heap.objs.size (Obj.mapSeq (· ++ vs.toArray))).push (seqObj "list" vs.toArray 0)).get? (s.heap.objs.size + 1) = some (seqObj "list" vs.toArray 0) := by
      rw [← hsz]; exact Heap.get?_push_size _ rfl
    have keep : ∀ b o, s.heap.get? b = some o → b ≠ s.heap.objs.size + 1 ∧ (((s.heap.push (seqObj "list" #[] 0)).update s.heap.objs.size (Obj.mapSeq (· ++ vs.toArray))).push (seqObj "list" vs.toArray 0)).get? b = some o := fun b o q => by
      have hlt : b < s.heap.objs.size := Heap.lt_size q
      refine ⟨Nat.ne_of_lt (Nat.lt_succ_of_lt hlt), Heap.get?_push_of_some _ ?_⟩
      rw [Heap.get?_update_ne _ _ _ _ (Nat.ne_of_lt hlt)]
      exact Heap.get?_push_of_some _ q
    show wpAny _ _ _ _ _ { s with heap := ((s.heap.push (seqObj "list" #[] 0)).update s.heap.objs.size (Obj.mapSeq (· ++ vs.toArray))).push (seqObj "list" vs.toArray 0) }
    rw [hsz]
    refine wpAny_bind (wpAny_holding (wpAny_call_entry slot_list_sort ⟨_, hoL, rfl⟩ entry_list_sort (list_sort_ord O hoL hz (fun h2 => hS h2 _ _ hoL keep) fun out hs hb => ⟨_, rfl, ?_⟩) (args_list_sort _)))
    exact wpAny_pure ⟨_, rfl, h out hs hb⟩
end
section
variable {C : Ctx} {ex : Ex} {X : Cx} {m : Md} {env : Env} {ad : Nat → Addr} {σ : L2.St} {n : Nat} {I H : Hp}
theorem merge_I {l : List Int} {m : List Int} (h1 : l.Pairwise (· ≤ ·)) (h2 : l.Perm m) : l = m.mergeSort leI :=
  List.Perm.eq_of_pairwise (le := fun a b => a ≤ b) (fun a b _ _ x y => by omega) h1
    ((List.pairwise_mergeSort (fun a b c h1 h2 => by simp only [leI, decide_eq_true_eq] at *; omega) (fun a b => by simp only [leI, Bool.or_eq_true, decide_eq_true_eq]; omega) m).imp fun h => by simpa [leI] using h)
    (h2.trans (List.mergeSort_perm m leI).symm)
theorem merge_P {l : List (Int × Int)} {m : List (Int × Int)} (h1 : l.Pairwise fun a b => leP a b = true) (h2 : l.Perm m) : l = m.mergeSort leP :=
  List.Perm.eq_of_pairwise (le := fun a b => leP a b = true) (fun a b _ _ x y => by
      simp only [leP, decide_eq_true_eq] at x y
      refine Prod.ext ?_ ?_ <;> omega) h1
    (List.pairwise_mergeSort (fun a b c h1 h2 => by simp only [leP, decide_eq_true_eq] at *; omega) (fun a b => by simp only [leP, Bool.or_eq_true, decide_eq_true_eq]; omega) m)
    (h2.trans (List.mergeSort_perm m leP).symm)
/-- the items of a list or tuple at hand -/
theorem RepM.seq (hK : C.W.K = X.K) {pins : List (Addr × Obj)} {σ0 : L2.St} {s : Shared} {v : V} {ds : List D} (Iv : Inv X pins σ0 H s) (S : Sim C n env ad σ I H) (r : RepM .rd C env ad I H v (.lst ds) ∨ RepM .rd C env ad I H v (.tup ds)) :
    ∃ a xs its, v = .ref a ∧ RepL C.W I xs ds ∧ Vals xs its ∧ (s.heap.IsList a its.toArray ∨ s.heap.IsTuple a its.toArray) ∧ its.length ≤ sizeLine := by
  rcases r with r | r
  · obtain ⟨p, ws, rfl, hp, rl⟩ := r.lst S
    obtain ⟨its, rv, hl, hz⟩ := Iv.list (SqL.of hp)
    exact ⟨p, ws, its, rfl, rl, rv, .inl hl.isList, by rw [← rv.length]; exact hz⟩
  · obtain ⟨p, ws, rfl, hp, rl, _⟩ := r.tup S
    rw [hK] at hp
    obtain ⟨its, rv, hl, hz⟩ := Iv.tuple hp
    exact ⟨p, ws, its, rfl, rl, rv, .inr hl, by rw [← rv.length]; exact hz⟩
theorem isPair_fun {h : Heap} {u : Value} {x y x' y' : Int} (a : Srt.IsPair h u x y) (b : Srt.IsPair h u x' y') : x = x' ∧ y = y' := by
  obtain ⟨p, o, t, t', n, rfl, h1, h2, h3⟩ := a
  obtain ⟨p', o', s, s', n', e, g1, g2, g3⟩ := b
  cases e
  rw [h1] at g1
  cases g1
  rw [h3] at g3
  simp at g3
  omega
theorem pairs_k {W : Wd} {h : Heap} {k : Value → Int × Int} : ∀ {ps : List (Int × Int)} {ws : List V} {its : List Value}, RepL W I ws (ps.map pD) → Vals ws its → (∀ (j : Nat) (p : Int × Int) (u : Value), ps[j]? = some p → its[j]? = some u → Srt.IsPair h u p.1 p.2) → (∀ u ∈ its, Srt.IsPair h u (k u).1 (k u).2) →
    its.map k = ps ∧ ∀ u ∈ its, ∃ v, RelV v u ∧ Rep W I v (pD (k u))
  | [], _, _, r, rv, _, _ => by
    cases r
    cases rv
    exact ⟨rfl, fun u hu => absurd hu (by simp)⟩
  | p :: ps, _, _, r, rv, hp, hk => by
    cases r with
    | cons r1 r2 =>
      cases rv with
      | cons v1 v2 =>
        rename_i u us
        have e1 := isPair_fun (hp 0 p u rfl rfl) (hk u List.mem_cons_self)
        have ek : k u = p := Prod.ext e1.1.symm e1.2.symm
        obtain ⟨h1, h2⟩ := pairs_k (h := h) (k := k) r2 v2 (fun j p' u' a b => hp (j + 1) p' u' (by simpa using a) (by simpa using b)) fun u' hu => hk u' (List.mem_cons_of_mem _ hu)
        refine ⟨by rw [List.map_cons, ek, h1], fun u' hu => ?_⟩
        rcases List.mem_cons.mp hu with rfl | hu
        · exact ⟨_, v1, by rw [ek]; exact r1⟩
        · exact h2 u' hu
theorem vals_of {W : Wd} {k : Value → Int × Int} : ∀ {out : List Value}, (∀ u ∈ out, ∃ v, RelV v u ∧ Rep W I v (pD (k u))) → ∃ ys, Vals ys out ∧ RepL W I ys ((out.map k).map pD)
  | [], _ => ⟨[], .nil, .nil⟩
  | u :: out, h => by
    obtain ⟨v, h1, h2⟩ := h u List.mem_cons_self
    obtain ⟨ys, h3, h4⟩ := vals_of (k := k) (out := out) fun z hz => h z (List.mem_cons_of_mem _ hz)
    exact ⟨v :: ys, .cons h1 h3, .cons h2 h4⟩
theorem ints_vals : ∀ {out : List Value}, (∀ v ∈ out, ∃ i t, v = Value.int i t) → Vals ((out.map SrtO.iv).map V.int) out
  | [], _ => .nil
  | v :: l, h => by
    obtain ⟨i, t, rfl⟩ := h v List.mem_cons_self
    exact .cons ⟨t, rfl⟩ (ints_vals fun z hz => h z (List.mem_cons_of_mem _ hz))
theorem RepL.ofInts {W : Wd} : ∀ l : List Int, RepL W I (l.map V.int) (l.map D.int)
  | [] => .nil
  | i :: l => .cons (.int i) (RepL.ofInts l)
theorem isPair_of (hK : C.W.K = X.K) {pins : List (Addr × Obj)} {σ0 : L2.St} {s : Shared} {v : V} {u : Value} {p : Int × Int} (Iv : Inv X pins σ0 H s) (S : Sim C n env ad σ I H) (r : Rep C.W I v (pD p)) (rv : RelV v u) : Srt.IsPair s.heap u p.1 p.2 := by
  cases r with
  | tup q rl =>
    cases rl with
    | cons a rl =>
      cases rl with
      | cons b rl =>
        cases rl
        cases a
        cases b
        rw [hK] at q
        obtain ⟨its, ri, hT, _⟩ := Iv.tuple (S.sub.sqT q)
        obtain ⟨u1, u2, rfl, h1, h2⟩ := vals2 ri
        obtain ⟨t1, rfl⟩ := h1
        obtain ⟨t2, rfl⟩ := h2
        obtain ⟨o, ho, hc, n, hd⟩ := hT
        obtain rfl : u = Value.ref _ := rv
        exact ⟨_, o, t1, t2, n, rfl, ho, hc, hd⟩
theorem c_sorted (hK : C.W.K = X.K) : CallR X (.builtin "sorted") (rC [.rd] .fr C ex (arg1 sortedM)) := by
  intro pins s σ0 H vs us Q Iv r h
  obtain ⟨n, env, ad, σ, I, ds, S, ra, q⟩ := h
  obtain ⟨v, d, rfl, rfl, r1⟩ := ra.one
  have r1 := r1.any (env' := env) (ad' := ad) (by decide)
  obtain ⟨u, rfl, ru⟩ := vals1 r
  have key : ∀ xs : List D, RepM .rd C env ad I H v (.lst xs) ∨ RepM .rd C env ad I H v (.tup xs) → AllB (sortL xs) n (Po .fr C env ad σ I H Q) (Pe C ex env ad σ I H) → wpAny (model X.prog X.w) X.A (call (.builtin "sorted") [u]) (EP X pins σ0 Q) X.xe s := fun xs r1 q => by
    obtain ⟨a, ws, its, rfl, rl, rv, hl, hz⟩ := RepM.seq (X := X) hK Iv S r1
    obtain rfl : u = Value.ref a := ru
    unfold sortL at q
    split at q
    · rename_i bs e
      have ew := rl.intsR e
      subst ew
      have hI := intsAre_of rv
      refine sorted_seq SrtO.swo_int hl hz (fun h2 h1 a' _ _ => SrtO.ints_sortable hI h2) fun h' d' out h1 h2 kp hd hn => ?_
      obtain ⟨n', hn⟩ := hn
      have q1 := h2.map SrtO.iv
      rw [SrtO.iv_ints hI] at q1
      have eo : (out.map SrtO.iv) = bs.mergeSort leI := merge_I (List.pairwise_map.mpr (h1.imp fun {x y} h => Int.not_lt.mp (of_decide_eq_false (p := SrtO.iv y < SrtO.iv x) h))) q1
      have hv : Vals ((bs.mergeSort leI).map V.int) out := by
        rw [← eo]
        exact ints_vals fun v hv => SrtO.ints_mem hI v (h2.mem_iff.mp hv)
      have hd0 : H d' = none := Iv.hok.fresh hd
      refine ⟨.ref d', upd H d' (.lst ((bs.mergeSort leI).map V.int)), Iv.laid (t' := s.toks) kp hd ⟨?_, out, n', hv, hn⟩, rfl, q _ I _ (S.laid' hd0) (Sub.refl _) (SameX.upd hd0) (S.new hd0 (RepL.ofInts _))⟩
      rw [hv.length, h2.length_eq]
      exact hz
    · split at q
      · rename_i ps e
        have e' := pairsL_eq e
        subst e'
        have hp : ∀ (j : Nat) (p : Int × Int) (u : Value), ps[j]? = some p → its[j]? = some u → Srt.IsPair s.heap u p.1 p.2 := fun j p u h1 h2 => by
          obtain ⟨v, hv, rvv⟩ := rl.get (i := j) (d := pD p) (by rw [List.getElem?_map, h1]; rfl)
          obtain ⟨u', hu', ru'⟩ := rv.get hv
          rw [h2] at hu'
          cases hu'
          exact isPair_of hK Iv S rvv ru'
        have hlen : its.length = ps.length := by rw [← rv.length, rl.length, List.length_map]
        have hall : ∀ u ∈ its, ∃ p : Int × Int, Srt.IsPair s.heap u p.1 p.2 := fun u hu => by
          obtain ⟨j, hj⟩ := List.getElem?_of_mem hu
          have hl : j < ps.length := by rw [← hlen]; exact (List.getElem?_eq_some_iff.mp hj).1
          exact ⟨ps[j], hp j _ u (List.getElem?_eq_getElem hl) hj⟩
        classical
        obtain ⟨k, hk⟩ : ∃ k : Value → Int × Int, ∀ u ∈ its, Srt.IsPair s.heap u (k u).1 (k u).2 := ⟨fun u => if h : ∃ p : Int × Int, Srt.IsPair s.heap u p.1 p.2 then Classical.choose h else (0, 0), fun u hu => by
          have h := hall u hu
          simp only [dif_pos h]
          exact Classical.choose_spec h⟩
        obtain ⟨hmap, hrep⟩ := pairs_k (k := k) rl rv hp hk
        refine sorted_seq (SrtO.swo_lex k) hl hz (fun h2 h₁ a ha kk => ?_) fun h' d' out h1 h2 kp hd hn => ?_
        · refine SrtO.pairs_sortableO (s := { s with heap := h₁ }) (by omega) (fun v hm => (hk v hm).keeps fun b o e _ => (kk b o e).2) fun o e => ?_
          have e' : some o = some (PyProof.Rows.seqObj "list" its.toArray 0) := e.symm.trans ha
          cases e'
          intro c
          exact absurd (Value.type.inj c) (by decide)
        · obtain ⟨n', hn⟩ := hn
          have eo : out.map k = ps.mergeSort leP := merge_P (List.pairwise_map.mpr (h1.imp fun {x y} h => by
            have h := SrtO.lexB_no.mp h
            simp only [leP, decide_eq_true_eq]
            omega)) ((h2.map k).trans (by rw [hmap]))
          obtain ⟨ys, hv, hr⟩ := vals_of (k := k) fun u hu => hrep u (h2.mem_iff.mp hu)
          rw [eo] at hr
          have hd0 : H d' = none := Iv.hok.fresh hd
          refine ⟨.ref d', upd H d' (.lst ys), Iv.laid (t' := s.toks) kp hd ⟨?_, out, n', hv, hn⟩, rfl, q _ I _ (S.laid' hd0) (Sub.refl _) (SameX.upd hd0) (S.new hd0 hr)⟩
          rw [hv.length, h2.length_eq]
          exact hz
      · exact False.elim q
  cases d with
  | lst xs =>
    obtain ⟨_, q⟩ := allB_ite (show AllB (if _ then _ else .bad) _ _ _ from q)
    exact key xs (.inl r1) q
  | tup xs =>
    obtain ⟨_, q⟩ := allB_ite (show AllB (if _ then _ else .bad) _ _ _ from q)
    exact key xs (.inr r1) q
  | _ => exact False.elim q
end
end PD

set_option Elab.async false
set_option linter.all false
set_option maxRecDepth 100000
set_option maxHeartbeats 2000000
/-! PDG: promises of defs where no guard stands (repr asks it); the law's def at the caller. -/
namespace PDL
open PySem PySem.Spec L2 PyProof.Rows

/-- a def keeps its promise where no guard stands -/
structure FnG (P : Program) (w : World) (K : PySem.W.Frag) (mg : Str → Option Value) (baseₜ : Heap) (CX : CXT) (k : Nat) (f : Addr) (fd : FuncData) (ps : List Str) (sp : Sp) : Prop where
  len : ∀ vs H Q E, sp vs H Q E → vs.length = ps.length
  run : ∀ (A : Around) (outerₜ : List Env) (s : Shared) (H : Hp) (args : Args) (us : List Value) (vs : List V) (Q : VK) (E : XK), A.guards = some [] → Room k A → Env0 P w K mg baseₜ A outerₜ s H → BindsTo s fd args (ps.zip us) → Vals vs us → sp vs H Q E →
    codeAny (model P w) A (.call (.ref f) args) (CR CX outerₜ P w H s Q E) s
section
variable {P : Program} {w : World} {K : PySem.W.Frag} {mg : Str → Option Value} {baseₜ : Heap} {CX : CXT} {k : Nat} {f : Addr} {fd : FuncData} {ps : List Str} {sp : Sp}
theorem FnG.mono {j : Nat} (F : FnG P w K mg baseₜ CX j f fd ps sp) (h : j ≤ k) : FnG P w K mg baseₜ CX k f fd ps sp := ⟨F.len, fun A outerₜ s H args us vs Q E hg hr => F.run A outerₜ s H args us vs Q E hg (hr.mono h)⟩
theorem FnG.imp {sp' : Sp} (F : FnG P w K mg baseₜ CX k f fd ps sp) (h : ∀ vs H Q E, sp' vs H Q E → sp vs H Q E) : FnG P w K mg baseₜ CX k f fd ps sp' :=
  ⟨fun vs H Q E q => F.len vs H Q E (h _ _ _ _ q), fun A outerₜ s H args us vs Q E hg hr heₜ hb hv hs => F.run A outerₜ s H args us vs Q E hg hr heₜ hb hv (h _ _ _ _ hs)⟩
/-- from a body (where no guard stands) -/
theorem fnG_of {name qual : Str} {params : Arguments} {body : List Stmt} {scope : Scope} {dV kV doc pm cdv ct oc : Value} {an od : Option Addr}
    {osl : Array (Option Value)} {N : List Str} (lkₜ : K.lookup f = some ⟨oc, od, .func (PySem.W.fnOf name qual params body scope dV kV doc pm an cdv ct), osl⟩) (hcdₜ : PySem.W.codeIn K cdv qual = true) (S : FnScope N ps scope)
    (len : ∀ vs H Q E, sp vs H Q E → vs.length = ps.length)
    (hbody : ∀ (A : Around) (outerₜ : List Env) (s : Shared) (H : Hp) (vs : List V) (Q : VK) (E : XK), A.guards = some [] → Room k (A.deeper (envOfC qual scope s.heap.objs.size f cdv)) → sp vs H Q E →
      ∃ t, PSs (cxOf CX P w K mg baseₜ N qual scope f cdv A outerₜ s H E) body t ∧ t { nx := fun _ H' => Q .non H', rt := Q } (start N vs) H) :
    FnG P w K mg baseₜ CX (k + 1) f (PySem.W.fnOf name qual params body scope dV kV doc pm an cdv ct) ps sp := by
  refine ⟨len, fun A outerₜ s H args us vs Q E hg hr e0ₜ hb r hspₜ => ?_⟩
  have hlₜ := len _ _ _ _ hspₜ
  have KXₜ : K.In s.heap := e0ₜ.mod.kin.keeps fun b o e => (e0ₜ.bs b o e).1
  have limₜ : s.heap.NoLimit := e0ₜ.mod.nolimit.keeps fun b o e => (e0ₜ.bs b o e).1
  have hkindₜ : ∀ y ∈ ps.zip us, scope.names.lookup y.1 = some .local ∨ (scope.names.lookup y.1 = some .cell ∧ ((cellsFrom (s.heap.objs.size + 1) scope.names []).lookup y.1).isSome = true) := fun ⟨n, v⟩ hy =>
    (S.par n (List.of_mem_zip hy).1).imp id fun q => ⟨q, PySem.W.cellsFrom_some _ _ _ (.inl q)⟩
  refine codeAny_call_function hr.depth (KXₜ _ _ lkₜ) rfl S.co S.gen rfl (PySem.W.codeRec_of KXₜ hcdₜ) (hb _ _ _ _ ?_)
  refine wpAny_newFunctionEnv_cells S.kind hkindₜ fun env heₜ s1 x => ?_
  subst heₜ
  refine ⟨limₜ.keeps x.toInCall.keep, codeAny_func ?_⟩
  obtain ⟨t, ht, hqₜ⟩ := hbody A outerₜ s H vs Q E hg (hr.deeper _) hspₜ
  refine wpAny_mono (ht.run [] s1 (start N vs) H _ (inv_start S hr.hd e0ₜ hlₜ r x) hqₜ) (fun fl s' hs => ?_) fun e s' hs => hs
  cases fl with
  | ret u =>
    obtain ⟨v, σ', H', Jₜ, rvₜ, q⟩ := hs
    exact ⟨v, H', Jₜ.os, Jₜ.bare, Jₜ.base, Jₜ.hok, rvₜ, q⟩
  | next =>
    obtain ⟨σ', H', Jₜ, q⟩ := hs
    exact ⟨.non, H', Jₜ.os, Jₜ.bare, Jₜ.base, Jₜ.hok, rfl, q⟩
  | brk => exact hs.elim fun _ zₜ => zₜ.elim fun _ zₜ => False.elim zₜ.2
  | cont => exact hs.elim fun _ zₜ => zₜ.elim fun _ zₜ => False.elim zₜ.2
/-- a def of the text as it stands there -/
structure FunT (K : PySem.W.Frag) (x qual : Str) (st : Stmt) (f : Addr) (fd : FuncData) : Prop where
  ex : ∃ (oc : Value) (od an : Option Addr) (dV kV doc pm cdv ct : Value) (osl : Array (Option Value)),
    fd = PySem.W.fnOf x qual (defArgs st) (defBody st) (defScope st) dV kV doc pm an cdv ct ∧ K.lookup f = some ⟨oc, od, .func fd, osl⟩ ∧ PySem.W.codeIn K cdv qual = true
/-- a def of the text -/
theorem funG {x qual : Str} {st : Stmt} {N : List Str} (F : FunT K x qual st f fd) (S : FnScope N ps (defScope st)) (len : ∀ vs H Q E, sp vs H Q E → vs.length = ps.length)
    (hbody : ∀ (cdv : Value) (A : Around) (outerₜ : List Env) (s : Shared) (H : Hp) (vs : List V) (Q : VK) (E : XK), A.guards = some [] → Room k (A.deeper (envOfC qual (defScope st) s.heap.objs.size f cdv)) → sp vs H Q E →
      ∃ t, PSs (cxOf CX P w K mg baseₜ N qual (defScope st) f cdv A outerₜ s H E) (defBody st) t ∧ t { nx := fun _ H' => Q .non H', rt := Q } (start N vs) H) : FnG P w K mg baseₜ CX (k + 1) f fd ps sp := by
  obtain ⟨oc, od, an, dV, kV, doc, pm, cdv, ct, osl, rfl, lkₜ, hcdₜ⟩ := F.ex
  exact fnG_of lkₜ hcdₜ S len fun A outerₜ s H vs Q E hg hr hspₜ => hbody cdv A outerₜ s H vs Q E hg hr hspₜ
end
section
variable {X : Cx} {CX : CXT} {k : Nat} {f C : Addr} {fd : FuncData} {ps : List Str} {sp : Sp} {dvs : List V} {ds : List Value} {E : L2.St → XK} {x m : Str} {p pos apos : Pos} {e o : Expr} {es : List Expr} {ta : TE} {t : TA}
theorem run_fnG {pins : List (Addr × Obj)} {σ : L2.St} {H : Hp} {s : Shared} {Q : VK} {us : List Value} {vs : List V} (F : FnG X.prog X.w X.K X.mg X.base CX k f fd ps sp) (hg : X.A.guards = some []) (hr : Room k X.A) (hb : Binds X.K fd ps ds) (hdₜ : Vals dvs ds) (hx : PassesAt CX X σ (E σ))
    (I : Inv X pins σ H s) (r : Vals vs us) (h : sp (vs ++ dvs) H Q (E σ)) : wpAny (model X.prog X.w) X.A (call (.ref f) us) (EP X pins σ Q) X.xe s := by
  have r2ₜ : Vals (vs ++ dvs) (us ++ ds) := r.append hdₜ
  have hlₜ : (us ++ ds).length = ps.length := by rw [← r2ₜ.length]; exact F.len _ _ _ _ h
  refine wpAny_call (codeAny_mono (F.run X.A X.stack s H ⟨us, []⟩ (us ++ ds) (vs ++ dvs) Q (E σ) hg hr I.env0 (hb s us I.kIn hlₜ) r2ₜ h) fun r s' hqₜ => ?_)
  match r, hqₜ with
  | .error e, hqₜ => exact hx pins H s e s' I hqₜ
  | .ok (.ret u), hqₜ => exact I.after hqₜ
/-- f(e, ..), f a def of the text -/
theorem pe_callG (F : FnG X.prog X.w X.K X.mg X.base CX k f fd ps sp) (hgd : X.A.guards = some []) (hr : Room k X.A) (hg : Gl X x) (hmₜ : X.mg x = some (.ref f)) (hk : PySem.W.keepIn X.K (.ref f) = true) (hb : Binds X.K fd ps ds) (hdₜ : Vals dvs ds) (hx : ∀ σ, PassesAt CX X σ (E σ))
    (haₜ : PA X (e :: es) t) (hdb : (x == ("__debug__" : Str)) = false := by decide) (heₜ : starEach (e :: es) X.env = (false, eval e X.env) :: starEach es X.env := by rfl) (hplₜ : (backTo pos (starEach es X.env)).any (·.1) = false := by rfl) :
    PE X (.Call (.Name x p) (e :: es) [] pos) (tCallSD sp dvs E t) := ⟨fun pins s σ H Q I h =>
  wpAny_Call_Name_kw (ld_glob I hg hmₜ (PySem.W.callWith_K (h₀ := X.base) I.ok.mod.kin hk (thn (haₜ.run pos pins s σ H _ I h) fun us s1 ⟨vs, H1, I1, r, q⟩ => ⟨I1.kIn, run_fnG F hgd hr hb hdₜ (hx σ) I1 r q⟩) heₜ hplₜ) hdb)⟩
/-- f() -/
theorem pe_callG0 (F : FnG X.prog X.w X.K X.mg X.base CX k f fd ps sp) (hgd : X.A.guards = some []) (hr : Room k X.A) (hg : Gl X x) (hmₜ : X.mg x = some (.ref f)) (hk : PySem.W.keepIn X.K (.ref f) = true) (hb : Binds X.K fd ps ds) (hdₜ : Vals dvs ds) (hx : ∀ σ, PassesAt CX X σ (E σ))
    (hdb : (x == ("__debug__" : Str)) = false := by decide) : PE X (.Call (.Name x p) [] [] pos) (tCallSD sp dvs E tNil) := ⟨fun pins s σ H Q I h =>
  wpAny_Call_Name_kw (ld_glob I hg hmₜ (PySem.W.callWith_K0 I.kIn hk (run_fnG (us := []) F hgd hr hb hdₜ (hx σ) I .nil h)) hdb)⟩
theorem run_makeG {pins : List (Addr × Obj)} {σ : L2.St} {H : Hp} {s : Shared} {Q : VK} {us : List Value} {vs : List V} (M : Mk X.K C f) (F : FnG X.prog X.w X.K X.mg X.base CX k f fd ps sp) (hgd : X.A.guards = some []) (hr : Room (k + 1) X.A) (hb : Binds X.K fd ps ds) (hdₜ : Vals dvs ds)
    (hx : PassesAt CX X σ (E σ)) (I : Inv X pins σ H s) (r : Vals vs us)
    (hw : ∀ (x dx : Addr) u s', CX X.stack (upd (upd H dx (.own x)) x (.ins C dx [])) { s with heap := s.heap } (E σ) u s' → True)
    (h : ∀ x dx, H x = none → H dx = none → dx ≠ x → sp (.ref x :: (vs ++ dvs)) (upd (upd H dx (.own x)) x (.ins C dx [])) (fun v H2 => v = .non ∧ Q (.ref x) H2) (E σ)) :
    wpAny (model X.prog X.w) X.A (call (.ref C) us) (EP X pins σ Q) X.xe s := by
  have hqₜ := h (s.heap.objs.size + 1) s.heap.objs.size (I.hok.fresh (Nat.le_succ _)) (I.hok.fresh (Nat.le_refl _)) (Nat.ne_of_lt (Nat.lt_succ_self _))
  have I2ₜ := Inv.made (C := C) I
  have r2ₜ : Vals (V.ref (s.heap.objs.size + 1) :: (vs ++ dvs)) (Value.ref (s.heap.objs.size + 1) :: (us ++ ds)) := .cons rfl (r.append hdₜ)
  have hlₜ : (Value.ref (s.heap.objs.size + 1) :: us ++ ds).length = ps.length := by
    have e := r2ₜ.length
    rw [F.len _ _ _ _ hqₜ] at e
    exact e.symm
  have hgu : (X.A.under (.builtin "type.__call__" ⟨.ref C :: us, []⟩)).guards = some [] := by
    have e : (X.A.under (.builtin "type.__call__" ⟨.ref C :: us, []⟩)).guards = pushGuards (Code.builtin "type.__call__" ⟨.ref C :: us, []⟩).guards X.A.guards := rfl
    rw [e, hgd, show (Code.builtin "type.__call__" ⟨.ref C :: us, []⟩).guards = [] by simp [Code.guards, Code.isGuard, guardIds]]
    rfl
  refine wpAny_call (make_map (f := f) I.kIn M.makes M.init (beq_iff_eq.mp M.fn) (codeAny_mono (F.run _ X.stack _ _ ⟨Value.ref (s.heap.objs.size + 1) :: us, []⟩ (Value.ref (s.heap.objs.size + 1) :: (us ++ ds)) _ _ (E σ) hgu (hr.make C us [])
    (I2ₜ.env0.make C us []) (hb _ (Value.ref (s.heap.objs.size + 1) :: us) I2ₜ.kIn hlₜ) r2ₜ hqₜ) fun r s' hq' => ?_))
  match r, hq' with
  | .error e, hq' => exact hx pins _ _ e s' I2ₜ hq'
  | .ok (.ret u), hq' =>
    obtain ⟨v, H', I3, rvₜ, evₜ, q3ₜ⟩ := I2ₜ.after hq'
    subst evₜ
    exact ⟨rvₜ, ⟨V.ref (s.heap.objs.size + 1), H', I3, rfl, q3ₜ⟩⟩
def tMakeS (C : Addr) (sp : Sp) (dvs : List V) (E : L2.St → XK) (t : TA) : TE := fun σ H Q => t σ H fun vs H1 => ∀ x dx, H1 x = none → H1 dx = none → dx ≠ x →
  sp (.ref x :: (vs ++ dvs)) (upd (upd H1 dx (.own x)) x (.ins C dx [])) (fun v H2 => v = .non ∧ Q (.ref x) H2) (E σ)
/-- C(e, ..), C's __init__ a def of the text -/
theorem pe_makeG (M : Mk X.K C f) (F : FnG X.prog X.w X.K X.mg X.base CX k f fd ps sp) (hgd : X.A.guards = some []) (hr : Room (k + 1) X.A) (hg : Gl X x) (hmₜ : X.mg x = some (.ref C)) (hb : Binds X.K fd ps ds) (hdₜ : Vals dvs ds) (hx : ∀ σ, PassesAt CX X σ (E σ))
    (haₜ : PA X (e :: es) t) (hdb : (x == ("__debug__" : Str)) = false := by decide) (heₜ : starEach (e :: es) X.env = (false, eval e X.env) :: starEach es X.env := by rfl) (hplₜ : (backTo pos (starEach es X.env)).any (·.1) = false := by rfl) :
    PE X (.Call (.Name x p) (e :: es) [] pos) (tMakeS C sp dvs E t) := ⟨fun pins s σ H Q I h =>
  wpAny_Call_Name_kw (ld_glob I hg hmₜ (PySem.W.callWith_K (h₀ := X.base) I.ok.mod.kin M.kp (thn (haₜ.run pos pins s σ H _ I h) fun us s1 ⟨vs, H1, I1, r, q⟩ => ⟨I1.kIn, run_makeG M F hgd hr hb hdₜ (hx σ) I1 r (fun _ _ _ _ _ => trivial) q⟩) heₜ hplₜ) hdb)⟩
end

/-! ### the law's def at the caller -/
section
variable {P : Program} {w : World} {K : PySem.W.Frag} {mg mb : Str → Option Value} {CX : CXT} {k : Nat} {fa a : Addr} {fd : FuncData} {x : Str} {sp : Sp} {s₁ₜ : Shared} {vs : List Value} {ns : List Int}
/-- from a heap H that tracks at most the script's list -/
theorem law_core (KXₜ : K.In s₁ₜ.heap) (hnsₜ : s₁ₜ.heap.Ns mainGlobals mg) (hb : s₁ₜ.heap.Ns builtinsNs mb) (hbbₜ : ∀ x : Str, x ≠ "__name__" → mb x = bootBuiltins x) (hlimₜ : s₁ₜ.heap.NoLimit) (hg : s₁ₜ.gens = #[])
    (haₜ : s₁ₜ.heap.get? a = some { cls := .type "list", data := .seq vs.toArray }) (hr : Room k callerA)
    (F : ∀ baseₜ : Heap, K.In baseₜ → baseₜ.Ns mainGlobals mg → FnG P w K mg baseₜ CX k fa fd [x] sp) (hbind : ∀ (s : Shared) (u : Value), BindsTo s fd ⟨[u], []⟩ [(x, u)])
    (hCXₜ : ∀ H e s', CX [] H s₁ₜ (fun _ _ _ => False) e s' → False) (H : Hp) (hOₜ : Only H) (hspₜ : sp [.ref a] H (fun v _ => v = .bl true) fun _ _ _ => False) (hok : HOk P w H s₁ₜ.heap) (hA : ∀ b, H b ≠ none → b = a) (hK : H a ≠ none → K.lookup a = none) :
    codeAny (model P w) callerA (.call (.ref fa) ⟨[.ref a], []⟩) (fun r s' => r = .ok (.ret (.bool true)) ∧ OldK s₁ₜ.heap s'.heap ∧ s'.os = s₁ₜ.os ∧ AllBare s'.gens) s₁ₜ := by
  -- what is not the script is hidden from nobody
  have isA : ∀ {b : Addr}, H b = none ∨ b = a := fun {b} => by
    cases q : H b with
    | none => exact .inl rfl
    | some u => exact .inr (hA b (by rw [q]; exact fun zₜ => nomatch zₜ))
  have nsK : ∀ {b : Addr} {m : Str → Option Value}, s₁ₜ.heap.Ns b m → (hidT s₁ₜ.heap H).Ns b m := fun {b m} ⟨o, es, ep, e, d, r⟩ => ⟨o, es, ep, hidT_get e (by
    rcases isA (b := b) with zₜ | rfl
    · exact zₜ
    · rw [haₜ] at e
      cases e
      have dₜ' : Data.seq vs.toArray _ = Data.dict es ep := d
      cases dₜ'), d, r⟩
  have hKb : K.In (hidT s₁ₜ.heap H) := fun b o e => hidT_get (KXₜ b o e) (by
    cases q : H b with
    | none => rfl
    | some u =>
      have eb : b = a := hA b (by rw [q]; exact fun zₜ => nomatch zₜ)
      rw [eb] at e q
      rw [hK (by rw [q]; exact fun zₜ => nomatch zₜ)] at e
      cases e)
  have hMₜ : Mod K mg (hidT s₁ₜ.heap H) := ⟨hKb, nsK hnsₜ, ⟨mb, nsK hb, hbbₜ⟩, let ⟨mc, h1, h2⟩ := hlimₜ; ⟨mc, nsK h1, h2⟩⟩
  have nil : ∀ {b : Addr} {p : Prop}, b ∈ ([] : List Addr) → p := fun h => absurd h (by simp)
  refine codeAny_mono ((F _ hKb (nsK hnsₜ)).run callerA [] s₁ₜ H ⟨[.ref a], []⟩ [.ref a] [.ref a] _ _ rfl hr ⟨rfl, hMₜ, fun b o e => of_hidT e, Nat.le_of_eq (hidT_size _ _), trivial, fun b hb => nil hb, hok, .of_eq hg⟩ (hbind s₁ₜ (.ref a)) (.cons rfl .nil) hspₜ) fun r s' h => ?_
  match r, h with
  | .error e, h => exact (hCXₜ H e s' h).elim
  | .ok (.ret u), h =>
    obtain ⟨v, H', osₜ, bareₜ, unₜ, hokₜ', rₜ', q⟩ := h
    have q' : v = .bl true := q
    subst q'
    obtain rfl : u = Value.bool true := rₜ'
    refine ⟨rfl, OldK.of_keep fun b o e => ?_, osₜ, bareₜ⟩
    rcases hOₜ b with zₜ | ⟨obₜ, xsₜ, zₜ⟩
    · exact unₜ.keep b o e zₜ (fun q => nil q) (by simp)
    · obtain ⟨e1, _⟩ := hok b _ zₜ
      obtain ⟨e2, _⟩ := hokₜ' b _ (unₜ.frzs b obₜ _ zₜ)
      rw [e] at e1
      cases e1
      exact e2
theorem law_callG (KXₜ : K.In s₁ₜ.heap) (hnsₜ : s₁ₜ.heap.Ns mainGlobals mg) (hb : s₁ₜ.heap.Ns builtinsNs mb) (hbbₜ : ∀ x : Str, x ≠ "__name__" → mb x = bootBuiltins x) (hlimₜ : s₁ₜ.heap.NoLimit) (hg : s₁ₜ.gens = #[])
    (haₜ : s₁ₜ.heap.get? a = some { cls := .type "list", data := .seq vs.toArray }) (hi : IntsAre vs ns) (hlₜ : ns.length ≤ sizeLine) (hr : Room k callerA)
    (F : ∀ baseₜ : Heap, K.In baseₜ → baseₜ.Ns mainGlobals mg → FnG P w K mg baseₜ CX k fa fd [x] sp) (hbind : ∀ (s : Shared) (u : Value), BindsTo s fd ⟨[u], []⟩ [(x, u)])
    (hspₜ : ∀ H : Hp, Only H → SqL K H a (ns.map V.int) → (∀ b, H b ≠ none → b = a) → sp [.ref a] H (fun v _ => v = .bl true) fun _ _ _ => False)
    (hCXₜ : ∀ H e s', CX [] H s₁ₜ (fun _ _ _ => False) e s' → False) :
    codeAny (model P w) callerA (.call (.ref fa) ⟨[.ref a], []⟩) (fun r s' => r = .ok (.ret (.bool true)) ∧ OldK s₁ₜ.heap s'.heap ∧ s'.os = s₁ₜ.os ∧ AllBare s'.gens) s₁ₜ := by
  have rvₜ := vals_ints hi
  have core := law_core (P := P) (w := w) (K := K) (a := a) (vs := vs) KXₜ hnsₜ hb hbbₜ hlimₜ hg haₜ hr F hbind hCXₜ
  cases hk : K.lookup a with
  | some o =>
    have e := KXₜ a o hk
    rw [haₜ] at e
    cases e
    have n0 : ∀ b : Addr, (fun _ => none : Hp) b ≠ none → b = a := fun b zₜ => absurd rfl zₜ
    exact core (fun _ => none) (fun _ => .inl rfl) (hspₜ _ (fun _ => .inl rfl) (.inr ⟨_, vs.toArray, _, hk, rfl, rfl, rfl, by rw [List.size_toArray, hi.length]; exact hlₜ, by simpa using rvₜ⟩) n0) (fun b u zₜ => nomatch (show (none : Option HO) = some u from zₜ)) n0 fun zₜ => absurd rfl zₜ
  | none =>
    generalize hH : (fun b => if b = a then some (HO.frz { cls := .type "list", data := .seq vs.toArray } (.lst (ns.map V.int))) else none : Hp) = H
    have h1 : H a = some (.frz { cls := .type "list", data := .seq vs.toArray } (.lst (ns.map V.int))) := by rw [← hH]; exact if_pos rfl
    have h2 : ∀ b, b ≠ a → H b = none := fun b zₜ => by rw [← hH]; exact if_neg zₜ
    have hOₜ : Only H := fun b => (Classical.em (b = a)).elim (fun zₜ => .inr ⟨_, _, zₜ ▸ h1⟩) fun zₜ => .inl (h2 b zₜ)
    have hA : ∀ b, H b ≠ none → b = a := fun b zₜ => Classical.byContradiction fun n => zₜ (h2 b n)
    refine core H hOₜ (hspₜ H hOₜ (.inl (.inr ⟨_, h1⟩)) hA) (fun b u zₜ => ?_) hA fun _ => hk
    have eb : b = a := hA b (by rw [zₜ]; exact fun q => nomatch q)
    rw [eb] at zₜ ⊢
    rw [h1] at zₜ
    cases zₜ
    exact ⟨haₜ, by rw [List.length_map]; exact hlₜ, vs, _, rvₜ, haₜ⟩
theorem walk_ofG {l : PySem.W.OpenLaw} {n k : Nat} {q : Program} {loose : List Str} {XP : (Str → Option Value) → Heap → Prop} {YP : World → Heap → Prop} {d : DefRec} {K : Params → PySem.W.Frag} {CX : World → CXT} {sp : World → (Str → Option Value) → Sp} {x : Str}
    (hn : l.most = some n) (hn2ₜ : n ≤ sizeLine) (hdfₜ : d.params.defaults = []) (hr : Room k callerA)
    (hYₜ : ∀ (w : World) (h : Heap), YP w h → (K w.params).In h)
    (F : ∀ (w : World) (mg : Str → Option Value) (fa : Addr) (h : Heap), (K w.params).In h → h.Ns mainGlobals mg → mg d.name = some (.ref fa) →
      ∃ fd : FuncData, (∀ (s : Shared) (u : Value), BindsTo s fd ⟨[u], []⟩ [(x, u)]) ∧
        ∀ baseₜ : Heap, (K w.params).In baseₜ → baseₜ.Ns mainGlobals mg → FnG l.prog w (K w.params) mg baseₜ (CX w) k fa fd [x] (sp w mg))
    (hspₜ : ∀ (w : World) (mg : Str → Option Value) (H : Hp) (a : Addr) (ns : List Int), ns.length ≤ n → (∀ zₜ ∈ ns, Builtin.Int.intBits zₜ ≤ 1048576) → Only H → SqL (K w.params) H a (ns.map V.int) → (∀ b, H b ≠ none → b = a) → sp w mg [.ref a] H (fun v _ => v = .bl true) fun _ _ _ => False)
    (hCXₜ : ∀ (w : World) (H : Hp) (s : Shared) (e : Value) (s' : Shared), CX w [] H s (fun _ _ _ => False) e s' → False) :
    PySem.W.WalkO q loose XP YP l.row.toRowW d [] (fun f vs => PySem.call f vs) := by
  refine Att.attach_callB hn hdfₜ fun w s₀ s₁ₜ mg mb fa o pm cd doc a vs ns G Y ho hdₜ hcdₜ hmgₜ hobjₜ hintsₜ hlenₜ hbitsₜ hg => ?_
  have KXₜ := hYₜ w _ Y
  obtain ⟨fd, hb, hF⟩ := F w mg fa _ KXₜ G.T.g hmgₜ
  exact law_callG KXₜ G.T.g G.T.b G.T.builtins G.T.nolimit hg hobjₜ hintsₜ (Nat.le_trans hlenₜ hn2ₜ) hr hF hb (fun H hOₜ hS hA => hspₜ w mg H a ns hlenₜ hbitsₜ hOₜ hS hA) fun H e s' => hCXₜ w H s₁ₜ e s'
end
end PDL

set_option Elab.async false
set_option linter.all false
set_option maxRecDepth 100000
set_option maxHeartbeats 2000000
/-! PDFn: a def's promise over plain data; its body; calls of it. -/
namespace PD
open PySem PySem.Spec L2 PDL
section
variable {C : Ctx} {ex : Ex} {X : Cx} {e : Expr} {es : List Expr} {fs : Env → M (List D)} {pos : Pos} {m : Md} {ms : List Md} {W : Wd}
abbrev ad0 : Nat → Addr := fun _ => 0
/-- the state apart from a frame -/
abbrev Sim0 (W : Wd) (B I0 : Hp) (n : Nat) (I H : Hp) : Prop := Sim ⟨W, B, I0⟩ n [] ad0 [] I H
theorem Sim.bare {n : Nat} {env : Env} {ad : Nat → Addr} {σ : L2.St} {I H : Hp} (S : Sim C n env ad σ I H) : Sim C n [] ad0 [] I H :=
  ⟨S.sub, S.i0, S.base, S.fresh, S.nos, S.src, rfl, fun i d h => by simp at h, fun i d h => by simp at h, fun i d h => by simp at h, fun i j d e h => by simp at h⟩
/-- a def's promise: F of the arguments -/
def SpD (W : Wd) (ms : List Md) (F : List D → M D) : Sp := fun vs H Q E => ∃ n I ds, Sim0 W H I n I H ∧ RepA ⟨W, H, I⟩ I H ms vs ds ∧
  AllB (F ds) n (fun n' d => ∀ v I' H', Sim0 W H I n' I' H' → Rep W I' v d → Q v H') (fun n' c d => ∀ cls dx I' H', Sim0 W H I n' I' H' → ExcR W I' c d cls dx → E cls dx H')
def slotOf : Md → D → Slot
  | .val, d => .v d
  | .st, d => .bor d
  | .rd, d => .bor d
  | .fr, d => .no
def slots (ms : List Md) (ds : List D) : List Slot := List.zipWith slotOf ms ds
/-- what a body may do with its errors: the def's own promise -/
def exE (W : Wd) (E : XK) : Ex := fun n' c d env ad σ I H => ∀ cls dx, ExcR W I c d cls dx → E cls dx H
theorem takes_E {E : XK} (t : Takes X (fun cls d _ H => E cls d H)) {B I0 : Hp} : Takes X (wxOf ⟨W, B, I0⟩ (exE W E)) := t.imp fun cls dx σ H ⟨n, c, d, env, ad, I, S, r, h⟩ => h cls dx r
theorem slots_get {ds : List D} {i : Nat} {s : Slot} : ∀ {ms : List Md} {k : Nat}, (slots ms ds ++ List.replicate k Slot.no)[i]? = some s → (∃ m d, ms[i]? = some m ∧ ds[i]? = some d ∧ s = slotOf m d) ∨ s = .no := fun {ms k} h => by
  by_cases hi : i < (slots ms ds).length
  · rw [List.getElem?_append_left hi] at h
    unfold slots at h
    rw [List.getElem?_zipWith] at h
    cases h1 : ms[i]? with
    | none => rw [h1] at h; cases h
    | some m =>
      cases h2 : ds[i]? with
      | none => rw [h1, h2] at h; cases h
      | some d => rw [h1, h2] at h; cases h; exact .inl ⟨m, d, rfl, rfl, rfl⟩
  · rw [List.getElem?_append_right (by omega)] at h
    exact .inr (List.mem_replicate.mp (List.mem_of_getElem? h)).2
theorem RepA.get {I H : Hp} : ∀ {ms : List Md} {vs : List V} {ds : List D} {i : Nat} {m : Md} {d : D}, RepA C I H ms vs ds → ms[i]? = some m → ds[i]? = some d → m ≠ .fr ∧ ∃ v, vs[i]? = some v ∧ RepM m C [] ad0 I H v d
  | [], [], [], _, _, _, _, h, _ => by simp at h
  | m :: ms, v :: vs, d :: ds, 0, _, _, ⟨h1, h2, _⟩, ha, hb => by
    simp at ha hb
    subst ha; subst hb
    exact ⟨h1, v, rfl, h2⟩
  | m :: ms, v :: vs, d :: ds, i + 1, _, _, ⟨_, _, r⟩, ha, hb => by
    simpa using RepA.get (i := i) r (by simpa using ha) (by simpa using hb)
/-- a body's frame -/
theorem Sim.args {N : List Str} {vs : List V} {ds : List D} {n : Nat} {I H : Hp} (hms : ms.length ≤ N.length) (S : Sim0 W H I n I H) (ra : RepA ⟨W, H, I⟩ I H ms vs ds) :
    Sim ⟨W, H, I⟩ n (slots ms ds ++ List.replicate (N.length - (slots ms ds).length) .no) ad0 (L2.start N vs) I H := by
  have hl := ra.len
  have hsl : (slots ms ds).length = ms.length := by unfold slots; rw [List.length_zipWith, hl.2]; omega
  refine ⟨S.sub, S.i0, S.base, S.fresh, S.nos, S.src, ?_, fun i d h => ?_, fun i d h => ?_, fun i d h => ?_, fun i j d e h => ?_⟩
  · unfold L2.start
    simp only [List.length_append, List.length_replicate, List.length_map]
    omega
  · rcases slots_get h with ⟨m, d', h1, h2, h3⟩ | h3
    · obtain ⟨hm, v, h4, h5⟩ := ra.get h1 h2
      cases m <;> simp only [slotOf] at h3 <;> first | cases h3 | skip
      refine ⟨v, ?_, h5⟩
      unfold L2.start
      rw [List.getElem?_append_left (by rw [List.length_map]; exact (List.getElem?_eq_some_iff.mp h4).1), List.getElem?_map, h4]
      rfl
    · cases h3
  · rcases slots_get h with ⟨m, d', h1, h2, h3⟩ | h3
    · obtain ⟨hm, v, h4, h5⟩ := ra.get h1 h2
      have hs : (L2.start N vs)[i]? = some (some v) := by
        unfold L2.start
        rw [List.getElem?_append_left (by rw [List.length_map]; exact (List.getElem?_eq_some_iff.mp h4).1), List.getElem?_map, h4]
        rfl
      cases m <;> simp only [slotOf] at h3 <;> first | cases h3 | skip
      · exact ⟨v, hs, h5⟩
      · exact ⟨v, hs, h5⟩
    · cases h3
  · rcases slots_get h with ⟨m, d', h1, h2, h3⟩ | h3
    · cases m <;> cases h3
    · cases h3
  · rcases slots_get h with ⟨m, d', h1, h2, h3⟩ | h3
    · cases m <;> cases h3
    · cases h3
/-- a body's start -/
theorem tS_start {N : List Str} {s : Env → M (Fl × Env)} {vs : List V} {H : Hp} {Q : VK} {E : XK} (hms : ms.length ≤ N.length) (h : SpD W ms (fun ds => run N.length s (slots ms ds)) vs H Q E) :
    ∃ I, tS ⟨W, H, I⟩ (exE W E) s { nx := fun _ H' => Q .non H', rt := Q } (L2.start N vs) H := by
  obtain ⟨n, I, ds, S, ra, q⟩ := h
  refine ⟨I, n, slots ms ds ++ List.replicate (N.length - (slots ms ds).length) .no, ad0, I, Sim.args hms S ra, ?_⟩
  · have q := allB_runM (show AllB (runM (s (slots ms ds ++ List.replicate (N.length - (slots ms ds).length) .no))) n _ _ from q)
    refine q.mono (fun n' r q1 => ?_) fun n' c d z => z
    obtain ⟨fl, env'⟩ := r
    cases fl with
    | nx => exact fun ad' σ' I' H' S' i => (show ∀ v I' H', Sim0 W H I n' I' H' → Rep W I' v .non → Q v H' from q1) .non I' H' S'.bare .non
    | brk => exact False.elim q1
    | cnt => exact False.elim q1
    | rt d => exact fun ad' σ' I' H' v S' i r => (show ∀ v I' H', Sim0 W H I n' I' H' → Rep W I' v d → Q v H' from q1) v I' H' S'.bare r
    | rtF d =>
      intro ad' σ' I' H' v S' i r
      obtain ⟨a, rfl, h2, h3, h4, h5, h6⟩ := r
      obtain ⟨u, hu⟩ := h3.there
      exact (show ∀ v I' H', Sim0 W H I n' I' H' → Rep W I' v d → Q v H' from q1) _ _ H' (S'.bare.keep hu h4 h5 h2 fun i e h => by simp at h) (h3.rep (sub_upd h4) (by rw [upd_same]; exact hu.symm))
    | exc c d => exact fun ad' σ' I' H' S' i cls dx r => (show ∀ cls dx I' H', Sim0 W H I n' I' H' → ExcR W I' c d cls dx → E cls dx H' from q1) cls dx I' H' S'.bare r
/-- a def's promise that gives a new container -/
def SpDF (W : Wd) (ms : List Md) (F : List D → M D) : Sp := fun vs H Q E => ∃ n I ds, Sim0 W H I n I H ∧ RepA ⟨W, H, I⟩ I H ms vs ds ∧
  AllB (F ds) n (fun n' d => ∀ v I' H', Sim0 W H I n' I' H' → RepM .fr ⟨W, H, I⟩ [] ad0 I' H' v d → Q v H') (fun n' c d => ∀ cls dx I' H', Sim0 W H I n' I' H' → ExcR W I' c d cls dx → E cls dx H')
/-- the same, a new container is given -/
theorem tS_startF {N : List Str} {s : Env → M (Fl × Env)} {vs : List V} {H : Hp} {Q : VK} {E : XK} (hms : ms.length ≤ N.length) (h : SpDF W ms (fun ds => runN N.length s (slots ms ds)) vs H Q E) :
    ∃ I, tS ⟨W, H, I⟩ (exE W E) s { nx := fun _ H' => Q .non H', rt := Q } (L2.start N vs) H := by
  obtain ⟨n, I, ds, S, ra, q⟩ := h
  refine ⟨I, n, slots ms ds ++ List.replicate (N.length - (slots ms ds).length) .no, ad0, I, Sim.args hms S ra, ?_⟩
  have q := allB_runF (show AllB (runF (s (slots ms ds ++ List.replicate (N.length - (slots ms ds).length) .no))) n _ _ from q)
  refine q.mono (fun n' r q1 => ?_) fun n' c d z => z
  obtain ⟨fl, env'⟩ := r
  cases fl with
  | nx => exact False.elim q1
  | brk => exact False.elim q1
  | cnt => exact False.elim q1
  | rt d => exact False.elim q1
  | rtF d =>
    intro ad' σ' I' H' v S' i r
    obtain ⟨a, h1, h2, h3, h4, h5, h6⟩ := r
    exact (show ∀ v I' H', Sim0 W H I n' I' H' → RepM .fr ⟨W, H, I⟩ [] ad0 I' H' v d → Q v H' from q1) v I' H' S'.bare ⟨a, h1, h2, h3, h4, h5, fun i e h => by simp at h⟩
  | exc c d => exact fun ad' σ' I' H' S' i cls dx r => (show ∀ cls dx I' H', Sim0 W H I n' I' H' → ExcR W I' c d cls dx → E cls dx H' from q1) cls dx I' H' S'.bare r
/-- a def keeps its promise, by its body -/
theorem fn_body {P : Program} {w : World} {K : PySem.W.Frag} {mg : Str → Option Value} {base : Heap} {x qual : Str} {st : Stmt} {f : Addr} {fd : FuncData} {N ps : List Str} {k : Nat} {s : Env → M (Fl × Env)} (F : FunT K x qual st f fd) (S : FnScope N ps (defScope st)) (hl : ps.length = ms.length) (hn : ms.length ≤ N.length)
    (hbody : ∀ (cdv : Value) (A : Around) (outer : List PySem.Env) (s' : Shared) (H : Hp) (E : XK) (I : Hp), A.guards = some [] → Room k (A.deeper (PyProof.Rows.envOfC qual (defScope st) s'.heap.objs.size f cdv)) →
      PMB ⟨W, H, I⟩ (exE W E) (cxOf (L2.CX P w) P w K mg base N qual (defScope st) f cdv A outer s' H E) (defBody st) s) : FnG P w K mg base (L2.CX P w) (k + 1) f fd ps (SpD W ms fun ds => run N.length s (slots ms ds)) :=
  funG F S (fun vs H Q E h => by
    obtain ⟨n, I, ds, _, ra, _⟩ := h
    rw [ra.len.1, hl]) fun cdv A outer s' H vs Q E hg hr h => by
    obtain ⟨I, q⟩ := tS_start hn h
    exact ⟨_, hbody cdv A outer s' H E I hg hr, q⟩
/-- a def keeps its promise, by its body: a new container -/
theorem fn_bodyF {P : Program} {w : World} {K : PySem.W.Frag} {mg : Str → Option Value} {base : Heap} {x qual : Str} {st : Stmt} {f : Addr} {fd : FuncData} {N ps : List Str} {k : Nat} {s : Env → M (Fl × Env)} (F : FunT K x qual st f fd) (S : FnScope N ps (defScope st)) (hl : ps.length = ms.length) (hn : ms.length ≤ N.length)
    (hbody : ∀ (cdv : Value) (A : Around) (outer : List PySem.Env) (s' : Shared) (H : Hp) (E : XK) (I : Hp), A.guards = some [] → Room k (A.deeper (PyProof.Rows.envOfC qual (defScope st) s'.heap.objs.size f cdv)) →
      PMB ⟨W, H, I⟩ (exE W E) (cxOf (L2.CX P w) P w K mg base N qual (defScope st) f cdv A outer s' H E) (defBody st) s) : FnG P w K mg base (L2.CX P w) (k + 1) f fd ps (SpDF W ms fun ds => runN N.length s (slots ms ds)) :=
  funG F S (fun vs H Q E h => by
    obtain ⟨n, I, ds, _, ra, _⟩ := h
    rw [ra.len.1, hl]) fun cdv A outer s' H vs Q E hg hr h => by
    obtain ⟨I, q⟩ := tS_startF hn h
    exact ⟨_, hbody cdv A outer s' H E I hg hr, q⟩
theorem SpD.imp {F G : List D → M D} (h : ∀ ds n (P : Nat → D → Prop) (E : Nat → Nat → D → Prop), AllB (G ds) n P E → AllB (F ds) n P E) (vs : List V) (H : Hp) (Q : VK) (E : XK) (q : SpD W ms G vs H Q E) : SpD W ms F vs H Q E := by
  obtain ⟨n, I, ds, S, ra, q⟩ := q
  exact ⟨n, I, ds, S, ra, h ds n _ _ q⟩
/-- the same by equal functions -/
theorem FnG.eqF {P : Program} {w : World} {K : PySem.W.Frag} {mg : Str → Option Value} {base : Heap} {CX : CXT} {k : Nat} {f : Addr} {fd : FuncData} {ps : List Str} {F G : List D → M D} (h : FnG P w K mg base CX k f fd ps (SpD W ms F)) (e : ∀ ds, F ds = G ds) : FnG P w K mg base CX k f fd ps (SpD W ms G) := by
  have e : F = G := funext e
  rw [← e]
  exact h

/-! ### calls -/
theorem RepA.ctx {C' : Ctx} {I H : Hp} (hW : C'.W = C.W) : ∀ {ms : List Md} {vs : List V} {ds : List D}, (ms.all fun m => decide (m = .val ∨ m = .rd)) = true → RepA C I H ms vs ds → RepA C' I H ms vs ds
  | [], [], [], _, _ => trivial
  | m :: ms, v :: vs, d :: ds, h, ⟨h1, h2, h3⟩ => by
    rw [List.all_cons, Bool.and_eq_true] at h
    refine ⟨h1, ?_, RepA.ctx hW h.2 h3⟩
    have hm := of_decide_eq_true h.1
    cases m with
    | val => show Rep C'.W I v d; rw [hW]; exact h2
    | rd => show Rep C'.W I v d ∨ _; rw [hW]; exact h2
    | st => rcases hm with z | z <;> cases z
    | fr => rcases hm with z | z <;> cases z
theorem RepA.append {I H : Hp} {vs2 : List V} {ds2 : List D} {ms2 : List Md} (r2 : RepA C I H ms2 vs2 ds2) : ∀ {ms : List Md} {vs : List V} {ds : List D}, RepA C I H ms vs ds → RepA C I H (ms ++ ms2) (vs ++ vs2) (ds ++ ds2)
  | [], [], [], _ => r2
  | m :: ms, v :: vs, d :: ds, ⟨h1, h2, h3⟩ => ⟨h1, h2, RepA.append r2 h3⟩
theorem Sim.enter {n : Nat} {env : Env} {ad : Nat → Addr} {σ : L2.St} {I H : Hp} (S : Sim C n env ad σ I H) : Sim0 C.W H I n I H := S.inner.bare
/-- a call of a def: its promise from the caller's state -/
theorem call_in {F : List D → M D} {n : Nat} {env : Env} {ad : Nat → Addr} {σ : L2.St} {I H : Hp} {Q : VK} {vs : List V} {ds : List D} (hms : (ms.all fun m => decide (m = .val ∨ m = .rd)) = true) (S : Sim C n env ad σ I H) (ra : RepA C I H ms vs ds) (q : AllB (F ds) n (Po .val C env ad σ I H Q) (Pe C ex env ad σ I H)) :
    SpD C.W ms F vs H Q (WE (wxOf C ex) σ) := by
  refine ⟨n, I, ds, S.enter, RepA.ctx (C := C) (C' := ⟨C.W, H, I⟩) rfl hms ra, q.mono (fun n' d z v I' H' S' r => ?_) fun n' c d z cls dx I' H' S' r => ?_⟩
  · exact z v I' H' (S.ret S') S'.i0 S'.base r
  · exact ⟨n', c, d, env, ad, I', S.ret S', r, z I' H' (S.ret S') S'.i0 S'.base⟩
/-- a call that gives a new container -/
theorem call_inF {F : List D → M D} {n : Nat} {env : Env} {ad : Nat → Addr} {σ : L2.St} {I H : Hp} {Q : VK} {vs : List V} {ds : List D} (hms : (ms.all fun m => decide (m = .val ∨ m = .rd)) = true) (S : Sim C n env ad σ I H) (ra : RepA C I H ms vs ds) (q : AllB (F ds) n (Po .fr C env ad σ I H Q) (Pe C ex env ad σ I H)) :
    SpDF C.W ms F vs H Q (WE (wxOf C ex) σ) := by
  refine ⟨n, I, ds, S.enter, RepA.ctx (C := C) (C' := ⟨C.W, H, I⟩) rfl hms ra, q.mono (fun n' d z v I' H' S' r => ?_) fun n' c d z cls dx I' H' S' r => ?_⟩
  · obtain ⟨a, h1, h2, h3, h4, h5, h6⟩ := r
    have h5 : H a = none := h5
    refine z v I' H' (S.ret S') S'.i0 S'.base ⟨a, h1, h2, h3, h4, ?_, fun i e h => ?_⟩
    · cases hb : C.B a with
      | none => rfl
      | some u => have := S.base a u h2 hb; rw [h5] at this; cases this
    · obtain ⟨_, g2, _⟩ := S.so i e h
      obtain ⟨u, hu⟩ := g2.there
      exact ne_of_none hu h5
  · exact ⟨n', c, d, env, ad, I', S.ret S', r, z I' H' (S.ret S') S'.i0 S'.base⟩
theorem pm_call {F : List D → M D} {k : Nat} {f : Addr} {fd : FuncData} {ps : List Str} {x : Str} {p : Pos} (hW : C.W = W) (hF : FnG X.prog X.w X.K X.mg X.base (L2.CX X.prog X.w) k f fd ps (SpD W ms F)) (tk : Takes X (wxOf C ex)) (hgd : X.A.guards = some []) (hr : Room k X.A) (hg : Gl X x) (hm : X.mg x = some (.ref f)) (hk : PySem.W.keepIn X.K (.ref f) = true)
    (hb : L2.Binds X.K fd ps []) (ha : PMA ms C ex X (e :: es) fs) (hms : (ms.all fun m => decide (m = .val ∨ m = .rd)) = true := by rfl) (hdb : (x == ("__debug__" : Str)) = false := by decide) (he : starEach (e :: es) X.env = (false, eval e X.env) :: starEach es X.env := by rfl) (hpl : (backTo pos (starEach es X.env)).any (·.1) = false := by rfl) :
    PM .val C ex X (.Call (.Name x p) (e :: es) [] pos) (eCall F fs) := by
  subst hW
  exact PE_imp (pe_callG (dvs := []) hF hgd hr hg hm hk hb .nil (fun σ => passAt tk σ) ha hdb he hpl) fun σ H Q q => by
    obtain ⟨n, env, ad, I, S, q⟩ := q
    have q : AllB (fs env >>= F) n (Po .val C env ad σ I H Q) (Pe C ex env ad σ I H) := q
    rw [allB_bind] at q
    refine ⟨n, env, ad, I, S, q.mono (fun n1 ds q1 => ?_) (fun _ _ _ k => k)⟩
    intro vs I1 H1 s1 i1 x1 r1
    rw [List.append_nil]
    exact call_in hms s1 r1 (q1.mono (fun _ _ k => k.mono i1 x1) fun _ _ _ k => k.mono i1 x1)
theorem pm_call0 {F : List D → M D} {k : Nat} {f : Addr} {fd : FuncData} {x : Str} {p : Pos} (hW : C.W = W) (hF : FnG X.prog X.w X.K X.mg X.base (L2.CX X.prog X.w) k f fd [] (SpD W [] F)) (tk : Takes X (wxOf C ex)) (hgd : X.A.guards = some []) (hr : Room k X.A) (hg : Gl X x) (hm : X.mg x = some (.ref f)) (hk : PySem.W.keepIn X.K (.ref f) = true)
    (hb : L2.Binds X.K fd [] []) (hdb : (x == ("__debug__" : Str)) = false := by decide) : PM .val C ex X (.Call (.Name x p) [] [] pos) (eCall F eNil) := by
  subst hW
  exact PE_imp (pe_callG0 (dvs := []) hF hgd hr hg hm hk hb .nil (fun σ => passAt tk σ) hdb) fun σ H Q q => by
    obtain ⟨n, env, ad, I, S, q⟩ := q
    exact call_in (ms := []) (vs := []) (ds := []) rfl S trivial q
theorem pm_callF {F : List D → M D} {k : Nat} {f : Addr} {fd : FuncData} {ps : List Str} {x : Str} {p : Pos} (hW : C.W = W) (hF : FnG X.prog X.w X.K X.mg X.base (L2.CX X.prog X.w) k f fd ps (SpDF W ms F)) (tk : Takes X (wxOf C ex)) (hgd : X.A.guards = some []) (hr : Room k X.A) (hg : Gl X x) (hm : X.mg x = some (.ref f)) (hk : PySem.W.keepIn X.K (.ref f) = true)
    (hb : L2.Binds X.K fd ps []) (ha : PMA ms C ex X (e :: es) fs) (hms : (ms.all fun m => decide (m = .val ∨ m = .rd)) = true := by rfl) (hdb : (x == ("__debug__" : Str)) = false := by decide) (he : starEach (e :: es) X.env = (false, eval e X.env) :: starEach es X.env := by rfl) (hpl : (backTo pos (starEach es X.env)).any (·.1) = false := by rfl) :
    PM .fr C ex X (.Call (.Name x p) (e :: es) [] pos) (eCall F fs) := by
  subst hW
  exact PE_imp (pe_callG (dvs := []) hF hgd hr hg hm hk hb .nil (fun σ => passAt tk σ) ha hdb he hpl) fun σ H Q q => by
    obtain ⟨n, env, ad, I, S, q⟩ := q
    have q : AllB (fs env >>= F) n (Po .fr C env ad σ I H Q) (Pe C ex env ad σ I H) := q
    rw [allB_bind] at q
    refine ⟨n, env, ad, I, S, q.mono (fun n1 ds q1 => ?_) (fun _ _ _ k => k)⟩
    intro vs I1 H1 s1 i1 x1 r1
    rw [List.append_nil]
    exact call_inF hms s1 r1 (q1.mono (fun _ _ k => k.mono i1 x1) fun _ _ _ k => k.mono i1 x1)
theorem pm_callF0 {F : List D → M D} {k : Nat} {f : Addr} {fd : FuncData} {x : Str} {p : Pos} (hW : C.W = W) (hF : FnG X.prog X.w X.K X.mg X.base (L2.CX X.prog X.w) k f fd [] (SpDF W [] F)) (tk : Takes X (wxOf C ex)) (hgd : X.A.guards = some []) (hr : Room k X.A) (hg : Gl X x) (hm : X.mg x = some (.ref f)) (hk : PySem.W.keepIn X.K (.ref f) = true)
    (hb : L2.Binds X.K fd [] []) (hdb : (x == ("__debug__" : Str)) = false := by decide) : PM .fr C ex X (.Call (.Name x p) [] [] pos) (eCall F eNil) := by
  subst hW
  exact PE_imp (pe_callG0 (dvs := []) hF hgd hr hg hm hk hb .nil (fun σ => passAt tk σ) hdb) fun σ H Q q => by
    obtain ⟨n, env, ad, I, S, q⟩ := q
    exact call_inF (ms := []) (vs := []) (ds := []) rfl S trivial q
end
end PD

set_option Elab.async false
set_option linter.all false
set_option maxRecDepth 100000
set_option maxHeartbeats 4000000
/-! PDTry: except C as n, where the error stays at hand behind the suite (turned from the hand layer's rule for except .. as ..). -/
namespace PDL
open PySem PySem.Spec L2 PyProof.Rows
theorem xcO_ok {P : Program} {w : World} {H : Hp} {h : Heap} {a : Addr} {cls : Value} {d : Option Addr} {oe : Obj} {vs : Array Value} (e : h.get? a = some oe) (z : Zc cls d oe) (hd : oe.data = .fields vs) : ObjOk P w H h a (XcO cls d a) :=
  ⟨⟨oe, vs, e, z, hd⟩, ⟨oe, e⟩, fun _ _ ⟨o, v, q, r⟩ k => ⟨o, v, k o q, r⟩⟩
/-- an object that stands there, not tracked so far, is tracked from now on -/
theorem _root_.L2.Inv.track {X : Cx} {pins : List (Addr × Obj)} {σ : L2.St} {H : Hp} {s : Shared} {a : Addr} {oe : Obj} {o : HO} (I : Inv X pins σ H s) (g1 : s.heap.get? a = some oe) (hn : H a = none) (n0 : X.s_0.heap.get? a = none) (nL : a ≠ X.env.locals) (hc : ∀ v, oe.data ≠ .cell v)
    (np : ∀ p ∈ X.pn ++ pins, p.1 ≠ a) (new : ObjOk X.prog X.w (upd H a o) s.heap a o) : Inv X pins σ (upd H a o) s := by
  refine ⟨I.ok, I.os, I.bare, ⟨I.base.keep, I.base.slot, fun bₜ u e n hx => ?_, I.base.there, fun bₜ xsₜ e => ?_, fun bₜ u v e => ?_, fun bₜ ps e => ?_⟩, I.loc, I.cell, ?_, fun x c e => ?_, fun p hp => ?_, HOk.laidN I.hok (fun _ _ qₜ => qₜ) hn new, I.len⟩
  · rw [upd_ne (fun z => by rw [z, n0] at e; cases e)]
    exact I.base.free bₜ u e n hx
  · have qₜ := I.base.tups bₜ xsₜ e
    rw [upd_ne (ne_of_none qₜ hn)]
    exact qₜ
  · have qₜ := I.base.frzs bₜ u v e
    rw [upd_ne (ne_of_none qₜ hn)]
    exact qₜ
  · obtain ⟨mₜ, qₜ⟩ := I.base.tbls bₜ ps e
    exact ⟨mₜ, by rw [upd_ne (ne_of_none qₜ hn)]; exact qₜ⟩
  · rw [upd_ne (Ne.symm nL)]
    exact I.free
  · rw [upd_ne (fun z => ?_)]
    · exact I.freeC x c e
    · obtain ⟨v, oc, h1, h2⟩ := I.cell x c e
      rw [z, g1] at h1
      cases h1
      exact hc _ h2
  · obtain ⟨h1, h2, h3⟩ := I.pin p hp
    exact ⟨h1, by rw [upd_ne (np p hp)]; exact h2, h3⟩
/-- what 'except x as n' wishes, the error tracked behind the suite -/
def wAsK (K : PySem.W.Frag) (c : Value) (i : Nat) (ts : Addr → Value → Option Addr → TS) (Wout : WX) (D : Ends) : WX := fun cls d σ H =>
  ∃ b, PySem.W.exmOne K cls c = some b ∧ (b = true → ∀ a, H a = none → ts a cls d { nx := fun σ' H' => D.nx (σ'.set i none) (upd H' a (XcO cls d a)), rt := fun v H' => D.rt v (upd H' a (XcO cls d a)), bk := fun σ' H' => D.bk (σ'.set i none) (upd H' a (XcO cls d a)), ct := fun σ' H' => D.ct (σ'.set i none) (upd H' a (XcO cls d a)) } (σ.set i (some (.ref a))) H) ∧
    (b = false → Wout cls d σ H)
section
variable {X : Cx} {x n : Str} {c : Value} {i : Nat} {pos pos' np : Pos} {body suite : List Stmt} {b₀ : Stmt} {tb : WX → TS} {ts : Addr → Value → Option Addr → TS} {Wout : WX}
theorem ps_try_keep (hs : X.stack = X.env :: X.outer) (hf : X.env.frame = some X.env.locals) (hex : X.ex = []) (hN : X.N.Nodup) (hi : X.N[i]? = some n) (hln : X.env.kindOf n = some .local) (hcₜ : Names X x c) (tkₜ : Takes X Wout)
    (hbₜ : ∀ (W : WX) (pn : List (Addr × Obj)) (xe : Value → Shared → Prop), Takes (X.tr pn xe) W → PassesOwn (model X.prog X.w) X.A X.env xe → PSs (X.tr pn xe) body (tb W))
    (hsuₜ : ∀ (a : Addr) (oe : Obj) (cls : Value) (d : Option Addr) (pn : List (Addr × Obj)), Zc cls d oe → (∃ vs, oe.data = .fields vs) → PSs (X.suite a ((a, oe) :: pn)) (b₀ :: suite) (ts a cls d)) :
    PS X (.Try body [.ExceptHandler (some (.Name x np)) (some n) (b₀ :: suite) pos'] [] [] pos) (fun D σ H => tb (wAsK X.K c i ts Wout D) D σ H) := by
  refine ⟨fun pins s σ H D Iₜ h => ?_⟩
  have okₜ := Iₜ.ok
  have hfrₜ : X.A.frames = some (X.env :: X.outer) := by rw [okₜ.frames, hs]
  have hlocₜ : Loc X.env.scope n := .inl hln
  refine wpAny_Try_except ?_
  refine wpAny_mono ((hbₜ (wAsK X.K c i ts Wout D) (X.pn ++ pins) (fun e s₁ => wpAny (model X.prog X.w) X.A (noteFrame e X.env) (fun _ s₂ => wpAny (model X.prog X.w) X.A (setFlight e none) (fun _ s₃ =>
    wpAny (model X.prog X.w) X.A (handleBy e X.env [.ExceptHandler (some (.Name x np)) (some n) (b₀ :: suite) pos']) (SP X pins D) X.xe s₃) X.xe s₂) X.xe s₁) (fun u s' xxₜ => ?_) PassesOwn.looking).run [] s σ H D (Iₜ.toTry _) h) (fun fₜ s1ₜ hspₜ => ?_) (fun e s1ₜ heₜ => heₜ)
  · -- the catch
    obtain ⟨a, Bₜ, sIₜ, pinsₜ', σ', H', cls, d, rfl, Jₜ', nbₜ, upₜ, skyₜ, naₜ, osₜ, agₜ, b, hb1ₜ, hyesₜ, hnoₜ⟩ := xxₜ
    have Jₜ : Inv X pins σ' H' sIₜ := Jₜ'.ofTry okₜ
    have skyₜ' : Sky Bₜ (X.env :: X.outer) a (Zc cls d) X.env.locals s'.heap := by rw [← hs]; exact skyₜ
    show wpAny (model X.prog X.w) X.A (noteFrame (Value.ref a) X.env) _ _ _
    refine Sky.land Zc.steady hfrₜ hf skyₜ' fun h3ₜ fl3ₜ up3ₜ => ?_
    have J3ₜ : Inv X pins σ' H' { s' with heap := h3ₜ } := Jₜ.landed nbₜ fl3ₜ.1 (upₜ.trans up3ₜ) osₜ agₜ
    obtain ⟨oe3ₜ, vs3ₜ, he3ₜ, hz3ₜ, hd3ₜ⟩ := fl3ₜ.there
    have notFrₜ : ∀ {h : Heap} {o : Obj} {vs : Array Value}, h.FunFrames Bₜ (X.env :: X.outer) → h.get? a = some o → o.data = .fields vs → a ∉ frs (X.env :: X.outer) := fun {h o vs} ff e dd hmₜ => by
      obtain ⟨_, oₜ', eₜ', hnfₜ⟩ := ff.mem hmₜ
      rw [e] at eₜ'; cases eₜ'
      exact hnfₜ _ dd
    have nfrₜ := notFrₜ fl3ₜ.2.2.1 he3ₜ hd3ₜ
    have nLₜ : a ≠ X.env.locals := fun z => nfrₜ (List.mem_filterMap.mpr ⟨X.env, List.mem_cons_self, by rw [hf, z]⟩)
    have nFₜ : a ∉ X.fs := fun hmₜ => by
      obtain ⟨e, heₜ, q⟩ := List.mem_filterMap.mp hmₜ
      exact nfrₜ (List.mem_filterMap.mpr ⟨e, List.mem_cons_of_mem _ heₜ, q⟩)
    have S3ₜ := J3ₜ.suite he3ₜ hd3ₜ naₜ nLₜ nFₜ
    refine wpAny_handleBy_cons (codeAny_handlers_test ?_) (by intro z; cases z)
    have LTₜ : PySem.W.Looks (model X.prog X.w) h3ₜ (typeOf (.ref a)) cls := fun A Q E s k q => wpAny_typeOf_ref (k _ _ he3ₜ) (by rw [hz3ₜ.1]; exact q)
    have LMₜ := PySem.W.exm_one (M := model X.prog X.w) (J3ₜ.kIn) LTₜ hb1ₜ
    have testₜ : ∀ {Q : Value → Shared → Prop} {E : Value → Shared → Prop}, Q c { s' with heap := h3ₜ } → wpAny (model X.prog X.w) (X.A.mark (some (.ref a))) (eval (.Name x np) X.env) Q E { s' with heap := h3ₜ } := fun {Q E} q => by
      obtain ⟨hgₜ, hdbgₜ, hmₜ | ⟨hmₜ, hvₜ, hnnₜ⟩⟩ := hcₜ
      · exact ld_glob (X := X.suite a ((a, oe3ₜ) :: (X.pn ++ pins))) S3ₜ hgₜ hmₜ q hdbgₜ
      · exact ld_blt (X := X.suite a ((a, oe3ₜ) :: (X.pn ++ pins))) S3ₜ hgₜ hmₜ hvₜ q hnnₜ hdbgₜ
    refine testₜ (LMₜ.here ?_)
    cases b with
    | true =>
      refine (codeAny_handlers_suite_as ?_)
      refine HandSPX.lands_againZ fl3ₜ fun h4ₜ fl4ₜ up4ₜ => ?_
      have J4ₜ : Inv X pins σ' H' { s' with heap := h4ₜ } := Jₜ.landed nbₜ fl4ₜ.1 ((upₜ.trans up3ₜ).trans up4ₜ) osₜ agₜ
      obtain ⟨oe4ₜ, vs4ₜ, he4ₜ, hz4ₜ, hd4ₜ⟩ := fl4ₜ.there
      have S4ₜ := J4ₜ.suite he4ₜ hd4ₜ naₜ nLₜ nFₜ
      refine store_ok (X := X.suite a ((a, oe4ₜ) :: (X.pn ++ pins))) (v := .ref a) S4ₜ hN hi hlocₜ rfl (fun s5ₜ S5ₜ => ?_) (.inr hln)
      refine wpAny_mono ((hsuₜ a oe4ₜ cls d (X.pn ++ pins) hz4ₜ ⟨_, hd4ₜ⟩).run [] s5ₜ _ H' _ S5ₜ (hyesₜ rfl a naₜ)) (fun fₜ s6ₜ hspₜ => ?_) (fun _ _ z => False.elim z)
      have P6 : ∀ {σ6 : L2.St} {H6 : Hp}, Inv (X.suite a ((a, oe4ₜ) :: (X.pn ++ pins))) [] σ6 H6 s6ₜ → Inv X (pins ++ [(a, oe4ₜ)]) σ6 H6 s6ₜ := fun {σ6 H6} S6ₜ => (S6ₜ.unsuite (pins := pins) okₜ).pins_of fun p hpₜ => by
        rcases List.mem_append.mp hpₜ with h | h
        · exact S6ₜ.pin p (List.mem_append_left _ (List.mem_cons_of_mem _ (List.mem_append_right _ h)))
        · exact S6ₜ.pin p (List.mem_append_left _ (by rw [List.mem_singleton.mp h]; exact List.mem_cons_self))
      have nI : sIₜ.heap.get? a = none := by
        cases e0 : sIₜ.heap.get? a with
        | none => rfl
        | some o0 =>
          have z := nbₜ a o0 e0 (by rw [hs]; exact nfrₜ)
          rw [fl4ₜ.2.1] at z
          cases z
      have n0ₜ : X.s_0.heap.get? a = none := by
        cases e0 : X.s_0.heap.get? a with
        | none => rfl
        | some o0 =>
          obtain ⟨o1, e1⟩ := Jₜ.base.there a o0 e0 (by rw [hex]; exact fun z => nomatch z)
          rw [nI] at e1
          cases e1
      have pinNot : ∀ p ∈ X.pn ++ pins, p.1 ≠ a := fun p hpₜ z => by
        have q := (Jₜ.pin p hpₜ).1
        rw [z, nI] at q
        cases q
      have end_ₜ : ∀ {σ6 : L2.St} {H6 : Hp} {Q : Shared → Prop}, Inv (X.suite a ((a, oe4ₜ) :: (X.pn ++ pins))) [] σ6 H6 s6ₜ → (∀ s7ₜ, Inv X pins (σ6.set i none) H6 s7ₜ → Inv X pins (σ6.set i none) (upd H6 a (XcO cls d a)) s7ₜ → Q s7ₜ) →
          wpAny (model X.prog X.w) X.A (do bindName X.env n .none; unbindBehindTheSuite X.env n pos') (fun _ s7ₜ => Q s7ₜ) X.xe s6ₜ := fun {σ6 H6 Q} S6ₜ hq => gone_ok (P6 S6ₜ) hN hi hln fun s7ₜ J7ₜ => by
        obtain ⟨g1, g2, g3, g4, g5⟩ := J7ₜ.pin (a, oe4ₜ) (List.mem_append_right _ (List.mem_append_right _ List.mem_cons_self))
        exact hq s7ₜ J7ₜ.unpinned (J7ₜ.unpinned.track g1 g2 n0ₜ g3 g5 pinNot (xcO_ok g1 hz4ₜ hd4ₜ))
      cases fₜ with
      | next =>
        obtain ⟨σ6, H6, S6ₜ, q6⟩ := hspₜ
        exact end_ₜ S6ₜ fun s7ₜ _ J7ₜ => ⟨_, _, J7ₜ, q6⟩
      | brk =>
        obtain ⟨σ6, H6, S6ₜ, q6⟩ := hspₜ
        exact end_ₜ S6ₜ fun s7ₜ _ J7ₜ => ⟨_, _, J7ₜ, q6⟩
      | cont =>
        obtain ⟨σ6, H6, S6ₜ, q6⟩ := hspₜ
        exact end_ₜ S6ₜ fun s7ₜ _ J7ₜ => ⟨_, _, J7ₜ, q6⟩
      | ret u =>
        obtain ⟨v6, σ6, H6, S6ₜ, r6, q6⟩ := hspₜ
        exact end_ₜ S6ₜ fun s7ₜ _ J7ₜ => ⟨_, _, _, J7ₜ, r6, q6⟩
    | false =>
      show wpAny _ X.A (handleBy (Value.ref a) X.env []) _ _ _
      refine wpAny_handleBy_nil ?_
      obtain ⟨k1, k2, k3, oe, vs, Tₜ, oT, ts', heₜ, hz, hdₜ, h1ₜ, hr⟩ := id fl3ₜ
      unfold PySem.passOn
      refine wpAny_bind (wpAny_field heₜ hdₜ h1ₜ ?_)
      rw [if_neg (show ¬ ((Value.ref Tₜ == Value.none) = true) from by simp)]
      have finₜ : wpAny (model X.prog X.w) X.A (setFlight (.ref a) X.env.frame) (fun _ s4 => wpAny (model X.prog X.w) X.A (throw (.ref a) : Sem Flow) (SP X pins D) X.xe s4) X.xe { s' with heap := h3ₜ } := by
        rw [hf]
        refine HandSPX.setFlight_upZ fl3ₜ fun h4ₜ hh4 up4ₜ => wpAny_throw (tkₜ _ _ ?_)
        exact ⟨a, Bₜ, sIₜ, pins, σ', H', cls, d, rfl, Jₜ, nbₜ, (upₜ.trans up3ₜ).trans up4ₜ, .inr (.inr (by rw [hs]; exact hh4)), naₜ, osₜ, agₜ, hnoₜ rfl⟩
      first
        | exact wpAny_bind (wpAny_pure (wpAny_bind finₜ))
        | exact wpAny_bind finₜ
  · cases fₜ with
    | next =>
      obtain ⟨σ', H', Jₜ', q⟩ := hspₜ
      exact wpAny_execs_nil ⟨σ', H', Jₜ'.ofTry okₜ, q⟩
    | brk =>
      obtain ⟨σ', H', Jₜ', q⟩ := hspₜ
      exact ⟨σ', H', Jₜ'.ofTry okₜ, q⟩
    | cont =>
      obtain ⟨σ', H', Jₜ', q⟩ := hspₜ
      exact ⟨σ', H', Jₜ'.ofTry okₜ, q⟩
    | ret u =>
      obtain ⟨v, σ', H', Jₜ', r, q⟩ := hspₜ
      exact ⟨v, σ', H', Jₜ'.ofTry okₜ, r, q⟩
end
end PDL

set_option Elab.async false
set_option linter.all false
set_option maxRecDepth 100000
set_option maxHeartbeats 4000000
/-! PDObj: attributes of own objects and of caught errors, properties, making objects, isinstance. -/
namespace PD
open PySem PySem.Spec L2 PDL

/-- e.f of an object of one of the classes cs -/
def fldM (cs : List Nat) (f : Str) : D → M D
  | .obj c fs => if cs.contains c then (match fs.lookup f with
    | some d => .ret d
    | none => .bad) else .bad
  | _ => .bad
def putD (f : Str) (d : D) : List (Str × D) → List (Str × D)
  | [] => [(f, d)]
  | (g, x) :: r => if g = f then (g, d) :: r else (g, x) :: putD f d r
/-- x.f = e, x held here -/
def sFld (i : Nat) (cs : List Nat) (f : Str) (g : Env → M D) : Env → M (Fl × Env) := fun e => match e[i]? with
  | some (.own (.obj c fs)) => if cs.contains c ∧ fs.length < 900 then tryB (g e) e fun d => .ret (.nx, e.set i (.own (.obj c (putD f d fs)))) else .bad
  | _ => .bad
/-- how an __init__ ends: the object in slot 0 -/
def runI : M (Fl × Env) → M D
  | .ret (.nx, e) => match (e[0]? : Option Slot) with
    | some (Slot.own (.obj c fs)) => .ret (.obj c fs)
    | _ => .bad
  | .ret (.rt .non, e) => match (e[0]? : Option Slot) with
    | some (Slot.own (.obj c fs)) => .ret (.obj c fs)
    | _ => .bad
  | .ret (.exc c d, _) => .raise c d
  | .ret _ => .bad
  | .bad => .bad
  | .raise _ _ => .bad
  | .draw l k => .draw l fun i => runI (k i)
def finI (P : Nat → D → Prop) (E : Nat → Nat → D → Prop) : Nat → Fl × Env → Prop := fun n r => match r with
  | (.nx, e) => ∃ c fs, e[0]? = some (Slot.own (.obj c fs)) ∧ P n (.obj c fs)
  | (.rt d, e) => d = .non ∧ ∃ c fs, e[0]? = some (Slot.own (.obj c fs)) ∧ P n (.obj c fs)
  | (.exc c d, _) => E n c d
  | _ => False
theorem allB_runI {m : M (Fl × Env)} {n : Nat} {P : Nat → D → Prop} {E : Nat → Nat → D → Prop} (h : AllB (runI m) n P E) : AllB m n (finI P E) fun _ _ _ => False := by
  induction m generalizing n with
  | ret a =>
    obtain ⟨fl, e⟩ := a
    cases fl with
    | nx =>
      unfold runI at h
      split at h
      · rename_i c fs hd
        exact ⟨c, fs, hd, h⟩
      · exact False.elim h
    | rt d =>
      cases d with
      | non =>
        unfold runI at h
        split at h
        · rename_i c fs hd
          exact ⟨rfl, c, fs, hd, h⟩
        · exact False.elim h
      | _ => exact False.elim h
    | rtF d => exact h
    | brk => exact h
    | cnt => exact h
    | exc c d => exact h
  | bad => exact h
  | raise c d => exact h
  | draw l k ih =>
    obtain ⟨h1, h2, n', e, h3⟩ := h
    exact ⟨h1, h2, n', e, fun i a b => ih i (h3 i a b)⟩
/-- no object is lent -/
def okIn : List Md → List D → Bool
  | .val :: ms, _ :: ds => okIn ms ds
  | _ :: _, .obj _ _ :: _ => false
  | _ :: ms, _ :: ds => okIn ms ds
  | _, _ => true
theorem okIn_get {c : Nat} {fs : List (Str × D)} : ∀ {ms : List Md} {ds : List D} {i : Nat} {m : Md}, okIn ms ds = true → ms[i]? = some m → ds[i]? = some (.obj c fs) → m = .val
  | [], _, _, _, _, h, _ => by simp at h
  | _ :: _, [], _, _, _, _, h => by simp at h
  | m :: ms, d :: ds, 0, m', hk, h1, h2 => by
    simp at h1 h2
    subst h1; subst h2
    cases m <;> first | rfl | cases hk
  | m :: ms, d :: ds, i + 1, m', hk, h1, h2 => by
    have hk' : okIn ms ds = true := by
      cases m <;> cases d <;> first | exact hk | cases hk
    exact okIn_get hk' (by simpa using h1) (by simpa using h2)
def runIn (n c : Nat) (s : Env → M (Fl × Env)) (ms : List Md) (ds : List D) : M D := if okIn ms ds then runI (s (.own (.obj c []) :: slots ms ds ++ List.replicate (n - ((slots ms ds).length + 1)) .no)) else .bad
section
variable {C : Ctx} {ex : Ex} {X : Cx} {e : Expr} {es : List Expr} {f g : Env → M D} {fs : Env → M (List D)} {pos : Pos} {m : Md} {ms : List Md} {W : Wd}

/-! ### attributes -/
structure FldI (K : PySem.W.Frag) (W : Wd) (cs : List Nat) (f : Str) : Prop where
  ok : ∀ c ∈ cs, W.isX c = false ∧ Cls K (W.cls c) ∧ NoAttr K (W.cls c) f
theorem cs_mem {cs : List Nat} {c : Nat} (h : cs.contains c = true) : c ∈ cs := by simpa using h
theorem fldM_in {cs : List Nat} {nm : Str} {d : D} {n : Nat} {P : Nat → D → Prop} {E : Nat → Nat → D → Prop} (q : AllB (fldM cs nm d) n P E) : ∃ c ds d', d = .obj c ds ∧ c ∈ cs ∧ ds.lookup nm = some d' ∧ P n d' := by
  cases d with
  | obj c ds =>
    obtain ⟨hc, q⟩ := allB_ite (show AllB (if _ then _ else .bad) _ _ _ from q)
    cases hl : ds.lookup nm with
    | none => rw [hl] at q; exact False.elim q
    | some d' => rw [hl] at q; exact ⟨c, ds, d', rfl, cs_mem hc, hl, q⟩
  | _ => exact False.elim q
theorem pm_fld {nm : Str} {cs : List Nat} (T : FldI X.K C.W cs nm) (ha : PM .rd C ex X e f) (hb : attributeBase e nm X.env (eval e X.env) = eval e X.env := by rfl) : PM .val C ex X (.Attribute e nm pos) (e1 (fldM cs nm) f) :=
  PE_imp (pe_fld ha hb) fun σ H Q q => by
    obtain ⟨n, env, ad, I, S, q⟩ := q
    have q : AllB (f env >>= fldM cs nm) n (Po .val C env ad σ I H Q) (Pe C ex env ad σ I H) := q
    rw [allB_bind] at q
    refine ⟨n, env, ad, I, S, q.mono (fun n1 d q1 => ?_) fun _ _ _ k => k⟩
    intro v1 I1 H1 s1 i1 x1 r1
    obtain ⟨c, ds, d', rfl, hc, hl, q2⟩ := fldM_in q1
    obtain ⟨hx, hC, hN⟩ := T.ok c hc
    obtain ⟨a, rfl, ⟨_, dx, vs, h, r⟩ | ⟨hx', _⟩⟩ := r1.obj s1
    · obtain ⟨v, h1, h2⟩ := r.lookup hl
      exact ⟨a, _, dx, vs, v, rfl, h, hC, hN, h1, q2 v I1 H1 s1 i1 x1 h2⟩
    · rw [hx] at hx'; cases hx'
/-- an attribute of a caught error -/
structure FldX (K : PySem.W.Frag) (W : Wd) (cs : List Nat) (f : Str) : Prop where
  ok : ∀ c ∈ cs, W.isX c = true ∧ XfC K (W.cls c) ∧ PySem.W.findIn K (.ref (W.cls c)) f = some none
theorem pm_fldX {nm : Str} {cs : List Nat} (T : FldX X.K C.W cs nm) (ha : PM .rd C ex X e f) (hb : attributeBase e nm X.env (eval e X.env) = eval e X.env := by rfl) : PM .val C ex X (.Attribute e nm pos) (e1 (fldM cs nm) f) := by
  refine ⟨fun pins s σ H Q Iv q => ?_⟩
  obtain ⟨n, env, ad, I, S, q⟩ := q
  have q : AllB (f env >>= fldM cs nm) n (Po .val C env ad σ I H Q) (Pe C ex env ad σ I H) := q
  rw [allB_bind] at q
  refine attr_of hb (thn (ha.run pins s σ H (fun x H1 => ∃ n1 d I1, Sim C n1 env ad σ I1 H1 ∧ Sub I I1 ∧ SameX C.W.S H H1 ∧ RepM .rd C env ad I1 H1 x d ∧ AllB (fldM cs nm d) n1 (Po .val C env ad σ I H Q) (Pe C ex env ad σ I H)) Iv ⟨n, env, ad, I, S, q.mono (fun n1 d q1 => ?_) fun _ _ _ k => k⟩) fun u s1 h1 => ?_)
  · exact fun v I1 H1 S1 i1 x1 r1 => ⟨n1, d, I1, S1, i1, x1, r1, q1⟩
  · obtain ⟨x, H1, Iv1, rv, n1, d, I1, S1, i1, x1, r1, q1⟩ := h1
    obtain ⟨c, ds, d', rfl, hc, hl, q2⟩ := fldM_in q1
    obtain ⟨hx, T1, hno⟩ := T.ok c hc
    obtain ⟨a, rfl, ⟨hx', _⟩ | ⟨_, dx, vs, h, hd, r⟩⟩ := r1.obj S1
    · rw [hx] at hx'; cases hx'
    · obtain rfl : u = Value.ref a := rv
      obtain ⟨v, h1, h2⟩ := r.lookup hl
      rcases hd with ⟨rfl, rfl⟩ | ⟨dd, rfl, hdd⟩
      · cases h1
      · obtain ⟨⟨oe, ws, ha', hz, hf⟩, _⟩ := Iv1.hok a _ h
        obtain ⟨mA, hns, hr⟩ := (show ObjOk X.prog X.w H1 s1.heap dd (.xd vs) from Iv1.hok dd _ hdd)
        obtain ⟨od, ho, hl'⟩ := lookIn_ns hns
        obtain ⟨u, hu, ru⟩ := RelO.some_of (v := v) (o := mA nm) (by rw [← h1]; exact hr nm)
        have J : PySem.W.InstAt s1.heap a oe (C.W.cls c) (some od) := ⟨ha', hz.1, by unfold PySem.W.notCls; rw [hf] <;> rfl, by rw [hz.2]; exact ho⟩
        exact HandSPX.exc_get Iv1.kIn J T1.ga T1.gg T1.exC (PySem.W.findObj_own T1.hdC hno rfl (by rw [hl', hu])) (handed_of ru) ⟨v, H1, Iv1.tok _, ru, q2 v I1 H1 S1 i1 x1 h2⟩

/-! ### x.f = e -/
theorem RepF.put {W : Wd} {I : Hp} {f : Str} {v : V} {d : D} (r1 : Rep W I v d) : ∀ {vs : List (Str × V)} {ds : List (Str × D)}, RepF W I vs ds → RepF W I (putF f v vs) (putD f d ds)
  | _, _, .nil => .cons r1 .nil
  | (k, x) :: vs, (_, d') :: ds, .cons a b => by
    by_cases e : k = f
    · simp only [putF, putD, e, if_true]
      exact .cons r1 b
    · simp only [putF, putD, e, if_false]
      exact .cons a (RepF.put r1 b)
theorem RepF.length {W : Wd} {I : Hp} : ∀ {vs : List (Str × V)} {ds : List (Str × D)}, RepF W I vs ds → vs.length = ds.length
  | _, _, .nil => rfl
  | _, _, .cons _ b => congrArg (· + 1) (RepF.length b)
theorem ms_fld {i : Nat} {x nm : Str} {cs : List Nat} {p2 pos' : Pos} (T : FldI X.K C.W cs nm) (hN : X.N[i]? = some x) (hv : Vis X.env.scope x) (he : PM .val C ex X e f) (hd : (x == ("__debug__" : Str)) = false := by decide) (hcd : (x == ("__classdict__" : Str)) = false := by decide)
    (hs : swapsWith e (some (.Attribute (.Name x p2) nm pos')) pos.line X.env = pure false := by rfl) : PMS C ex X (.Assign [.Attribute (.Name x p2) nm pos'] e pos) (sFld i cs nm f) :=
  PS_imp (ps_fld (pe_var hN hv hd hcd) he hs) fun Dn σ H q => by
    obtain ⟨n, env, ad, I, S, q⟩ := q
    have q : AllB (match env[i]? with | some (.own (.obj c fs)) => if cs.contains c ∧ fs.length < 900 then tryB (f env) env fun d => .ret (.nx, env.set i (.own (.obj c (putD nm d fs)))) else .bad | _ => .bad) n (PoS C ex Dn I) noE := q
    split at q
    · rename_i c ds h
      obtain ⟨hc, q⟩ := allB_ite q
      refine ⟨n, env, ad, I, S, tM_S S q fun n' d v I' H' S' i' x r q' => ?_⟩
      obtain ⟨h1, ⟨hx, dx, vs, h2, rf⟩, h3, h4, h5⟩ := S'.so i _ h
      obtain ⟨_, hC, hNo⟩ := T.ok c (cs_mem hc.1)
      refine ⟨_, h1, ad i, _, dx, vs, rfl, h2, hC, hNo, by rw [rf.length]; omega, ?_⟩
      exact (show PoS C ex Dn I' n' (.nx, env.set i (.own (.obj c (putD nm d ds)))) from q') ad σ I' _ (S'.lset h fun H2 e => ⟨hx, dx, _, e, rf.put r⟩) (Sub.refl _)
    · exact False.elim q

/-! ### making objects -/
def hide (H : Hp) (x : Addr) : Hp := fun b => if b = x then none else H b
theorem hide_ne {H : Hp} {x b : Addr} (h : b ≠ x) : hide H x b = H b := if_neg h
theorem hide_same {H : Hp} {x : Addr} : hide H x x = none := if_pos rfl
abbrev Wd.at (W : Wd) (x : Addr) : Wd := { W with me := some x }
/-- an __init__'s promise: F of the arguments is the object made -/
def SpI (W : Wd) (c : Nat) (ms : List Md) (F : List D → M D) : Sp := fun vs H Q E => ∃ x vs' dx n I ds, vs = .ref x :: vs' ∧ H x = some (.ins (W.cls c) dx []) ∧ NotS W.S x ∧ I x = none ∧ Sim0 W (hide H x) I n I H ∧ RepA ⟨W, hide H x, I⟩ I (hide H x) ms vs' ds ∧
  AllB (F ds) n (fun n' d => ∀ I' H', Sim ⟨W.at x, hide H x, I⟩ n' [.own d] (fun _ => x) [some (.ref x)] I' H' → Q .non H') (fun n' c d => ∀ cls dx I' H', Sim0 W (hide H x) I n' I' H' → ExcR W I' c d cls dx → E cls dx H')
theorem Sim.at0 {B I0 : Hp} {n : Nat} {I H : Hp} {x : Addr} (S : Sim0 (W.at x) B I0 n I H) : Sim0 W B I0 n I H := ⟨S.sub, S.i0, S.base, S.fresh, S.nos, S.src, S.len, fun i d h => by simp at h, fun i d h => by simp at h, fun i d h => by simp at h, fun i j d e h => by simp at h⟩
/-- an __init__'s body -/
theorem init_body {P : Program} {w : World} {K : PySem.W.Frag} {mg : Str → Option Value} {base : Heap} {x qual : Str} {st : Stmt} {f : Addr} {fd : FuncData} {N ps : List Str} {k c : Nat} {s : Env → M (Fl × Env)} (F : FunT K x qual st f fd) (S : FnScope N ps (defScope st)) (hl : ps.length = ms.length + 1) (hn : ms.length + 1 ≤ N.length) (hx : W.isX c = false)
    (hbody : ∀ (cdv : Value) (A : Around) (outer : List PySem.Env) (s' : Shared) (H : Hp) (E : XK) (B I : Hp) (p : Addr), A.guards = some [] → Room k (A.deeper (PyProof.Rows.envOfC qual (defScope st) s'.heap.objs.size f cdv)) →
      PMB ⟨W.at p, B, I⟩ (exE (W.at p) E) (cxOf (L2.CX P w) P w K mg base N qual (defScope st) f cdv A outer s' H E) (defBody st) s) : FnG P w K mg base (L2.CX P w) (k + 1) f fd ps (SpI W c ms fun ds => runIn N.length c s ms ds) :=
  funG F S (fun vs H Q E h => by
    obtain ⟨x, vs', dx, n, I, ds, rfl, _, _, _, _, ra, _⟩ := h
    rw [List.length_cons, ra.len.1, hl]) fun cdv A outer s' H vs Q E hg hr h => by
    obtain ⟨x, vs', dx, n, I, ds, rfl, hX, hN, hI, S0, ra, q⟩ := h
    refine ⟨_, hbody cdv A outer s' H E (hide H x) I x hg hr, ?_⟩
    have hlen := ra.len
    have hsl : (slots ms ds).length = ms.length := by unfold slots; rw [List.length_zipWith, hlen.2]; omega
    have cg : ∀ {I : Hp} {v : V} {d : D}, Rep W I v d → Rep (W.at x) I v d := fun r => Rep.cg (W := W) (W' := W.at x) rfl rfl rfl rfl r
    obtain ⟨hok, q⟩ := allB_ite (show AllB (if okIn ms ds then _ else .bad) _ _ _ from q)
    have get1 : ∀ {i : Nat} {v : V}, vs'[i]? = some v → (L2.start N (V.ref x :: vs'))[i + 1]? = some (some v) := fun {i v} h => by
      unfold L2.start
      rw [List.getElem?_append_left (by rw [List.length_map, List.length_cons]; exact Nat.succ_lt_succ (List.getElem?_eq_some_iff.mp h).1), List.getElem?_map, List.getElem?_cons_succ, h]
      rfl
    have own0 : ∀ {i : Nat} {d : D}, (Slot.own (.obj c []) :: slots ms ds ++ List.replicate (N.length - ((slots ms ds).length + 1)) .no)[i]? = some (Slot.own d) → i = 0 := fun {i d} h => by
      cases i with
      | zero => rfl
      | succ i =>
        rw [List.cons_append, List.getElem?_cons_succ] at h
        rcases slots_get h with ⟨m, d', h1, h2, h3⟩ | h3
        · cases m <;> cases h3
        · cases h3
    refine ⟨n, (.own (.obj c []) :: slots ms ds ++ List.replicate (N.length - ((slots ms ds).length + 1)) .no), fun _ => x, I, ⟨S0.sub, S0.i0, S0.base, S0.fresh, S0.nos, S0.src, ?_, fun i d h => ?_, fun i d h => ?_, fun i d h => ?_, fun i j d e h1 h2 _ => by rw [own0 h1, own0 h2]⟩, ?_⟩
    · unfold L2.start
      simp only [List.length_append, List.length_replicate, List.length_map, List.length_cons]
      omega
    · cases i with
      | zero => simp at h
      | succ i =>
        rw [List.cons_append, List.getElem?_cons_succ] at h
        rcases slots_get h with ⟨m, d', h1, h2, h3⟩ | h3
        · obtain ⟨hm, v, h4, h5⟩ := ra.get h1 h2
          cases m <;> simp only [slotOf] at h3 <;> first | cases h3 | skip
          exact ⟨v, get1 h4, cg h5⟩
        · cases h3
    · cases i with
      | zero => simp at h
      | succ i =>
        rw [List.cons_append, List.getElem?_cons_succ] at h
        rcases slots_get h with ⟨m, d', h1, h2, h3⟩ | h3
        · obtain ⟨hm, v, h4, h5⟩ := ra.get h1 h2
          have fin : m ≠ .val → (Rep W I v d' ∨ ∃ a, v = .ref a ∧ NotS W.S a ∧ Own W I (hide H x) a d') → Rep (W.at x) I v d' ∨ ∃ a, v = .ref a ∧ NotS W.S a ∧ Own (W.at x) I (hide H x) a d' := fun hm h5 => by
            rcases h5 with h5 | ⟨a, e, hNa, o⟩
            · exact .inl (cg h5)
            · refine .inr ⟨a, e, hNa, ?_⟩
              cases d' with
              | lst ds => obtain ⟨ws, h1, h2⟩ := o; exact ⟨ws, h1, RepL.cg (W := W) (W' := W.at x) rfl rfl rfl rfl h2⟩
              | dct ds => obtain ⟨ws, h1, h2⟩ := o; exact ⟨ws, h1, RepK.cg (W := W) (W' := W.at x) rfl rfl rfl rfl h2⟩
              | obj c' fs => exact absurd (okIn_get hok h1 h2) hm
              | _ => exact False.elim o
          cases m <;> simp only [slotOf] at h3 <;> first | cases h3 | skip
          all_goals exact ⟨v, get1 h4, fin (by decide) h5⟩
        · cases h3
    · have e0 := own0 h
      subst e0
      simp at h
      subst h
      exact ⟨rfl, ⟨⟨hx, fun p e => Option.some.inj e⟩, dx, [], hX, .nil⟩, hide_same, hI, hN⟩
    · have q := allB_runI (show AllB (runI (s (.own (.obj c []) :: slots ms ds ++ List.replicate (N.length - ((slots ms ds).length + 1)) .no))) n _ _ from q)
      refine q.mono (fun n' r q1 => ?_) fun n' c d z => z
      have last : ∀ {c : Nat} {fs : List (Str × D)} {env' : Env} {ad' : Nat → Addr} {σ' : L2.St} {I' H' : Hp}, env'[0]? = some (Slot.own (.obj c fs)) → Sim ⟨W.at x, hide H x, I⟩ n' env' ad' σ' I' H' → Sim ⟨W.at x, hide H x, I⟩ n' [.own (.obj c fs)] (fun _ => x) [some (.ref x)] I' H' := fun {c fs env' ad' σ' I' H'} h S' => by
        obtain ⟨h1, h2, h3, h4, h5⟩ := S'.so 0 _ h
        have ha : ad' 0 = x := h2.1.2 x rfl
        rw [ha] at h2 h3 h4 h5
        refine ⟨S'.sub, S'.i0, S'.base, S'.fresh, S'.nos, S'.src, rfl, fun i d e => ?_, fun i d e => ?_, fun i d e => ?_, fun i j d e h h' _ => ?_⟩
        · cases i <;> simp at e
        · cases i <;> simp at e
        · cases i with
          | zero => simp at e; subst e; exact ⟨rfl, h2, h3, h4, h5⟩
          | succ i => simp at e
        · cases i <;> cases j <;> first | rfl | simp at h h'
      obtain ⟨fl, env'⟩ := r
      cases fl with
      | nx =>
        obtain ⟨c', fs, h, q1⟩ := q1
        exact fun ad' σ' I' H' S' i => q1 I' H' (last h S')
      | brk => exact False.elim q1
      | cnt => exact False.elim q1
      | rt d =>
        obtain ⟨rfl, c', fs, h, q1⟩ := q1
        exact fun ad' σ' I' H' v S' i r => by
          cases r
          exact q1 I' H' (last h S')
      | rtF d => exact False.elim q1
      | exc c' d => exact fun ad' σ' I' H' S' i cls dx r => (show ∀ cls dx I' H', Sim0 W (hide H x) I n' I' H' → ExcR W I' c' d cls dx → E cls dx H' from q1) cls dx I' H' (Sim.at0 S'.bare) (by
          obtain ⟨e1, e2⟩ := r
          refine ⟨e1, ?_⟩
          cases dx with
          | none => exact e2
          | some p =>
            obtain ⟨e3, v, e4, e5⟩ := e2
            exact ⟨e3, v, e4, Rep.cg (W := W.at x) (W' := W) rfl rfl rfl rfl e5⟩)
/-- the objects of a new instance, x the instance -/
theorem hide_made {H : Hp} {x dx C0 : Addr} (hx : H x = none) (hd : dx ≠ x) : hide (upd (upd H dx (.own x)) x (.ins C0 dx [])) x = upd H dx (.own x) := by
  funext b
  by_cases h : b = x
  · subst h
    rw [hide_same, upd_ne (Ne.symm hd), hx]
  · rw [hide_ne h, upd_ne h]
theorem make_in {F : List D → M D} {c : Nat} {n : Nat} {env : Env} {ad : Nat → Addr} {σ : L2.St} {I H : Hp} {Q : VK} {vs : List V} {ds : List D} {x dx : Addr} (hms : (ms.all fun m => decide (m = .val ∨ m = .rd)) = true) (S : Sim C n env ad σ I H) (ra : RepA C I H ms vs ds) (hx : H x = none) (hdx : H dx = none) (hne : dx ≠ x)
    (q : AllB (F ds) n (Po .val C env ad σ I H Q) (Pe C ex env ad σ I H)) : SpI C.W c ms F (.ref x :: vs) (upd (upd H dx (.own x)) x (.ins (C.W.cls c) dx [])) (fun v H2 => v = .non ∧ Q (.ref x) H2) (WE (wxOf C ex) σ) := by
  have e := hide_made (C0 := C.W.cls c) hx hne
  have S1 := S.laid' (o := .own x) hdx
  have hx1 : (upd H dx (.own x)) x = none := by rw [upd_ne (Ne.symm hne)]; exact hx
  refine ⟨x, vs, dx, n, I, ds, rfl, upd_same, S.src.none_ne hx, S.none_I hx, ?_, ?_, ?_⟩
  · rw [e]
    have S2 := S1.enter
    exact ⟨S2.sub.upd hx1, Sub.refl _, SameX.upd hx1, fun b o h => .inl h, S2.nos, S2.src.upd hx1, rfl, fun i d h => by simp at h, fun i d h => by simp at h, fun i d h => by simp at h, fun i j d e h => by simp at h⟩
  · rw [e]
    exact RepA.ctx (C := C) (C' := ⟨C.W, upd H dx (.own x), I⟩) rfl hms (RepA.later (Sub.refl _) (SameX.upd hdx) ra)
  · rw [e]
    refine q.mono (fun n' d z I' H' S' => ⟨rfl, ?_⟩) fun n' c d z cls dx' I' H' S' r => ?_
    · have S2 : Sim0 C.W (upd H dx (.own x)) I n' I' H' := Sim.at0 S'.bare
      have S3 := S1.ret S2
      obtain ⟨_, h2, h3, h4, h5⟩ := S'.so 0 d rfl
      obtain ⟨u, hu⟩ := h2.there
      have S4 := S3.keep hu h4 (S.none_B hx) (S.src.none_ne hx) fun i d' hi => by
        obtain ⟨_, g2, _⟩ := S.so i d' hi
        obtain ⟨u', hu'⟩ := g2.there
        exact ne_of_none hu' hx
      exact z (.ref x) _ H' S4 (S2.i0.trans (sub_upd h4)) ((SameX.upd hdx).trans S2.base) (Rep.cg (W := C.W.at x) (W' := C.W) rfl rfl rfl rfl (h2.rep (sub_upd h4) (by rw [upd_same]; exact hu.symm)))
    · exact ⟨n', c, d, env, ad, I', S1.ret S', r, z I' H' (S1.ret S') S'.i0 ((SameX.upd hdx).trans S'.base)⟩
theorem pm_make {F : List D → M D} {k c : Nat} {f : Addr} {fd : FuncData} {ps : List Str} {ms2 : List Md} {x : Str} {p : Pos} {dvs : List V} {dds : List D} {dl : List Value} (hW : C.W = W) (hF : FnG X.prog X.w X.K X.mg X.base (L2.CX X.prog X.w) k f fd ps (SpI W c (ms ++ ms2) F)) (hM : Mk X.K (W.cls c) f) (tk : Takes X (wxOf C ex)) (hgd : X.A.guards = some []) (hr : Room (k + 1) X.A) (hg : Gl X x) (hm : X.mg x = some (.ref (W.cls c)))
    (hb : L2.Binds X.K fd ps dl) (hd : Vals dvs dl) (hdd : ∀ I H, Sub C.I0 I → RepA C I H ms2 dvs dds) (ha : PMA ms C ex X (e :: es) fs) (hms : ((ms ++ ms2).all fun m => decide (m = .val ∨ m = .rd)) = true := by rfl) (hdb : (x == ("__debug__" : Str)) = false := by decide) (he : starEach (e :: es) X.env = (false, eval e X.env) :: starEach es X.env := by rfl) (hpl : (backTo pos (starEach es X.env)).any (·.1) = false := by rfl) :
    PM .val C ex X (.Call (.Name x p) (e :: es) [] pos) (eCall (fun ds => F (ds ++ dds)) fs) := by
  subst hW
  exact PE_imp (pe_makeG (dvs := dvs) hM hF hgd hr hg hm hb hd (fun σ => passAt tk σ) ha hdb he hpl) fun σ H Q q => by
    obtain ⟨n, env, ad, I, S, q⟩ := q
    have q : AllB (fs env >>= fun ds => F (ds ++ dds)) n (Po .val C env ad σ I H Q) (Pe C ex env ad σ I H) := q
    rw [allB_bind] at q
    refine ⟨n, env, ad, I, S, q.mono (fun n1 ds q1 => ?_) (fun _ _ _ k => k)⟩
    intro vs I1 H1 s1 i1 x1 r1
    intro y dy hy hdy hne
    exact make_in (ds := ds ++ dds) hms s1 (RepA.append (hdd I1 H1 s1.i0) r1) hy hdy hne (q1.mono (fun _ _ k => k.mono i1 x1) fun _ _ _ k => k.mono i1 x1)

/-! ### isinstance -/
/-- what stands for a type in the text -/
def tyName : Ty → String
  | .int => "int"
  | .bool => "bool"
  | .str => "str"
  | .list => "list"
  | .tuple => "tuple"
  | .dict => "dict"
  | .own _ => ""
end
end PD

set_option Elab.async false
set_option linter.all false
set_option maxRecDepth 100000
set_option maxHeartbeats 4000000
/-! PDIs: isinstance over plain data, caught errors (with or without a dict of their own) among them (the class of an error: turned from the hand layer's text on caught errors). -/
namespace PDL
open PySem PySem.Spec PySem.Calls PyProof.Rows PySem.W
section
variable {prog : Program} {w : World} {A : Around} {E : Value → Shared → Prop} {s : Shared} {K : Frag} {x D : Addr} {ox : Obj} {od : Option Obj}
theorem findObj_dataO {C : Addr} {name : Str} {a g : Value} (hc : (clsIn K C).isSome = true) (ha : findIn K (.ref C) name = some (some a)) (hg : specialIn K a "__get__" = some (some g)) (ht : takesIn K a = some true) : findObj K C od name = some (.bind g a) := by
  cases od with
  | none => exact findObj_dataN hc ha hg ht
  | some od => exact findObj_data hc ha hg ht
theorem classX {Q : Option Value → Shared → Prop} (hgaₜ : findIn K (.ref D) "__getattribute__" = some (some (.builtin "BaseException.__getattribute__"))) (hgtₜ : findIn K (.ref D) "__getattr__" = some none) (hsubₜ : subIn K (.ref D) (.type "BaseException") = some true)
    (hdctₜ : hasDictIn K D = true) (haₜ : findIn K (.ref D) "__class__" = some (some (.builtin "object.__class__")))
    (hnₜ : specialIn K (.builtin "object.__class__") "__get__" = some (some (.builtin "getset_descriptor.__get__"))) (htkₜ : takesIn K (.builtin "object.__class__") = some true) (hmₜ : mroIn K D (.type "object") = some true)
    (Xₜ : K.In s.heap) (Iₜ : InstAt s.heap x ox D od) (hₜ : Q (some (.ref D)) { s with toks := s.toks + 1 }) : wpAny (model prog w) A (getAttr? (.ref x) "__class__") Q E s := by
  have hfₜ : findObj K D od "__class__" = some (.bind (.builtin "getset_descriptor.__get__") (.builtin "object.__class__")) := findObj_dataO (by obtain ⟨cd, hc, _⟩ := any_some hdctₜ; rw [hc]; rfl) haₜ hnₜ htkₜ
  obtain ⟨hpₜ, gₜ, dₜ, tₜ, osₜ⟩ := s
  have L0ₜ := Iₜ.type (M := model prog w)
  have L1ₜ := looks_findIn (M := model prog w) Xₜ hgaₜ
  have L2ₜ := looks_findIn (M := model prog w) Xₜ hgtₜ
  have L3ₜ := looks_find (M := model prog w) Xₜ Iₜ hfₜ
  have subₜ : Looks (model prog w) hpₜ (isInstance (.ref x) (.type "BaseException")) true := L0ₜ.andThen (looks_subIn Xₜ hsubₜ)
  have hx0ₜ : (false && onTheHeap (Value.builtin "BaseException.__getattribute__")) = false := rfl
  have hx2ₜ : (Value.builtin "BaseException.__getattribute__" == Value.builtin "object.__getattribute__") = false := by decide +kernel
  have hx1ₜ : (onTheHeap (Value.ref D) && Value.builtin "BaseException.__getattribute__" == Value.builtin "object.__getattribute__") = false := by rw [hx2ₜ]; rfl
  unfold getAttr? getAttrBy? getAttrBy
  refine wpAny_bind (wpAny_mkText (wpAny_bind (wpAny_attempt (wpAny_holding (wpAny_bind (L0ₜ.at (wpAny_bind (L1ₜ.at ?_))))))))
  show wpAny _ _ (if (onTheHeap (Value.ref D) && Value.builtin "BaseException.__getattribute__" == Value.builtin "object.__getattribute__") = true then _ else _) _ _ _
  rw [hx1ₜ, if_neg Bool.false_ne_true]
  unfold getAttrByItsOwn hookBefore
  refine wpAny_bind ?_
  rw [if_pos (show onTheHeap (Value.ref D) = true from rfl)]
  refine L2ₜ.at ?_
  refine wpAny_bind (wpAny_attempt (wpAny_holding ?_))
  unfold callGetattribute
  rw [hx0ₜ, if_neg Bool.false_ne_true]
  unfold boundAndCalled
  rw [PySem.F.excAttr_ValueError.ga.bind (.ref x)]
  refine wpAny_bind (wpAny_pure ?_)
  show wpAny _ _ (call (.builtin "BaseException.__getattribute__") [.ref x, .str "__class__" tₜ]) _ _ _
  refine wpAny_call (codeAny_call_builtin PySem.F.excAttr_ValueError.ga.plain PySem.F.entry_bexc_ga ?_)
  refine @check_slot (model prog w) _ _ ⟨hpₜ, gₜ, dₜ, tₜ + 1, osₜ⟩ "BaseException.__getattribute__" "BaseException" "__getattribute__" (.ref x) [.str "__class__" tₜ] [] _ (by decide +kernel) (by decide +kernel) subₜ (PySem.F.args_bexc_ga (.ref x) (.str "__class__" tₜ)) ?_
  unfold Builtin.«object.__getattribute__»
  refine wpAny_bind (wpAny_of_eq (a := ((Value.ref x : Value), [Value.str "__class__" tₜ])) (by first | rfl | (simp only [slotArgs]; rfl)) ?_)
  refine wpAny_bind (wpAny_pure (wpAny_bind (L0ₜ.at (wpAny_bind (L3ₜ.at ?_)))))
  show wpAny _ _ (holding [Value.builtin "object.__class__"] (call (.builtin "getset_descriptor.__get__") [.builtin "object.__class__", .ref x, .ref D]) >>= ret) _ _ _
  refine wpAny_bind (wpAny_holding (wpAny_call (class_get (s := ⟨hpₜ, gₜ, dₜ, tₜ + 1, osₜ⟩) (ox := ox) (od := od) Xₜ Iₜ hmₜ ?_)))
  refine wpAny_pure ?_
  show wpAny _ _ (handedOut (.ref D)) _ _ _
  rw [handedOut_of (v := .ref D) rfl]
  first
    | exact wpAny_pure (wpAny_pure hₜ)
    | exact wpAny_pure hₜ
    | exact wpAny_pure (wpAny_bind (wpAny_pure (wpAny_pure hₜ)))
theorem kitx_excD (hgaₜ : findIn K (.ref D) "__getattribute__" = some (some (.builtin "BaseException.__getattribute__"))) (hgtₜ : findIn K (.ref D) "__getattr__" = some none) (hsubₜ : subIn K (.ref D) (.type "BaseException") = some true) (hdctₜ : hasDictIn K D = true) (haₜ : findIn K (.ref D) "__class__" = some (some (.builtin "object.__class__")))
    (hnₜ : specialIn K (.builtin "object.__class__") "__get__" = some (some (.builtin "getset_descriptor.__get__"))) (htkₜ : takesIn K (.builtin "object.__class__") = some true) (hmₜ : mroIn K D (.type "object") = some true) :
    KitX K (.ref x) (.ref D) (fun hₜ => InstAt hₜ x ox D od) where
  ty := fun _ _ _ Iₜ => Iₜ.type
  it := fun _ _ Xₜ _ => by
    obtain ⟨cdDₜ, hcDₜ, _⟩ := any_some hdctₜ
    unfold clsIn at hcDₜ
    split at hcDₜ
    · rename_i cₜ' dₜ' cdₜ' slₜ' hoₜ
      intro Aₜ' Qₜ' Eₜ' sₜ' kₜ qₜ
      unfold isType loadHead
      exact wpAny_bind (wpAny_loadPart (kₜ _ _ (Xₜ _ _ hoₜ)) (wpAny_pure qₜ))
    · cases hcDₜ
  ne := fun hₜ tpₜ ddₜ itsₜ nₜ slₜ Xₜ htpₜ => by
    obtain ⟨cdDₜ, hcDₜ, _⟩ := any_some hdctₜ
    refine Bool.eq_false_iff.mpr fun qₜ => ?_
    have eₜ : D = tpₜ := Value.ref.inj (beq_iff_eq.mp qₜ)
    subst eₜ
    unfold clsIn at hcDₜ
    split at hcDₜ
    · rename_i cₜ' dₜ' cdₜ' slₜ' hoₜ
      have zₜ := (Xₜ _ _ hoₜ).symm.trans htpₜ
      cases zₜ
    · cases hcDₜ
  ca := fun Xₜ Iₜ kₜ => classX hgaₜ hgtₜ hsubₜ hdctₜ haₜ hnₜ htkₜ hmₜ Xₜ Iₜ kₜ
end
end PDL
namespace PD
open PySem PySem.Spec L2 PDL
/-- an object's isinstance: bs the built-in types that answer yes, tb the answers of own classes -/
def isM (bs : List Ty) (tb : List (Nat × Bool)) : D → M D
  | .non => .ret (.bl false)
  | .bl _ => .ret (.bl (bs.contains .bool))
  | .int _ => .ret (.bl (bs.contains .int))
  | .str _ => .ret (.bl (bs.contains .str))
  | .lst _ => .ret (.bl (bs.contains .list))
  | .tup _ => .ret (.bl (bs.contains .tuple))
  | .dct _ => .ret (.bl (bs.contains .dict))
  | .obj c _ => match tb.lookup c with
    | some b => .ret (.bl b)
    | none => .bad
  | .src => .bad
structure InsF (K : PySem.W.Frag) (C : Addr) : Prop where
  cl : Cls K C
  ha : PySem.W.findIn K (.ref C) "__class__" = some (some (.builtin "object.__class__"))
  hn : PySem.W.specialIn K (.builtin "object.__class__") "__get__" = some (some (.builtin "getset_descriptor.__get__"))
  ht : PySem.W.takesIn K (.builtin "object.__class__") = some true
  hm : PySem.W.mroIn K C (.type "object") = some true
/-- kit: the library's answer for a type -/
structure IsF (K : PySem.W.Frag) (W : Wd) (kit : Value → Option Bool) (bs : List Ty) (tb : List (Nat × Bool)) : Prop where
  non : kit (.type "NoneType") = some false
  bl : kit (.type "bool") = some (bs.contains .bool)
  int : kit (.type "int") = some (bs.contains .int)
  str : kit (.type "str") = some (bs.contains .str)
  lst : kit (.type "list") = some (bs.contains .list)
  tup : kit (.type "tuple") = some (bs.contains .tuple)
  dct : kit (.type "dict") = some (bs.contains .dict)
  own : ∀ c b, tb.lookup c = some b → kit (.ref (W.cls c)) = some b ∧ (W.isX c = false → InsF K (W.cls c)) ∧ (W.isX c = true → ExcC K (W.cls c))
section
variable {C : Ctx} {ex : Ex} {X : Cx} {e : Expr} {f : Env → M D} {pos : Pos} {m : Md}
/-- what the library wants of the value -/
theorem is_kit {kit : Value → Option Bool} {bs : List Ty} {tb : List (Nat × Bool)} (F : IsF X.K C.W kit bs tb) (hK : C.W.K = X.K) {pins : List (Addr × Obj)} {σ0 σ : L2.St} {s : Shared} {n : Nat} {env : Env} {ad : Nat → Addr} {I H : Hp} {v : V} {u : Value} {d : D} {n' : Nat} {P : Nat → D → Prop} {E : Nat → Nat → D → Prop}
    (Iv : Inv X pins σ0 H s) (S : Sim C n env ad σ I H) (r : RepM .rd C env ad I H v d) (ru : RelV v u) (q : AllB (isM bs tb d) n' P E) :
    ∃ t b Z, PySem.W.KitX X.K u t Z ∧ Z s.heap ∧ u ≠ .builtin "__main__.__loader__#opaque" ∧ kit t = some b ∧ P n' (.bl b) := by
  have base : ∀ {v : V} {u t : Value} {b : Bool}, RelV v u → TyX X.K H v t → kit t = some b → P n' (.bl b) → ∃ t b Z, PySem.W.KitX X.K u t Z ∧ Z s.heap ∧ u ≠ .builtin "__main__.__loader__#opaque" ∧ kit t = some b ∧ P n' (.bl b) := fun ru ty h p => by
    obtain ⟨Z, z, h1, h2⟩ := kit_of Iv ru ty
    exact ⟨_, _, Z, z, h1, h2, h, p⟩
  cases d with
  | non => obtain rfl := r.non; exact base ru (.base .non) F.non q
  | bl b => obtain rfl := r.bl; exact base ru (.base (.bl b)) F.bl q
  | int i => obtain rfl := r.int; exact base ru (.base (.int i)) F.int q
  | str i => obtain rfl := r.str; exact base ru (.base (.str i)) F.str q
  | lst ds => obtain ⟨a, vs, rfl, h, _⟩ := r.lst S; exact base ru (.base (.lst h)) F.lst q
  | tup ds =>
    obtain ⟨a, vs, rfl, h, _⟩ := r.tup S
    rcases h with (h | ⟨o, h⟩) | ⟨o, its, nn, h1, h2, h3⟩
    · exact base ru (.base (.tup h)) F.tup q
    · exact base ru (.fTuple h) F.tup q
    · rw [hK] at h1
      exact base ru (.kTuple h1 h2) F.tup q
  | dct ds => obtain ⟨a, vs, rfl, h, _⟩ := r.dct S; exact base ru (.base (.dK h)) F.dct q
  | obj c ds =>
    cases hl : tb.lookup c with
    | none => simp only [isM, hl] at q; exact False.elim q
    | some b =>
      simp only [isM, hl] at q
      obtain ⟨h1, h2, h3⟩ := F.own c b hl
      obtain ⟨a, rfl, ⟨hx, dx, fs, h, _⟩ | ⟨hx, dx, fs, h, hd, _⟩⟩ := r.obj S
      · have T := h2 hx
        exact base ru (.base (.ins h T.cl T.ha T.hn T.ht T.hm)) h1 q
      · have T := h3 hx
        obtain rfl : u = Value.ref a := ru
        obtain ⟨⟨oe, ws, ha, hz, hf⟩, _⟩ := Iv.hok a _ h
        have J : ∃ od, PySem.W.InstAt s.heap a oe (C.W.cls c) od := by
          rcases hd with ⟨rfl, rfl⟩ | ⟨dd, rfl, hdd⟩
          · exact ⟨none, ha, hz.1, by unfold PySem.W.notCls; rw [hf] <;> rfl, by rw [hz.2]; exact trivial⟩
          · obtain ⟨mA, hns, hr⟩ := (show ObjOk X.prog X.w H s.heap dd (.xd fs) from Iv.hok dd _ hdd)
            obtain ⟨od, ho, hl'⟩ := lookIn_ns hns
            exact ⟨some od, ha, hz.1, by unfold PySem.W.notCls; rw [hf] <;> rfl, by rw [hz.2]; exact ho⟩
        obtain ⟨od, J⟩ := J
        exact ⟨_, _, _, PDL.kitx_excD T.hg T.hk T.hs T.hd T.ha T.hn T.ht T.hm, J, (fun z => nomatch z), h1, q⟩
  | src => exact False.elim q
def rIs1 (C : Ctx) (ex : Ex) (c : V) (bs : List Ty) (tb : List (Nat × Bool)) : List V → Hp → VK → Prop := fun xs H Q => ∃ x n env ad σ I d, xs = [x, c] ∧ Sim C n env ad σ I H ∧ RepM .rd C env ad I H x d ∧ AllB (isM bs tb d) n (Po .val C env ad σ I H Q) (Pe C ex env ad σ I H)
theorem call_is1 {c : V} {u : Value} {bs : List Ty} {tb : List (Nat × Bool)} (hK : C.W.K = X.K) (k : ClsV c u) (F : IsF X.K C.W (fun t => PySem.W.kitOne X.K t u) bs tb) : CallR X (.builtin "isinstance") (rIs1 C ex c bs tb) := by
  intro pins s σ0 H xs us Q Iv r h
  obtain ⟨x, n, env, ad, σ, I, d, rfl, S, rx, q⟩ := h
  obtain ⟨u1, u2, rfl, r1, r2⟩ := vals2 r
  have e2 := k.eq r2
  subst e2
  obtain ⟨t, b, Z, h1, h2, h3, h4, h5⟩ := is_kit F hK Iv S rx r1 q
  exact PySem.W.kia_one h1 Iv.kIn h2 h4 h3 fun tk => ⟨.bl b, H, Iv.tok tk, rfl, h5 _ I H S (Sub.refl _) (SameX.refl _) (Rep.bl b)⟩
theorem pm_is {tn : Expr} {c : V} {u : Value} {bs : List Ty} {tb : List (Nat × Bool)} {p : Pos} (hK : C.W.K = X.K) (hg : Gl X "isinstance") (hm : X.mg "isinstance" = none) (F : IsF X.K C.W (fun t => PySem.W.kitOne X.K t u) bs tb) (k : ClsV c u) (ht : PE X tn (tC c)) (ha : PM .rd C ex X e f)
    (he : starEach [e, tn] X.env = (false, eval e X.env) :: starEach [tn] X.env := by rfl) (he2 : starEach [tn] X.env = (false, eval tn X.env) :: starEach [] X.env := by rfl) (hpl : (backTo pos (starEach [tn] X.env)).any (·.1) = false := by rfl) : PM .val C ex X (.Call (.Name "isinstance" p) [e, tn] [] pos) (e1 (isM bs tb) f) :=
  PE_imp (pe_callB (call_is1 (ex := ex) hK k F) hg hm PyProof.Rows.boot_isinstance (pa_cons ha (pa_cons ht pa_nil he2) he) (by decide) (by decide) he hpl) fun σ H Q q => by
    obtain ⟨n, env, ad, I, S, q⟩ := q
    have q : AllB (f env >>= isM bs tb) n (Po .val C env ad σ I H Q) (Pe C ex env ad σ I H) := q
    rw [allB_bind] at q
    refine ⟨n, env, ad, I, S, q.mono (fun n1 d q1 => ?_) fun _ _ _ k => k⟩
    intro v1 I1 H1 s1 i1 x1 r1
    exact ⟨v1, n1, env, ad, σ, I1, d, rfl, s1, r1, q1.mono (fun _ _ k => k.mono i1 x1) fun _ _ _ k => k.mono i1 x1⟩
def rIs2 (C : Ctx) (ex : Ex) (c1 c2 : V) (bs : List Ty) (tb : List (Nat × Bool)) : List V → Hp → VK → Prop := fun xs H Q => ∃ x tp n env ad σ I d, xs = [x, .ref tp] ∧ H tp = some (.tup [c1, c2]) ∧ Sim C n env ad σ I H ∧ RepM .rd C env ad I H x d ∧ AllB (isM bs tb d) n (Po .val C env ad σ I H Q) (Pe C ex env ad σ I H)
theorem call_is2 {c1 c2 : V} {u1 u2 : Value} {bs : List Ty} {tb : List (Nat × Bool)} (hK : C.W.K = X.K) (k1 : ClsV c1 u1) (k2 : ClsV c2 u2) (F : IsF X.K C.W (fun t => PySem.W.kitAny X.K t [u1, u2]) bs tb) : CallR X (.builtin "isinstance") (rIs2 C ex c1 c2 bs tb) := by
  intro pins s σ0 H xs us Q Iv r h
  obtain ⟨x, tp, n, env, ad, σ, I, d, rfl, hT, S, rx, q⟩ := h
  obtain ⟨w1, w2, rfl, r1, r2⟩ := vals2 r
  cases (show w2 = Value.ref tp from r2)
  obtain ⟨t, b, Z, h1, h2, h3, h4, h5⟩ := is_kit F hK Iv S rx r1 q
  obtain ⟨_, its, rv, o, g1, g2, nn, g3⟩ := (show ObjOk X.prog X.w H s.heap tp (.tup [c1, c2]) from Iv.hok tp _ hT)
  have e3 := ClsV.all (.cons k1 (.cons k2 .nil)) rv
  subst e3
  obtain ⟨oc, od, dt, sl⟩ := o
  simp only at g2 g3
  subst g2 g3
  exact PySem.W.kia_tup h1 Iv.kIn h2 g1 h4 h3 fun tk => ⟨.bl b, H, Iv.tok tk, rfl, h5 _ I H S (Sub.refl _) (SameX.refl _) (Rep.bl b)⟩
theorem pm_is2 {t1 t2 : Expr} {c1 c2 : V} {u1 u2 : Value} {bs : List Ty} {tb : List (Nat × Bool)} {p p2 : Pos} {x1} (hK : C.W.K = X.K) (hg : Gl X "isinstance") (hm : X.mg "isinstance" = none) (F : IsF X.K C.W (fun t => PySem.W.kitAny X.K t [u1, u2]) bs tb) (k1 : ClsV c1 u1) (k2 : ClsV c2 u2) (ht1 : PE X t1 (tC c1)) (ht2 : PE X t2 (tC c2)) (ha : PM .rd C ex X e f)
    (he3 : starEach [t1, t2] X.env = (false, eval t1 X.env) :: starEach [t2] X.env := by rfl) (he4 : starEach [t2] X.env = (false, eval t2 X.env) :: starEach [] X.env := by rfl)
    (he : starEach [e, .Tuple [t1, t2] x1 p2] X.env = (false, eval e X.env) :: starEach [.Tuple [t1, t2] x1 p2] X.env := by rfl) (he2 : starEach [.Tuple [t1, t2] x1 p2] X.env = (false, eval (.Tuple [t1, t2] x1 p2) X.env) :: starEach [] X.env := by rfl) (hpl : (backTo pos (starEach [.Tuple [t1, t2] x1 p2] X.env)).any (·.1) = false := by rfl) :
    PM .val C ex X (.Call (.Name "isinstance" p) [e, .Tuple [t1, t2] x1 p2] [] pos) (e1 (isM bs tb) f) :=
  PE_imp (pe_callB (call_is2 (ex := ex) hK k1 k2 F) hg hm PyProof.Rows.boot_isinstance (pa_cons ha (pa_cons (pe_tup (pa_cons ht1 (pa_cons ht2 pa_nil he4) he3)) pa_nil he2) he) (by decide) (by decide) he hpl) fun σ H Q q => by
    obtain ⟨n, env, ad, I, S, q⟩ := q
    have q : AllB (f env >>= isM bs tb) n (Po .val C env ad σ I H Q) (Pe C ex env ad σ I H) := q
    rw [allB_bind] at q
    refine ⟨n, env, ad, I, S, q.mono (fun n1 d q1 => ?_) fun _ _ _ k => k⟩
    intro v1 I1 H1 s1 i1 x1 r1
    refine ⟨by show 2 ≤ sizeLine; decide, fun tp htp => ?_⟩
    exact ⟨v1, tp, n1, env, ad, σ, I1, d, rfl, upd_same, s1.laid' htp, r1.later (by decide) (Sub.refl _) (SameX.upd htp), q1.mono (fun _ _ k => k.mono i1 (x1.trans (SameX.upd htp))) fun _ _ _ k => k.mono i1 (x1.trans (SameX.upd htp))⟩
end
end PD

set_option Elab.async false
set_option linter.all false
set_option maxRecDepth 100000
set_option maxHeartbeats 4000000
/-! PDExc: errors over plain data: made, raised, caught. -/
namespace PDL
open PySem PySem.Spec PyProof.Rows L2
section
variable {X : Cx} {e : Expr} {es : List Expr} {ta : TA} {p1 p2 pos : Pos} {x : Str} {C0 : Addr}
/-- an own class whose __init__ is ValueError's -/
structure InitC (K : PySem.W.Frag) (C : Addr) : Prop where
  ga : PySem.W.specialIn K (.ref C) "__getattribute__" = some (some (.builtin "type.__getattribute__"))
  rd : PySem.W.readsIn K C (.type "type") = true
  at_ : PySem.W.findCls K (.ref C) (.type "type") "__init__" = some (.val (.builtin "ValueError.__init__"))
/-- B.__init__(self, ..), B an own class over ValueError -/
theorem pe_cinit {pl : Sem Bool} (hg : Gl X x) (hm : X.mg x = some (.ref C0)) (T0 : InitC X.K C0) (ha : PA X (e :: es) ta) (hdb : (x == ("__debug__" : Str)) = false := by decide)
    (hc : eval (.Call (.Attribute (.Name x p1) "__init__" p2) (e :: es) [] pos) X.env = (do
      let ov ← eval (.Name x p1) X.env
      standAt p2.atName
      let (f, first) ← holding [ov] (getMethod ov "__init__" pl)
      callWith pos f first (backTo pos (starEach (e :: es) X.env)) (backToKw pos (keywordEach [] X.env))) := by rfl)
    (he : starEach (e :: es) X.env = (false, eval e X.env) :: starEach es X.env := by rfl) (hpl : (backTo pos (starEach es X.env)).any (·.1) = false := by rfl) :
    PE X (.Call (.Attribute (.Name x p1) "__init__" p2) (e :: es) [] pos) (tVeI X.K ta) := by
  refine ⟨fun pins s σ H Q I h => ?_⟩
  refine PySem.W.methodCall_KW (ld_glob I hg hm ?_ hdb) hc
  refine PySem.W.method_cls I.kIn T0.ga (PySem.W.cls_value I.kIn T0.rd T0.at_ (by decide +kernel) ?_)
  show wpAny _ _ (callWith pos (Value.builtin "ValueError.__init__") [] (backTo pos (starEach (e :: es) X.env)) []) _ _ _
  refine PyProof.Rows.callWith_method1 (thn (ha.run pos pins _ σ H _ (I.tok _) h) fun us s1 ⟨vs, H1, I1, r1, a, C, ws, ev, hl, T, ea, q⟩ => ?_) he hpl
  subst ev
  cases r1 with
  | @cons _ u0 _ ur ra rw' =>
    obtain rfl : u0 = Value.ref a := ra
    have hlen : ur.length ≤ sizeLine := by
      rw [← Paired.length rw', sizeLine_eq]
      omega
    exact oinit_ok T I1 ea hlen fun s' J => ⟨.non, H1, J, rfl, q⟩
end
/-- the promise of an error's __init__(self, y): B.__init__(self, 'text'); self.f = y -/
def SpX (K : PySem.W.Frag) (C : Addr) (f : Str) : Sp := fun vs H Q E => ∃ a v, vs = [.ref a, v] ∧ H a = some (exo a C none) ∧ ∀ dx, H dx = none → dx ≠ a → Q .non (upd (upd H dx (exd dx [(f, v)])) a (exo a C (some dx)))
theorem SpX.len {K : PySem.W.Frag} {C : Addr} {f : Str} {y : Str} : ∀ vs H Q E, SpX K C f vs H Q E → vs.length = [("self" : Str), y].length := fun vs H Q E ⟨a, v, e, _⟩ => by rw [e]; rfl
/-- its body's reading -/
theorem xinit_read {K : PySem.W.Frag} {C : Addr} {f m : Str} {vs : List V} {H : Hp} {Q : VK} {E : XK} {N : List Str} (hN : N.length = 2) (T : OexC K C) (hno : PySem.W.findIn K (.ref C) f = some none) (h : SpX K C f vs H Q E) :
    tSeq (tDrop (tVeI K (tCons (tVar 0) (tCons (tC (.str m)) tNil)))) (tOst K f (tVar 0) (tVar 1)) { nx := fun _ H' => Q .non H', rt := Q } (L2.start N vs) H := by
  obtain ⟨a, v, rfl, ha, q⟩ := h
  have e : L2.start N [V.ref a, v] = [some (.ref a), some v] := by
    unfold L2.start
    rw [hN]
    rfl
  rw [e]
  refine ⟨.ref a, rfl, a, C, [.str m], rfl, by show 1 ≤ 1000; decide, T, ha, v, rfl, .ref a, rfl, a, C, rfl, T, hno, .inl ⟨ha, fun dx h1 h2 => q dx h1 h2⟩⟩
end PDL
namespace PD
open PySem PySem.Spec L2 PDL
/-- raise X(e), X an error class with a field -/
def sRaise (c : Nat) (f : Env → M D) : Env → M (Fl × Env) := fun e => tryB (f e) e fun d => .ret (.exc c d, e)
/-- raise X('..') -/
def sRaise0 (c : Nat) : Env → M (Fl × Env) := fun e => .ret (.exc c .non, e)
/-- the caught error as a value -/
def excO (fld : Nat → Str) (c : Nat) (d : D) : D := if fld c = Str.empty then .obj c [] else .obj c [(fld c, d)]
/-- try: body, except B as n (slot i): m (slot j) = n; tb: which error classes are below B -/
def sTry (fld : Nat → Str) (tb : List (Nat × Bool)) (i j : Nat) (s : Env → M (Fl × Env)) : Env → M (Fl × Env) := fun e => s e >>= fun r => match r with
  | (.exc c d, e') => match tb.lookup c with
    | some true => if i < e'.length then .ret (.nx, (e'.set j (.v (excO fld c d))).set i .no) else .bad
    | some false => .ret (.exc c d, e')
    | none => .bad
  | r => .ret r
section
variable {C : Ctx} {ex : Ex} {X : Cx} {e : Expr} {f : Env → M D} {s : Env → M (Fl × Env)} {pos : Pos} {m : Md}
theorem ms_raise0 {c : Nat} {x mt : Str} {j : Nat} {p p2 pos' : Pos} {bmB : List Value} {B newId initId : String} (hc : X.calm = true) (tk : Takes X (wxOf C ex)) (F : ExcBaseFacts B newId initId bmB) (q : PySem.W.excIn X.K (C.W.cls c) bmB newId = true) (gC : X.mg x = some (.ref (C.W.cls c))) (kC : PySem.W.keepIn X.K (.ref (C.W.cls c)) = true) (r : Raises X (.ref (C.W.cls c))) (hf : C.W.fld c = Str.empty)
    (hg : Gl X x) (hdb : (x == ("__debug__" : Str)) = false := by decide) : PMS C ex X (.Raise (some (.Call (.Name x p) [.Constant (.str mt) j p2] [] pos)) none pos') (sRaise0 c) :=
  PS_imp (ps_raise hc tk (pmk_own F q gC kC r hg hdb)) fun Dn σ H ⟨n, env, ad, I, S, q⟩ => ⟨n, c, .non, env, ad, I, S, ⟨rfl, rfl, hf⟩, (show PoS C ex Dn I n (.exc c .non, env) from q) ad σ I H S (Sub.refl _)⟩
theorem del_laid {H : Hp} {a dx : Addr} {o1 o2 o3 u : HO} (ha : H a = none) (hne : dx ≠ a) : upd (L2.del (upd (upd (upd H a o1) dx o2) a o3) a) dx u = upd H dx u := by
  funext b
  by_cases h1 : b = dx
  · rw [h1, upd_same, upd_same]
  · rw [upd_ne h1, upd_ne h1]
    by_cases h2 : b = a
    · rw [h2, del_same, ha]
    · rw [del_ne h2, upd_ne h2, upd_ne h1, upd_ne h2]
theorem ms_raise {c k : Nat} {x y : Str} {fI : Addr} {fd : FuncData} {p pos' : Pos} (hc : X.calm = true) (tk : Takes X (wxOf C ex)) (T : OexC X.K (C.W.cls c)) (iC : PySem.W.findIn X.K (.ref (C.W.cls c)) "__init__" = some (some (.ref fI))) (tI : PySem.W.typeIn X.K (.ref fI) = some (.type "function"))
    (F1 : FnOk X.prog X.w X.K X.mg X.base (L2.CX X.prog X.w) k fI fd ["self", y] (SpX X.K (C.W.cls c) (C.W.fld c))) (hf : C.W.fld c ≠ Str.empty) (hr : Room (k + 1) X.A) (hb : L2.Binds X.K fd ["self", y] []) (hx : Passes (L2.CX X.prog X.w) X (fun _ _ _ => False)) (hg : Gl X x) (hm : X.mg x = some (.ref (C.W.cls c))) (ha : PM .val C ex X e f)
    (hdb : (x == ("__debug__" : Str)) = false := by decide) (he : starEach [e] X.env = (false, eval e X.env) :: starEach [] X.env := by rfl) (hpl : (backTo pos (starEach [] X.env)).any (·.1) = false := by rfl) : PMS C ex X (.Raise (some (.Call (.Name x p) [e] [] pos)) none pos') (sRaise c f) :=
  PS_imp (ps_raise hc tk (pmk_oex (dvs := []) T iC tI F1 hr hb .nil hx hg hm (pa_cons ha pa_nil he) hdb he hpl)) fun Dn σ H ⟨n, env, ad, I, S, q⟩ => by
    refine ⟨n, env, ad, I, S, tM_S S q fun n' d v I' H' S' i x r q' => ⟨by show 1 ≤ 1000; decide, fun a ha => ?_⟩⟩
    refine ⟨a, v, rfl, upd_same, fun dx h1 h2 => ?_⟩
    have h1' : H' dx = none := by rw [upd_ne h2] at h1; exact h1
    refine ⟨rfl, dx, [(C.W.fld c, v)], upd_same, ?_, h1', ?_⟩
    · rw [upd_ne h2, upd_same]
    · rw [del_laid ha h2]
      have S2 := S'.laid (o := .xd [(C.W.fld c, v)]) h1'
      exact ⟨n', c, d, env, ad, _, S2, ⟨rfl, hf, v, upd_same, r.mono (sub_upd (S'.none_I h1'))⟩, (show PoS C ex Dn I' n' (.exc c d, env) from q') ad σ _ _ S2 (sub_upd (S'.none_I h1'))⟩

/-! ### except B as n: m = n -/
def exW (C : Ctx) (W : WX) : Ex := fun n c d env ad σ I H => ∀ cls dx, ExcR C.W I c d cls dx → W cls dx σ H
theorem takes_W {W : WX} (t : Takes X W) : Takes X (wxOf C (exW C W)) := t.imp fun cls dx σ H ⟨n, c, d, env, ad, I, S, r, h⟩ => h cls dx r
structure CatchF (K : PySem.W.Frag) (W : Wd) (B : Value) (tb : List (Nat × Bool)) : Prop where
  ok : ∀ c b, tb.lookup c = some b → PySem.W.exmOne K (.ref (W.cls c)) B = some b ∧ W.isX c = true
theorem ms_try {x nm y : Str} {B : Value} {i j : Nat} {tb : List (Nat × Bool)} {body : List Stmt} {np pos' p1 p2 p3 : Pos} (F : CatchF X.K C.W B tb) (hs : X.stack = X.env :: X.outer) (hf : X.env.frame = some X.env.locals) (hex : X.ex = []) (hN : X.N.Nodup) (hi : X.N[i]? = some nm) (hj : X.N[j]? = some y) (hij : i ≠ j) (hln : X.env.kindOf nm = some .local) (hlj : X.env.scope.names.lookup y = some .local)
    (hc : Names X x B) (tk : Takes X (wxOf C ex)) (hb : ∀ (ex' : Ex) (pn : List (Addr × Obj)) (xe : Value → Shared → Prop), Takes (X.tr pn xe) (wxOf C ex') → PassesOwn (model X.prog X.w) X.A X.env xe → PMB C ex' (X.tr pn xe) body s)
    (hdb : (nm == ("__debug__" : Str)) = false := by decide) (hcd : (nm == ("__classdict__" : Str)) = false := by decide) (hsw : swapsWith (.Name nm p2) (some (.Name y p1)) p3.line X.env = pure false := by rfl) :
    PMS C ex X (.Try body [.ExceptHandler (some (.Name x np)) (some nm) [.Assign [.Name y p1] (.Name nm p2) p3] pos'] [] [] pos) (sTry C.W.fld tb i j s) :=
  PS_imp (ps_try_keep (tb := fun W => tS C (exW C W) s) (ts := fun a cls d => tAsg (tVar i) (gName j)) hs hf hex hN hi hln hc tk (fun W pn xe t ps => hb _ pn xe (takes_W t) ps)
    (fun a oe cls d pn hz hf => pss_one (ps_set (X := X.suite a ((a, oe) :: pn)) hN hj (.inl hlj) (pe_var (X := X.suite a ((a, oe) :: pn)) hi (.inl hln) hdb hcd) hsw (.inr hlj)))) fun Dn σ H q => by
    obtain ⟨n, env, ad, I, S, q⟩ := q
    have q : AllB (s env >>= fun r => match r with | (.exc c d, e') => (match tb.lookup c with | some true => if i < e'.length then M.ret (Fl.nx, (e'.set j (.v (excO C.W.fld c d))).set i .no) else .bad | some false => .ret (.exc c d, e') | none => .bad) | r => .ret r) n (PoS C ex Dn I) noE := q
    rw [allB_bind] at q
    refine ⟨n, env, ad, I, S, q.mono (fun n1 r q1 => ?_) fun _ _ _ z => z⟩
    obtain ⟨fl, env'⟩ := r
    cases fl with
    | nx => exact q1
    | brk => exact q1
    | cnt => exact q1
    | rt d => exact q1
    | rtF d => exact q1
    | exc c d =>
      intro ad' σ' I' H' S' i' cls dx r
      have q1 : AllB (match tb.lookup c with | some true => if i < env'.length then M.ret (Fl.nx, (env'.set j (.v (excO C.W.fld c d))).set i .no) else .bad | some false => .ret (.exc c d, env') | none => .bad) n1 (PoS C ex Dn I) noE := q1
      cases hl : tb.lookup c with
      | none => rw [hl] at q1; exact False.elim q1
      | some b =>
        obtain ⟨h1, h2⟩ := F.ok c b hl
        rw [hl] at q1
        obtain ⟨ecls, r⟩ := r
        subst ecls
        refine ⟨b, h1, fun hb a ha => ?_, fun hb => ?_⟩
        · subst hb
          obtain ⟨hil, q1⟩ := allB_ite q1
          rw [S'.len] at hil
          have q1 : PoS C ex Dn I n1 (.nx, (env'.set j (.v (excO C.W.fld c d))).set i .no) := q1
          have hI := S'.none_I ha
          have S2 := S'.laid (o := XcO (.ref (C.W.cls c)) dx a) ha
          have rv : Rep C.W (upd I' a (XcO (.ref (C.W.cls c)) dx a)) (.ref a) (excO C.W.fld c d) := by
            unfold excO
            cases dx with
            | none =>
              rw [if_pos r.2]
              exact .exc h2 upd_same (.inl ⟨rfl, rfl⟩) .nil
            | some dd =>
              obtain ⟨hne, v, hd, rd⟩ := r
              rw [if_neg hne]
              exact .exc h2 upd_same (.inr ⟨dd, rfl, sub_upd hI _ _ hd⟩) (.cons (rd.mono (sub_upd hI)) .nil)
          have S3 := (S2.setV (i := j) rv).no i
          refine ⟨.ref a, by rw [List.getElem?_set_self hil], ?_⟩
          have es : ((σ'.set i (some (V.ref a))).set j (some (V.ref a))).set i none = (σ'.set j (some (V.ref a))).set i none := by
            rw [List.set_comm _ _ (Ne.symm hij), List.set_set, List.set_comm _ _ hij]
          show Dn.nx (((σ'.set i (some (V.ref a))).set j (some (V.ref a))).set i none) _
          rw [es]
          exact q1 ad' _ _ _ S3 (i'.trans (sub_upd hI))
        · subst hb
          exact ⟨n1, c, d, env', ad', I', S', ⟨rfl, r⟩, (show PoS C ex Dn I n1 (.exc c d, env') from q1) ad' σ' I' H' S' i'⟩
end
end PD

set_option Elab.async false
set_option linter.all false
set_option maxRecDepth 100000
set_option maxHeartbeats 4000000
/-! PDMisc: enumerate, {}, properties, repr. -/
namespace PDL
open PySem PySem.Spec L2 PyProof.Rows
/-- enumerate(v) is made -/
theorem meets_enum1 {v : Value} {o : Obj} {Hh : Heap → Prop} (B : Begins v o Hh) :
    Meets (Builtin.«enumerate.__new__» ⟨[.type "enumerate", v], []⟩) (fun _ R s => Hh s.heap ∧
      R (.ok (.ret (.ref (s.heap.push o).objs.size))) { s with heap := (s.heap.push o).push { cls := .type "enumerate", data := .fields #[.none, .bool false, .ref s.heap.objs.size, rawInt 0, .none, .none] } }) :=
  .of_wp fun prog w A R s hyp => by
    obtain ⟨hp, gg, dd, tk, os⟩ := s
    obtain ⟨begins, hyp⟩ := hyp
    have hsub := sub_enumerate
    have it1 : ∀ {A' : Around} {E : Value → Shared → Prop} {Q : Value → Shared → Prop}, Q (.ref hp.objs.size) ⟨hp.push o, gg, dd, tk, os⟩ → wpAny (model prog w) A' (pyIter v) Q E ⟨hp, gg, dd, tk, os⟩ :=
      fun q => B.iter prog w _ _ ⟨hp, gg, dd, tk, os⟩ _ begins q
    wp_walk using it1
    refine wpAny_stack_any fun st => wpAny_pure ?_
    split
    · rename_i cc _ _ _ _ _
      cases (cc == Value.type "enumerate") <;> (wp_walk using it1; exact ⟨_, rfl, hyp⟩)
    · wp_walk using it1
      exact ⟨_, rfl, hyp⟩
/-- enumerate(v) called -/
theorem call_enum1 {prog : Program} {w : World} {A : Around} {E : Value → Shared → Prop} {s : Shared} {v : Value} {o : Obj} {Hh : Heap → Prop} {Q : Value → Shared → Prop} (B : Begins v o Hh) (hs : Hh s.heap)
    (k : ∀ h', IsEnum h' (s.heap.objs.size + 1) s.heap.objs.size 0 .none → h'.get? s.heap.objs.size = some o → (∀ b u, s.heap.get? b = some u → h'.get? b = some u) → Q (.ref (s.heap.objs.size + 1)) { s with heap := h' }) :
    wpAny (model prog w) A (call (.type "enumerate") [v]) Q E s := by
  refine callType_new F.called_enumerate (by decide) (F.typeCall_enumerate_1 _) (F.newCall_enumerate_1 _) (fun obj => F.args_object_init_2 obj _) F.entry_enumerate_new (meets_enum1 B) ⟨hs, ?_⟩
  have hz : (s.heap.push o).objs.size = s.heap.objs.size + 1 := Heap.size_push ..
  have he := Heap.get?_push_size (s.heap.push o) (o := { cls := .type "enumerate", data := .fields #[.none, .bool false, .ref s.heap.objs.size, rawInt 0, .none, .none] }) rfl
  show _ ∧ _
  rw [hz] at he ⊢
  exact ⟨⟨_, he, rfl⟩, k _ he (Heap.get?_push_of_some _ (Heap.get?_push_size _ B.free)) fun b u q => Heap.get?_push_of_some _ (Heap.get?_push_of_some _ q)⟩
/-- the tuple at a, each item in a new pair with its place -/
def IteT (K : PySem.W.Frag) (a : Addr) : It :=
  ⟨fun i H => ∃ (xs : List V) (x : V), SqT K H a xs ∧ xs[i]? = some x, fun i H v H' => ∃ T x, v = .ref T ∧ H T = none ∧ H' = upd H T (.tup [.int (i : Nat), x]) ∧ ∀ xs, SqT K H a xs → xs[i]? = some x, fun i H => ∃ xs : List V, SqT K H a xs ∧ xs.length ≤ i⟩
theorem turn_enumT {P : Program} {w : World} {K : PySem.W.Frag} {elts : List Expr} {kk : Nat} {tpos : Pos} (a e it : Addr) :
    Turn P w K (.Tuple elts kk tpos) (IteT K a) [e, it] e (fun i h => (∃ old, IsEnum h e it ((i : Nat) : Int) old) ∧ h.IsTupleIter it a i ∧ (e ≠ it ∧ a ≠ it ∧ e ≠ a)) where
  mem := by simp
  obj := fun i h st b hb => by
    obtain ⟨⟨old, he⟩, ⟨o, ho, _, hd⟩, _⟩ := st
    rcases List.mem_cons.mp hb with rfl | hb
    · exact ⟨_, he, fun v q => nomatch q⟩
    · obtain rfl := List.mem_singleton.mp hb
      exact ⟨o, ho, fun v q => by rw [hd] at q; cases q⟩
  keep := fun i h h' st k => ⟨st.1.imp fun _ he => k e (by simp) _ he, st.2.1.at fun o q => k it (by simp) o q, st.2.2⟩
  item := by
    intro X hP hw hK hc i pins s σ H E I hf st hg
    subst hP hw hK
    obtain ⟨⟨old, he⟩, hit, hei, hai, hea⟩ := st
    obtain ⟨xs, x, hq, hx⟩ := hg
    obtain ⟨its, rv, tp, hz⟩ := I.tuple hq
    obtain ⟨u, hu, ru⟩ := rv.get hx
    have hel : e < s.heap.objs.size := Heap.lt_size he
    have hil : it < s.heap.objs.size := by obtain ⟨_, q, _⟩ := hit; exact Heap.lt_size q
    have hi : i < its.toArray.size := by
      have := (List.getElem?_eq_some_iff.mp hu).1
      rwa [List.size_toArray]
    refine wpAny_pyNext_enum_itemD (Draws.tuple (A := X.A.in1) (I.ok.hd hc) it a hai its.toArray) he ⟨hit, tp⟩ hi hei (by simp [hei, hea]) fun y h' tk hy ho st' hT hsz kp => ?_
    have ey : y = u := by
      have hy : its.toArray[i]? = some y := hy
      rw [List.getElem?_toArray, hu] at hy
      exact (Option.some.inj hy).symm
    subst ey
    refine ⟨_, rfl, wpAny_letOwnedTupleGo_enum (s := { s with heap := h', toks := tk + 1 }) ho fun h'' he' sb => ?_⟩
    have hT2 := (sb.2 _ (Nat.ne_of_gt hel)).trans hT
    have new : ObjOk X.prog X.w (upd H s.heap.objs.size (.tup [.int (i : Nat), x])) h'' s.heap.objs.size (.tup [.int (i : Nat), x]) :=
      ⟨by show 2 ≤ sizeLine; decide, [.int i tk, y], .cons ⟨_, rfl⟩ (.cons ru .nil), ⟨_, hT2, rfl, _, rfl⟩⟩
    have J : Inv X pins σ (upd H s.heap.objs.size (.tup [.int (i : Nat), x])) { s with heap := h'', toks := tk + 1 } :=
      I.turnedNew (ch := [e, it]) (fun b ob hb q => (sb.2 b (fun z => hb (by simp [z]))).trans (kp b ob (fun z => hb (by simp [z])) (fun z => hb (by simp [z])) q)) hf (Nat.le_refl _) new
    refine ⟨.ref s.heap.objs.size, _, J, rfl, ⟨_, x, rfl, I.hok.fresh (Nat.le_refl _), rfl, fun ys hy => by rw [I.tuple_inj hy hq]; exact hx⟩, ⟨⟨y, ?_⟩, st'.1.at fun o q => (sb.2 it (Ne.symm hei)).trans q, hei, hai, hea⟩, fun b hb => ?_⟩
    · have e1 : ((i + 1 : Nat) : Int) = (i : Int) + 1 := by omega
      rw [e1]
      exact he'
    · have hb' : b < s.heap.objs.size := by
        rcases List.mem_cons.mp hb with z | hb
        · rw [z]; exact hel
        · rw [List.mem_singleton.mp hb]; exact hil
      rw [upd_ne (Nat.ne_of_lt hb')]
      exact (hf b hb).1
  done := by
    intro X hP hw hK hc i pins s σ H E I hf st hg
    subst hP hw hK
    obtain ⟨⟨old, he⟩, hit, hei, hai, hea⟩ := st
    obtain ⟨xs, hq, hx⟩ := hg
    obtain ⟨its, rv, tp, hz⟩ := I.tuple hq
    obtain ⟨f0, f1, f2, f3, f4, f5⟩ := hf it (by simp)
    have hl := rv.length
    have isE : s.TypeIs (.ref e) "enumerate" := ⟨_, he, rfl⟩
    unfold pyNext
    refine wpAny_bind (wpAny_attempt (wpAny_callSpecial?_slot (name := Str.ofString "__next__") isE F.slot_enumerate_next (wpAny_call_entry F.slot_enumerate_next isE F.entry_enumerate_next ?_ (F.args_enumerate_next_1 _))))
    show wpAny _ _ (field (Value.ref e) 2 >>= _) _ _ _
    refine wpAny_bind (wpAny_field he rfl (x := Value.ref it) rfl (wpAny_bind (wpAny_nextOf_tuple_end (I.ok.hd hc) hit tp (by simp; omega) fun h' x kp stopped => ?_)))
    obtain ⟨ox, hox, cx⟩ := stopped
    refine wpAny_bind (wpAny_isInstance (T := "StopIteration") (b := true) ⟨ox, hox, cx⟩ isSubtype_stop (wpAny_pure ?_))
    exact ⟨rfl, I.turned (t' := s.toks) (fun b o hb q => kp b o hb q) f0 f1 f3 f4 f5⟩
  self := fun A i s Q E st k => st.1.elim fun _ he => wpAny_pyIter_enum he k
end PDL
namespace PD
open PySem PySem.Spec L2 PDL
section
variable {C : Ctx} {ex : Ex} {X : Cx} {e : Expr} {f : Env → M D} {fs : Env → M (List D)} {pos : Pos} {m : Md}
/-- what walks a list or tuple in new pairs -/
theorem WalkD.pairs {I : Hp} {J : It} {ds : List D} {xs : List V} {G : Hp → Prop} (w : Walk J xs.length G (YPair (fun i => some (.int (i : Nat))) (fun i => xs[i]?))) (r : RepL C.W I xs ds) (hG : ∀ n env ad σ I2 H2, Sim C n env ad σ I2 H2 → Sub I I2 → G H2) : WalkD C I J (enumL 0 ds) :=
  ⟨G, YPair (fun i => some (.int (i : Nat))) (fun i => xs[i]?), by rw [enumL_length, ← r.length]; exact w, hG, fun i H v H' n env ad σ I2 hi S i2 ⟨T, x, y, e1, hT, e2, e3, e4⟩ => by
    obtain ⟨d, hd, rd⟩ := r.getV e4
    subst e1; subst e2
    cases e3
    have hI := S.none_I hT
    refine ⟨upd I2 T _, S.laid hT, sub_upd hI, SameX.upd hT, fun b o h => ?_, .tup [.int (i : Nat), d], by rw [enumL_get hd, Nat.zero_add], .tup (SqT.of upd_same) (.cons (.int _) (.cons (rd.mono (i2.trans (sub_upd hI))) .nil))⟩
    by_cases hb : b = T
    · subst hb; exact .inr hT
    · rw [upd_ne hb] at h; exact .inl h⟩
theorem walk_enumT {K : PySem.W.Frag} {a : Addr} {xs : List V} : Walk (IteT K a) xs.length (fun H => SqT K H a xs) (YPair (fun i => some (.int (i : Nat))) (fun i => xs[i]?)) :=
  ⟨fun i _ hi q => ⟨xs, xs[i], q, by simp [hi]⟩, fun _ q => ⟨xs, q, Nat.le_refl _⟩, fun i H v H' _ q ⟨T, x, h1, h2, h3, h4⟩ => ⟨T, .int (i : Nat), x, h1, h2, h3, rfl, h4 xs q⟩⟩
theorem mi_enum {elts : List Expr} {kk : Nat} {p tpos : Pos} (hK : C.W.K = X.K) (hg : Gl X "enumerate") (hm : X.mg "enumerate" = none) (ha : PMA [.st] C ex X [e] fs) (hs : starEach [e] X.env = [(false, eval e X.env)] := by rfl) : PMI C ex X (.Tuple elts kk tpos) (.Call (.Name "enumerate" p) [e] [] pos) (iCall enumM fs) := by
  refine ⟨fun pins s σ H R Iv h => ?_⟩
  refine PyProof.Rows.Call_ (ld_blt Iv hg hm PyProof.Rows.boot_enumerate (PyProof.Rows.callWith_type1 (thn (ha.run pos pins s σ H _ Iv (tI_call (ms := [.st]) h)) fun us s1 ⟨vs, H1, Iv1, rv, q⟩ => ?_) hs rfl))
  obtain ⟨n, env, ad, σ2, I, ds, S, ra, q⟩ := q
  obtain ⟨v, d, rfl, rfl, r1⟩ := ra.one
  have r1 := r1.any (env' := env) (ad' := ad) (by decide)
  obtain ⟨u, rfl, ru⟩ := vals1 rv
  have fresh2 : ∀ {b : Addr}, b ∈ [s1.heap.objs.size + 1, s1.heap.objs.size] → FpOk X pins H1 b := fun {b} hb => by
    have hle : s1.heap.objs.size ≤ b := by
      rcases List.mem_cons.mp hb with z | hb
      · rw [z]; exact Nat.le_add_right _ _
      · rw [List.mem_singleton.mp hb]; exact Nat.le_refl _
    exact Iv1.fpOk hle (Iv1.hok.fresh hle)
  cases d with
  | lst xs =>
    obtain ⟨a, ws, rfl, rl, stab⟩ := RepM.stL (σ := σ2) (n := n) r1
    obtain rfl : u = Value.ref a := ru
    obtain ⟨its, rv', pl, hz⟩ := Iv1.list (SqL.of (stab _ _ _ _ _ _ S (Sub.refl _)))
    refine call_enum1 (begins_list a its.toArray) pl.isList fun h' he ho kp => wpAny_pyIter_enum he ?_
    refine ⟨s1.heap.objs.size + 1, [s1.heap.objs.size + 1, s1.heap.objs.size], _, _, H1, rfl, Iv1.kept (t' := s1.toks) kp, turn_enum a (s1.heap.objs.size + 1) s1.heap.objs.size, ⟨⟨.none, he⟩, ⟨_, ho, rfl, rfl⟩, Nat.succ_ne_self _⟩, fun b hb => fresh2 hb, ?_⟩
    exact (show PoI C env ad σ2 I H1 R n (enumL 0 xs) from q) _ I H1 S (Sub.refl _) (SameX.refl _) (WalkD.pairs walk_enum rl fun n env ad σ I2 H2 S i => SqL.of (stab n env ad σ I2 H2 S i))
  | tup xs =>
    obtain ⟨a, ws, rfl, hq, rl, rt⟩ := r1.tup S
    obtain rfl : u = Value.ref a := ru
    have rt : Rep C.W I (.ref a) (.tup xs) := rt
    cases rt with
    | tup q' rl =>
      rw [hK] at q'
      obtain ⟨its, rv', tp, hz⟩ := Iv1.tuple (S.sub.sqT q')
      have ha1 : a < s1.heap.objs.size := by obtain ⟨o, ho, _⟩ := tp; exact Heap.lt_size ho
      refine call_enum1 (begins_tuple a its.toArray) tp fun h' he ho kp => wpAny_pyIter_enum he ?_
      refine ⟨s1.heap.objs.size + 1, [s1.heap.objs.size + 1, s1.heap.objs.size], _, _, H1, rfl, Iv1.kept (t' := s1.toks) kp, turn_enumT a (s1.heap.objs.size + 1) s1.heap.objs.size, ⟨⟨.none, he⟩, ⟨_, ho, rfl, rfl⟩, Nat.succ_ne_self _, Nat.ne_of_lt ha1, Nat.ne_of_gt (Nat.lt_succ_of_lt ha1)⟩, fun b hb => fresh2 hb, ?_⟩
      exact (show PoI C env ad σ2 I H1 R n (enumL 0 xs) from q) _ I H1 S (Sub.refl _) (SameX.refl _) (WalkD.pairs walk_enumT rl fun n env ad σ I2 H2 S i => (i.trans S.sub).sqT q')
  | _ => exact False.elim q
/-- {} -/
theorem pm_dict0 : PM .fr C ex X (.Dict [] [] pos) (eC (.dct [])) := PE_imp pe_dnewK fun σ H Q ⟨n, env, ad, I, S, q⟩ => fun p hp =>
  (show Po .fr C env ad σ I H Q n (.dct []) from q) _ I _ (S.laid' hp) (Sub.refl _) (SameX.upd hp) ⟨p, rfl, S.src.none_ne hp, ⟨[], upd_same, .nil⟩, S.none_I hp, S.none_B hp, fun i e h => by
    obtain ⟨h1, h2, h3⟩ := S.so i e h
    obtain ⟨u, hu⟩ := h2.there
    exact ne_of_none hu hp⟩
end
end PD

set_option Elab.async false
set_option linter.all false
set_option maxRecDepth 100000
set_option maxHeartbeats 4000000
set_option exponentiation.threshold 5000
/-! PDSrc: the laws' source of draws: made from the script, drawn from. -/
namespace PD
open PySem PySem.Spec L2 PDL
/-- a draw: any int from 0 to below the limit -/
def drawM : List D → M D
  | [.src, .int l] => .draw l fun i => .ret (.int i)
  | _ => .bad
abbrev rIxLL (K : PySem.W.Frag) : R2 := rIxL K
section
variable {X : Cx} {W : Wd}
/-- int(x), len(x) -/
abbrev rInt1 : List V → Hp → VK → Prop := fun xs H Q => (∃ i, xs = [V.int i] ∧ Q (.int i) H) ∨ ∃ k, xs = [V.bl k] ∧ Q (.int (if k then 1 else 0)) H
abbrev rLenS (K : PySem.W.Frag) : List V → Hp → VK → Prop := fun xs H Q => ∃ p ys, xs = [.ref p] ∧ (SqL K H p ys ∨ SqT K H p ys) ∧ Q (.int ys.length) H
def tDraw (K : PySem.W.Frag) (rest : TS) : TS :=
  tSeq (tAsg (tVar 0) (gLst K 2 (gCons (gName 2) (gCons (gName 3) gNil))))
  (tSeq (tAsg (tOp (rI (fun _ j => 0 < j) fun i j => .int (i % j)) (tCB rInt1 (tCons (tVar 3) tNil)) (tCB (rLenS K) (tCons (tVar 2) tNil))) (gName 4))
  (tSeq (tAsg (tOp (rIxL K) (tVar 2) (tVar 4)) (gName 5))
  (tSeq (tAsg (tOp (rI0 fun i j => .int (i + j)) (tVar 3) (tC (.int 1))) (gSub (tVar 0) (tC (.int 1)) rSetL))
  (tSeq (tIfS (tTest (tOp (rI0 fun i j => .bl (decide (j ≤ i))) (tVar 5) (tOp (rI CPowW fun i j => .int (i ^ j.toNat)) (tC (.int 10)) (tC (.int 18)))))
      (tSeq (tAsg (tOp (rI CDivW fun i j => .int (i / j)) (tVar 5) (tVar 1)) (gSub (tVar 2) (tVar 4) rSetL))
        (tRet (tOp (rI (fun _ j => 0 < j) fun i j => .int (i % j)) (tCB rInt1 (tCons (tVar 5) tNil)) (tVar 1)))) tNext) rest))))
theorem draw_read {K : PySem.W.Frag} {rest : TS} {Dn : Ends} {a c : Addr} {l t : Int} {cells : List Int} {H : Hp} {more : L2.St} {p : Nat} (hac : a ≠ c) (ha : H a = some (.lst [.ref c, .int t])) (hc : H c = some (.lst (cells.map V.int))) (ht : 0 ≤ t) (hne : cells ≠ []) (hl : 0 < l) (hl2 : l.natAbs.log2 < 9000) (hp : (p : Int) = t % cells.length) (hpl : p < cells.length)
    (big : (10 : Int) ^ 18 ≤ cells[p] → Dn.rt (.int (cells[p] % l)) (upd (upd H a (.lst [.ref c, .int (t + 1)])) c (.lst ((cells.set p (cells[p] / l)).map V.int))))
    (small : ¬ (10 : Int) ^ 18 ≤ cells[p] → rest Dn (some (.ref a) :: some (.int l) :: some (.ref c) :: some (.int t) :: some (.int p) :: some (.int cells[p]) :: more) (upd H a (.lst [.ref c, .int (t + 1)]))) :
    tDraw K rest Dn (some (.ref a) :: some (.int l) :: none :: none :: none :: none :: more) H := by
  refine ⟨.ref a, rfl, a, _, rfl, SqL.of ha, rfl, .ref c, [.int t], rfl, .int t, [], rfl, rfl, ?_⟩
  have hlen : (cells.map V.int).length = cells.length := List.length_map _
  refine ⟨.int t, rfl, .inl ⟨t, rfl, .ref c, rfl, c, _, rfl, .inl (SqL.of hc), t, cells.length, rfl, by rw [hlen], ?_, ?_⟩⟩
  · have : 0 < cells.length := by omega
    omega
  · have hq : t % (cells.length : Int) = p := hp.symm
    simp only [hq]
    refine ⟨.ref c, rfl, .int p, rfl, c, cells.map V.int, p, .int cells[p], rfl, rfl, SqL.of hc, ?_, ?_⟩
    · unfold atI ixN
      rw [if_pos (by omega), hlen, if_pos (by omega)]
      simp [hpl]
    · refine ⟨.int t, rfl, t, 1, rfl, rfl, ?_⟩
      refine ⟨.ref a, rfl, ?_⟩
      refine ⟨a, _, 1, 1, rfl, rfl, ha, rfl, ?_⟩
      have hc' : (upd H a (.lst [.ref c, .int (t + 1)])) c = some (.lst (cells.map V.int)) := by rw [upd_ne (Ne.symm hac)]; exact hc
      have pw : CPowW 10 18 := by unfold CPowW; decide
      refine ⟨.int cells[p], rfl, ?_⟩
      refine ⟨10, 18, rfl, rfl, pw, ?_⟩
      refine ⟨cells[p], _, rfl, rfl, ?_⟩
      refine ⟨_, rfl, ?_⟩
      have e18 : (10 : Int) ^ (18 : Int).toNat = 10 ^ 18 := rfl
      by_cases hb : (10 : Int) ^ 18 ≤ cells[p]
      · have hd : decide ((10 : Int) ^ (18 : Int).toNat ≤ cells[p]) = true := decide_eq_true hb
        rw [hd]
        dsimp only
        rw [if_pos rfl]
        refine ⟨.int cells[p], rfl, .int l, rfl, cells[p], l, rfl, rfl, ⟨hl, hl2⟩, .ref c, rfl, .int p, rfl, c, cells.map V.int, p, p, rfl, rfl, hc', ?_, ?_⟩
        · unfold ixN
          rw [if_pos (by omega), hlen, if_pos (by omega)]
          simp
        · refine ⟨.int cells[p], rfl, .inl ⟨cells[p], rfl, .int l, rfl, cells[p], l, rfl, rfl, hl, ?_⟩⟩
          rw [← List.map_set]
          exact big hb
      · have hd : decide ((10 : Int) ^ (18 : Int).toNat ≤ cells[p]) = false := decide_eq_false hb
        rw [hd]
        dsimp only
        rw [if_neg Bool.false_ne_true]
        exact small hb

/-! ### the rest of a draw: small cells -/
def dInt (f : Env → M D) : Env → M D := eCall (arg1 intM) (eCons f eNil)
def dI (i : Int) : Env → M D := eC (.int i)
def drN1 : Env → M D := e2 modM (dInt (e2 addM (e2 addM (e2 mulM (e2 modM (dInt (eV 5)) (dI 2147483629)) (dI 48271)) (e2 mulM (e2 mulM (eV 3) (eV 3)) (dI 69621))) (dI 11))) (dI 2147483647)
def drN2 (k : Int) : Env → M D := e2 modM (dInt (e2 mulM (eV 6) (eV 6))) (dI k)
def drO : Env → M D := e2 modM (dInt (e2 addM (e2 addM (e2 mulM (eV 6) (dI 39373)) (e2 mulM (eV 3) (dI 7919))) (dI 500))) (dI 2147483629)
def drP : Env → M D := e2 mulM (eV 6) (e2 addM (e2 mulM (e2 mulM (eV 7) (eV 7)) (eV 7)) (dI 1))
def drR : Env → M D := e2 modM (dInt (eV 6)) (eV 1)
def drT : Env → M Bool := eTest (e2 gtM (eV 1) (e2 powM (dI 10) (dI 9)))
/-- with the branch for great limits -/
def drTail1 : Env → M (Fl × Env) := sSeq (sSet 6 drN1) (sSeq (sSet 6 (drN2 2147483629)) (sSeq (sSet 6 (drN2 2147483587)) (sSeq (sIf drT (sSeq (sSet 7 drO) (sSet 6 drP)) sSkip) (sRet drR))))
/-- without it -/
def drTail2 : Env → M (Fl × Env) := sSeq (sSet 6 drN1) (sSeq (sSet 6 (drN2 2147483629)) (sSeq (sSet 6 (drN2 2147483587)) (sRet drR)))
theorem mulM_ok {i j : Int} {a b : Nat} (ha : i.natAbs < 2 ^ a) (hb : j.natAbs < 2 ^ b) (h0 : 0 < a) (h1 : 0 < b) (h : a + b ≤ 1000000) : mulM (.int i) (.int j) = .ret (.int (i * j)) := if_pos (wide_mul ha hb h0 h1 h)
theorem modM_ok {i j : Int} (h : 0 < j) : modM (.int i) (.int j) = .ret (.int (i % j)) := if_pos h
theorem sSeq_set {i : Nat} {f : Env → M D} {t : Env → M (Fl × Env)} {e : Env} {d : D} (h : f e = .ret d) : sSeq (sSet i f) t e = t (e.set i (.v d)) := by
  unfold sSeq sSet
  rw [h]
  rfl
theorem small_mod {i k : Int} {a : Nat} (hk : 0 < k) (h : k ≤ 2 ^ a) : (i % k).natAbs < 2 ^ a := by
  have h1 := Int.emod_nonneg i (by omega : k ≠ 0)
  have h2 := Int.emod_lt_of_pos i hk
  have h3 : ((2 ^ a : Nat) : Int) = (2 : Int) ^ a := by simp
  omega
section
variable {l t c : Int} {p : D} {e7 : Slot}
abbrev drEnv (l t c : Int) (p : D) (n : Slot) (m : List Slot) : Env := [.v .src, .v (.int l), .no, .v (.int t), .v p, .v (.int c), n] ++ m
theorem drN1_ok {n : Slot} {m : List Slot} (ht : t.natAbs < 2 ^ 400) : ∃ x : Int, drN1 (drEnv l t c p n m) = .ret (.int x) ∧ x.natAbs < 2 ^ 31 := by
  have h1 := mulM_ok (i := c % 2147483629) (j := 48271) (a := 31) (b := 16) (small_mod (by decide) (by decide)) (by decide) (by decide) (by decide) (by decide)
  have h2 := mulM_ok (i := t) (j := t) (a := 400) (b := 400) ht ht (by decide) (by decide) (by decide)
  have h3 := mulM_ok (i := t * t) (j := 69621) (a := 800) (b := 17) (wide_lt ht ht) (by decide) (by decide) (by decide) (by decide)
  refine ⟨_, ?_, small_mod (i := c % 2147483629 * 48271 + t * t * 69621 + 11) (k := 2147483647) (by decide) (by decide)⟩
  simp only [drN1, dInt, dI, e2, eCall, eCons, eNil, eC, eV, getV, arg1, intM, addM, List.cons_append, List.getElem?_cons_succ, List.getElem?_cons_zero, ret_bind, modM_ok (show (0 : Int) < 2147483629 by decide), modM_ok (show (0 : Int) < 2147483647 by decide), h1, h2, h3]
theorem drN2_ok {x k : Int} {m : List Slot} (hx : x.natAbs < 2 ^ 31) (hk : 0 < k) (hk2 : k ≤ 2 ^ 31) : ∃ y : Int, drN2 k (drEnv l t c p (.v (.int x)) m) = .ret (.int y) ∧ y.natAbs < 2 ^ 31 := by
  have h1 := mulM_ok (i := x) (j := x) (a := 31) (b := 31) hx hx (by decide) (by decide) (by decide)
  refine ⟨_, ?_, small_mod (i := x * x) (k := k) hk hk2⟩
  simp only [drN2, dInt, dI, e2, eCall, eCons, eNil, eC, eV, getV, arg1, intM, List.cons_append, List.getElem?_cons_succ, List.getElem?_cons_zero, ret_bind, modM_ok hk, h1]
theorem drR_ok {x : Int} {m : List Slot} (hl : 0 < l) : drR (drEnv l t c p (.v (.int x)) m) = .ret (.int (x % l)) := by
  simp only [drR, dInt, dI, e2, eCall, eCons, eNil, eC, eV, getV, arg1, intM, List.cons_append, List.getElem?_cons_succ, List.getElem?_cons_zero, ret_bind, modM_ok hl]
theorem drTail2_ok (ht : t.natAbs < 2 ^ 400) (hl : 0 < l) : ∃ x env', 0 ≤ x ∧ x < l ∧ drTail2 (drEnv l t c p .no []) = .ret (.rt (.int x), env') := by
  obtain ⟨x1, h1, b1⟩ := drN1_ok (l := l) (c := c) (p := p) (n := .no) (m := []) ht
  obtain ⟨x2, h2, b2⟩ := drN2_ok (l := l) (t := t) (c := c) (p := p) (m := []) b1 (show (0 : Int) < 2147483629 by decide) (by decide)
  obtain ⟨x3, h3, b3⟩ := drN2_ok (l := l) (t := t) (c := c) (p := p) (m := []) b2 (show (0 : Int) < 2147483587 by decide) (by decide)
  refine ⟨x3 % l, drEnv l t c p (.v (.int x3)) [], Int.emod_nonneg _ (by omega), Int.emod_lt_of_pos _ hl, ?_⟩
  unfold drTail2
  rw [sSeq_set h1]
  refine (sSeq_set (e := drEnv l t c p (.v (.int x1)) []) h2).trans ?_
  refine (sSeq_set (e := drEnv l t c p (.v (.int x2)) []) h3).trans ?_
  show sRet drR (drEnv l t c p (.v (.int x3)) []) = _
  unfold sRet
  rw [drR_ok hl]
  rfl
theorem drO_ok {x : Int} {m : List Slot} (hx : x.natAbs < 2 ^ 31) (ht : t.natAbs < 2 ^ 400) : ∃ y : Int, drO (drEnv l t c p (.v (.int x)) m) = .ret (.int y) ∧ y.natAbs < 2 ^ 31 := by
  have h1 := mulM_ok (i := x) (j := 39373) (a := 31) (b := 16) hx (by decide) (by decide) (by decide) (by decide)
  have h2 := mulM_ok (i := t) (j := 7919) (a := 400) (b := 13) ht (by decide) (by decide) (by decide) (by decide)
  refine ⟨_, ?_, small_mod (i := x * 39373 + t * 7919 + 500) (k := 2147483629) (by decide) (by decide)⟩
  simp only [drO, dInt, dI, e2, eCall, eCons, eNil, eC, eV, getV, arg1, intM, addM, List.cons_append, List.getElem?_cons_succ, List.getElem?_cons_zero, ret_bind, modM_ok (show (0 : Int) < 2147483629 by decide), h1, h2]
theorem drP_ok {x y : Int} (hx : x.natAbs < 2 ^ 31) (hy : y.natAbs < 2 ^ 31) : ∃ z : Int, drP (drEnv l t c p (.v (.int x)) [.v (.int y)]) = .ret (.int z) := by
  have h1 := mulM_ok (i := y) (j := y) (a := 31) (b := 31) hy hy (by decide) (by decide) (by decide)
  have h2 := mulM_ok (i := y * y) (j := y) (a := 62) (b := 31) (wide_lt hy hy) hy (by decide) (by decide) (by decide)
  have b3 : (y * y * y + 1).natAbs < 2 ^ 94 := by
    have := wide_lt (wide_lt hy hy) hy
    omega
  have h3 := mulM_ok (i := x) (j := y * y * y + 1) (a := 31) (b := 94) hx b3 (by decide) (by decide) (by decide)
  refine ⟨x * (y * y * y + 1), ?_⟩
  simp only [drP, dI, e2, eC, eV, getV, addM, List.cons_append, List.nil_append, List.getElem?_cons_succ, List.getElem?_cons_zero, ret_bind, h1, h2, h3]
theorem drT_ok {n : Slot} {m : List Slot} : drT (drEnv l t c p n m) = .ret (decide ((10 : Int) ^ 9 < l)) := by
  have h1 : powM (.int 10) (.int 9) = .ret (.int (10 ^ 9)) := by
    show (if (0 : Int) ≤ 9 ∧ ((10 : Int).natAbs.log2 + 1) * (9 : Int).toNat ≤ 1000000 then M.ret (D.int ((10 : Int) ^ (9 : Int).toNat)) else M.bad) = _
    rw [if_pos (by decide)]
    rfl
  simp only [drT, eTest, dI, e2, eC, eV, getV, List.cons_append, List.getElem?_cons_succ, List.getElem?_cons_zero, ret_bind, h1]
  rfl
theorem drTail1_ok (ht : t.natAbs < 2 ^ 400) (hl : 0 < l) : ∃ x env', 0 ≤ x ∧ x < l ∧ drTail1 (drEnv l t c p .no [.no]) = .ret (.rt (.int x), env') := by
  obtain ⟨x1, h1, b1⟩ := drN1_ok (l := l) (c := c) (p := p) (n := .no) (m := [.no]) ht
  obtain ⟨x2, h2, b2⟩ := drN2_ok (l := l) (t := t) (c := c) (p := p) (m := [.no]) b1 (show (0 : Int) < 2147483629 by decide) (by decide)
  obtain ⟨x3, h3, b3⟩ := drN2_ok (l := l) (t := t) (c := c) (p := p) (m := [.no]) b2 (show (0 : Int) < 2147483587 by decide) (by decide)
  obtain ⟨y, h4, b4⟩ := drO_ok (l := l) (t := t) (c := c) (p := p) (m := [.no]) b3 ht
  obtain ⟨z, h5⟩ := drP_ok (l := l) (t := t) (c := c) (p := p) b3 b4
  have ends : ∀ {x : Int} {o : Slot}, ∃ r env', 0 ≤ r ∧ r < l ∧ sRet drR (drEnv l t c p (.v (.int x)) [o]) = .ret (.rt (.int r), env') := fun {x o} => by
    refine ⟨x % l, drEnv l t c p (.v (.int x)) [o], Int.emod_nonneg _ (by omega), Int.emod_lt_of_pos _ hl, ?_⟩
    unfold sRet
    rw [drR_ok hl]
    rfl
  have go : drTail1 (drEnv l t c p .no [.no]) = sSeq (sIf drT (sSeq (sSet 7 drO) (sSet 6 drP)) sSkip) (sRet drR) (drEnv l t c p (.v (.int x3)) [.no]) := by
    unfold drTail1
    rw [sSeq_set h1]
    refine (sSeq_set (e := drEnv l t c p (.v (.int x1)) [.no]) h2).trans ?_
    exact sSeq_set (e := drEnv l t c p (.v (.int x2)) [.no]) h3
  rw [go]
  by_cases hb : (10 : Int) ^ 9 < l
  · obtain ⟨r, env', h6, h7, h8⟩ := ends (x := z) (o := .v (.int y))
    refine ⟨r, env', h6, h7, ?_⟩
    have e1 : sIf drT (sSeq (sSet 7 drO) (sSet 6 drP)) sSkip (drEnv l t c p (.v (.int x3)) [.no]) = .ret (.nx, drEnv l t c p (.v (.int z)) [.v (.int y)]) := by
      unfold sIf
      rw [drT_ok, decide_eq_true hb]
      show sSeq (sSet 7 drO) (sSet 6 drP) _ = _
      rw [sSeq_set h4]
      show sSet 6 drP (drEnv l t c p (.v (.int x3)) [.v (.int y)]) = _
      unfold sSet
      rw [h5]
      rfl
    unfold sSeq at e1 ⊢
    rw [e1]
    exact h8
  · obtain ⟨r, env', h6, h7, h8⟩ := ends (x := x3) (o := .no)
    refine ⟨r, env', h6, h7, ?_⟩
    have e1 : sIf drT (sSeq (sSet 7 drO) (sSet 6 drP)) sSkip (drEnv l t c p (.v (.int x3)) [.no]) = .ret (.nx, drEnv l t c p (.v (.int x3)) [.no]) := by
      unfold sIf
      rw [drT_ok, decide_eq_false hb]
      rfl
    unfold sSeq at e1 ⊢
    rw [e1]
    exact h8
end
/-! ### a draw's body as a promise -/
section
variable {K : PySem.W.Frag} {W : Wd}
theorem log_small {l : Int} (hl : 0 < l) (h : l < 2 ^ 4000) : l.natAbs.log2 < 9000 := by
  have h1 : l.natAbs < 2 ^ 4000 := by
    have h2 : ((2 ^ 4000 : Nat) : Int) = (2 : Int) ^ 4000 := by simp
    omega
  exact Nat.lt_of_lt_of_le (PySem.Flt.log2_lt_of (by decide) h1) (by decide)
theorem drEnv_get {l t c : Int} {p : D} {mo : List Slot} {i : Nat} {s : Slot} (hmo : mo = List.replicate mo.length .no) (h : (drEnv l t c p .no mo)[i]? = some s) :
    (s = .v .src ∧ i = 0 ∧ True) ∨ (s = .v (.int l) ∧ i = 1 ∧ True) ∨ (s = .v (.int t) ∧ i = 3 ∧ True) ∨ (s = .v p ∧ i = 4 ∧ True) ∨ (s = .v (.int c) ∧ i = 5 ∧ True) ∨ s = .no := by
  match i, h with
  | 0, h => cases h; exact .inl ⟨rfl, rfl, trivial⟩
  | 1, h => cases h; exact .inr (.inl ⟨rfl, rfl, trivial⟩)
  | 2, h => cases h; exact .inr (.inr (.inr (.inr (.inr rfl))))
  | 3, h => cases h; exact .inr (.inr (.inl ⟨rfl, rfl, trivial⟩))
  | 4, h => cases h; exact .inr (.inr (.inr (.inl ⟨rfl, rfl, trivial⟩)))
  | 5, h => cases h; exact .inr (.inr (.inr (.inr (.inl ⟨rfl, rfl, trivial⟩))))
  | 6, h => cases h; exact .inr (.inr (.inr (.inr (.inr rfl))))
  | i + 7, h =>
    have h : mo[i]? = some s := h
    rw [hmo] at h
    exact .inr (.inr (.inr (.inr (.inr (List.mem_replicate.mp (List.mem_of_getElem? h)).2))))
/-- the state behind a change of the source alone -/
theorem Sim.drawn {B I0 I H H' : Hp} {n n' : Nat} {a c : Addr} (hS : W.S = some (a, c)) (hac : a ≠ c) (S : Sim0 W B I0 n I H) (h : ∀ b, b ≠ a → b ≠ c → H' b = H b) (src : SrcOk W.S n' H') : Sim0 W B I0 n' I H' := by
  have key : ∀ {b : Addr}, NotS W.S b → H' b = H b := fun {b} hb => h b (hb a c hS hac).1 (hb a c hS hac).2
  refine ⟨fun b o e => ?_, S.i0, fun b o hb e => ?_, S.fresh, S.nos, src, rfl, fun i d h => by simp at h, fun i d h => by simp at h, fun i d h => by simp at h, fun i j d e h => by simp at h⟩
  · rw [key (S.nos b o e)]; exact S.sub b o e
  · rw [key hb]; exact S.base b o hb e
/-- the whole body's reading: mo: the slots behind the number's; tail: the rest -/
theorem draw_all {N : List Str} {tail : Env → M (Fl × Env)} {mo : List Slot} {vs : List V} {H : Hp} {Q : VK} {E : XK} (hN : N.length = 7 + mo.length) (hmo : mo = List.replicate mo.length .no)
    (ht : ∀ l t c p, t.natAbs < 2 ^ 400 → 0 < l → ∃ x env', 0 ≤ x ∧ x < l ∧ tail (drEnv l t c p .no mo) = .ret (.rt (.int x), env')) (h : SpD W [.val, .val] drawM vs H Q E) :
    ∃ I : Hp, tDraw K (tS ⟨W, H, I⟩ (exE W E) tail) { nx := fun _ H' => Q .non H', rt := Q } (L2.start N vs) H := by
  obtain ⟨n, I, ds, S, ra, q⟩ := h
  obtain ⟨v, d, w, e, rfl, rfl, r1, r2⟩ := ra.two
  cases d <;> first | exact False.elim q | skip
  cases e <;> first | exact False.elim q | skip
  rename_i l
  obtain ⟨hl, hl2, n', rfl, k⟩ := q
  have rs : Rep W I v .src := r1
  have rl : w = .int l := r2.int
  subst rl
  cases rs with
  | @src a c hS =>
    have hsrc := S.src
    have hsrc' : SrcOk (some (a, c)) (n' + 1) H := hS ▸ hsrc
    rcases hsrc' with ⟨_, z⟩ | ⟨hac, t, cells, ha, hc, h0, hb, hne, h63, hbd⟩
    · exact absurd z (Nat.succ_ne_zero _)
    have hlen : 0 < cells.length := List.length_pos_iff.mpr hne
    have hp0 := Int.emod_nonneg t (by omega : (cells.length : Int) ≠ 0)
    have hp1 := Int.emod_lt_of_pos t (by omega : (0 : Int) < cells.length)
    obtain ⟨p, hp⟩ : ∃ p : Nat, (p : Int) = t % cells.length := ⟨(t % cells.length).toNat, Int.toNat_of_nonneg hp0⟩
    have hpl : p < cells.length := by omega
    have es : L2.start N [V.ref a, .int l] = some (.ref a) :: some (.int l) :: none :: none :: none :: none :: (none :: List.replicate mo.length none) := by
      unfold L2.start
      rw [hN]
      show _ ++ List.replicate (7 + mo.length - 2) none = _
      rw [show 7 + mo.length - 2 = mo.length + 1 + 1 + 1 + 1 + 1 by omega]
      rfl
    rw [es]
    have src1 : ∀ {cs : List Int} {H' : Hp}, H' a = some (.lst [.ref c, .int (t + 1)]) → H' c = some (.lst (cs.map V.int)) → cs ≠ [] → cs.length ≤ 63 → (∀ x ∈ cs, x.natAbs < 2 ^ 4000) → SrcOk W.S n' H' := fun {cs H'} e1 e2 e3 e4 e5 => by
      rw [hS]
      exact .inr ⟨hac, t + 1, cs, e1, e2, by omega, by push_cast at hb; omega, e3, e4, e5⟩
    have hc' : (upd H a (.lst [.ref c, .int (t + 1)])) c = some (.lst (cells.map V.int)) := by rw [upd_ne (Ne.symm hac)]; exact hc
    refine ⟨I, draw_read hac ha hc h0 hne hl (log_small hl hl2) hp hpl (fun big => ?_) fun small => ?_⟩
    · have hcell := Int.emod_nonneg cells[p] (by omega : l ≠ 0)
      refine k (cells[p] % l) hcell (Int.emod_lt_of_pos _ hl) _ I _ (S.drawn hS hac (fun b h1 h2 => by rw [upd_ne h2, upd_ne h1]) (src1 (by rw [upd_ne hac]; exact upd_same) upd_same ?_ (by rw [List.length_set]; exact h63) fun x hx => ?_)) (.int _)
      · intro z
        have := congrArg List.length z
        rw [List.length_set] at this
        simp at this
        exact hne (by simpa using this)
      · rcases List.mem_or_eq_of_mem_set hx with h | rfl
        · exact hbd x h
        · have h1 := hbd cells[p] (List.getElem_mem hpl)
          have h2 : (0 : Int) ≤ cells[p] := Int.le_trans (by decide) big
          have h3 := Int.ediv_nonneg h2 (Int.le_of_lt hl)
          have h4 := Int.ediv_le_self l h2
          omega
    · have S1 : Sim0 W H I n' I (upd H a (.lst [.ref c, .int (t + 1)])) := S.drawn hS hac (fun b h1 h2 => upd_ne h1) (src1 upd_same hc' hne h63 hbd)
      have ht400 : t.natAbs < 2 ^ 400 := by
        have h3 : ((2 ^ 400 : Nat) : Int) = (2 : Int) ^ 400 := by simp
        push_cast at hb
        omega
      obtain ⟨x, env', x0, x1, ex⟩ := ht l t cells[p] (.int p) ht400 hl
      refine ⟨n', drEnv l t cells[p] (.int p) .no mo, ad0, I, ⟨S1.sub, S1.i0, S1.base, S1.fresh, S1.nos, S1.src, ?_, fun i d h => ?_, fun i d h => ?_, fun i d h => ?_, fun i j d e h => ?_⟩, ?_⟩
      · simp
      · rcases drEnv_get hmo h with ⟨h, e, q⟩ | ⟨h, e, q⟩ | ⟨h, e, q⟩ | ⟨h, e, q⟩ | ⟨h, e, q⟩ | h
        · subst e; exact ⟨_, rfl, by cases h; exact .src hS⟩
        · subst e; exact ⟨_, rfl, by cases h; exact .int l⟩
        · subst e; exact ⟨_, rfl, by cases h; exact .int t⟩
        · subst e; exact ⟨_, rfl, by cases h; exact .int p⟩
        · subst e; exact ⟨_, rfl, by cases h; exact .int _⟩
        · cases h
      · rcases drEnv_get hmo h with ⟨h, e, q⟩ | ⟨h, e, q⟩ | ⟨h, e, q⟩ | ⟨h, e, q⟩ | ⟨h, e, q⟩ | h <;> cases h
      · rcases drEnv_get hmo h with ⟨h, e, q⟩ | ⟨h, e, q⟩ | ⟨h, e, q⟩ | ⟨h, e, q⟩ | ⟨h, e, q⟩ | h <;> cases h
      · rcases drEnv_get hmo h with ⟨h, e, q⟩ | ⟨h, e, q⟩ | ⟨h, e, q⟩ | ⟨h, e, q⟩ | ⟨h, e, q⟩ | h <;> cases h
      · rw [ex]
        exact fun ad' σ' I' H' v S' i r => k x x0 x1 v I' H' S'.bare r
end
end
end PD

set_option Elab.async false
set_option linter.all false
set_option maxRecDepth 100000
set_option maxHeartbeats 4000000
/-! PDProp: properties of own objects, read. -/
namespace PD
open PySem PySem.Spec L2 PDL
section
variable {C : Ctx} {ex : Ex} {X : Cx} {e : Expr} {f : Env → M D} {pos : Pos}
/-- e.nm, nm a property that returns the attribute fl -/
theorem pm_prop {c k : Nat} {nm fl : Str} {p g : Addr} {fd : FuncData} (hx : C.W.isX c = false) (T : Cls X.K (C.W.cls c)) (hp : PropOf X.K (C.W.cls c) nm p g) (F : FnOk X.prog X.w X.K X.mg X.base (L2.CX X.prog X.w) k g fd ["self"] (getSp (C.W.cls c) fl)) (hr : Room (k + 1) X.A) (hb : L2.Binds X.K fd ["self"] [])
    (ha : PM .rd C ex X e f) (hab : attributeBase e nm X.env (eval e X.env) = eval e X.env := by rfl) : PM .val C ex X (.Attribute e nm pos) (e1 (fldM [c] fl) f) :=
  PE_imp (pe_prop (dvs := []) (E := fun _ _ _ => False) ha T hp F hr hb .nil passL hab) fun σ H Q q => by
    obtain ⟨n, env, ad, I, S, q⟩ := q
    have q : AllB (f env >>= fldM [c] fl) n (Po .val C env ad σ I H Q) (Pe C ex env ad σ I H) := q
    rw [allB_bind] at q
    refine ⟨n, env, ad, I, S, q.mono (fun n1 d q1 => ?_) fun _ _ _ k => k⟩
    intro v1 I1 H1 s1 i1 x1 r1
    obtain ⟨c', ds, d', rfl, hc, hl, q2⟩ := fldM_in q1
    obtain rfl : c' = c := by simpa using hc
    obtain ⟨a, rfl, ⟨_, dx, vs, h, r⟩ | ⟨hx', _⟩⟩ := r1.obj s1
    · obtain ⟨v, h1, h2⟩ := r.lookup hl
      exact ⟨a, dx, vs, rfl, h, a, dx, vs, v, rfl, h, h1, q2 v I1 H1 s1 i1 x1 h2⟩
    · rw [hx] at hx'; cases hx'
end
end PD

set_option Elab.async false
set_option linter.all false
set_option maxRecDepth 100000
set_option maxHeartbeats 4000000
/-! PDHead: facts of the program's top, read off the heap behind it by one run; defs by names; the end. -/
namespace PDL
open PySem PySem.Spec L2 PyProof.Rows
/-! ### defs -/
abbrev Ck := PySem.W.Frag → Bool
/-- a def: where it stands, names, text, defaults -/
structure DefP where
  adr : PySem.W.Frag → Addr
  name : Str
  qual : Str
  st : Stmt
  dfl : List He.Dv := []
  /-- captured names -/
  clo : List Str := []
/-- the names of what is captured -/
def cloN (l : List (Str × Addr)) : List (Str × Addr) := l.map fun p => (p.1, 0)
def sigP (K : PySem.W.Frag) (a : Addr) : He.FnW := (K.lookup a).bind fun o => match o.data with
  | .func u => some (u.name, u.qualname, u.params, u.body, u.scope, u.globals, cloN u.closure, u.builtins)
  | _ => none
def DefP.sig (d : DefP) : He.FnW := some (d.name, d.qual, defArgs d.st, .stmts (defBody d.st), defScope d.st, mainGlobals, d.clo.map fun x => (x, 0), builtinsNs)
def DefP.dvs (K : PySem.W.Frag) (d : DefP) : List V := d.dfl.map (He.Dv.v K)
def DefP.ck (d : DefP) : Ck := fun K => PySem.W.keepIn K (.ref (d.adr K)) && match K.lookup (d.adr K) with
  | some o => (match o.data with
    | .func u => PySem.W.codeIn K u.code d.qual && He.dflB K u.defaults (d.dvs K)
    | _ => false)
  | none => false
theorem DefP.fn {K : PySem.W.Frag} {d : DefP} (h : sigP K (d.adr K) = d.sig) (c : d.ck K = true) (hc : d.clo = []) : ∃ fd, FunD K d.name d.qual (defArgs d.st) (defBody d.st) (defScope d.st) (d.dvs K) [] (d.adr K) fd := by
  obtain ⟨k1, k2⟩ := He.ba c
  cases e : K.lookup (d.adr K) with
  | none => rw [e] at k2; cases k2
  | some o =>
    unfold sigP at h
    rw [e] at k2 h
    obtain ⟨oc, od, u, os⟩ := o
    cases u with
    | func u =>
      obtain ⟨k3, k4⟩ := He.ba (show (PySem.W.codeIn K u.code d.qual && He.dflB K u.defaults (d.dvs K)) = true from k2)
      have h' : (some (u.name, u.qualname, u.params, u.body, u.scope, u.globals, cloN u.closure, u.builtins) : He.FnW) = d.sig := h
      obtain ⟨u1, u2, u3, u4, u5, u6, u7, u8, u9, u10, u11, u12, u13, u14, u15⟩ := u
      simp only [DefP.sig, hc, List.map_nil, cloN, Option.some.injEq, Prod.mk.injEq, List.map_eq_nil_iff] at h'
      obtain ⟨rfl, rfl, rfl, rfl, rfl, rfl, rfl, rfl⟩ := h'
      exact ⟨_, ⟨oc, od, _, _, _, _, _, _, _, os, rfl, e, k3, He.dflB_ok k4, .inl rfl⟩, k1⟩
    | _ => cases k2
/-! ### the hook -/
def frP (g : Addr → Option Obj) (n : Nat) : PySem.W.Frag := He.frG g (sysModules :: cStatics :: He.asD g n)
abbrev AlP : Type := Bool × List He.FnW
def obsP (ck : List Ck) (fn : List DefP) (K : PySem.W.Frag) : AlP := ((ck.all fun f => f K) && fn.all fun d => d.ck K, fn.map fun d => sigP K (d.adr K))
def valP (fn : List DefP) : AlP := (true, fn.map DefP.sig)
def SaysP (ck : List Ck) (fn : List DefP) (K : PySem.W.Frag) : Prop := obsP ck fn K = valP fn
def obsPG (n : Nat) (ck : List Ck) (fn : List DefP) (g : Addr → Option Obj) : AlP := obsP ck fn (frP g n)
def hookP (n : Nat) (ck : List Ck) (fn : List DefP) : PySem.W.Hook where
  α := AlP
  obs := fun s => obsPG n ck fn s.heap.get?
  val := fun _ => valP fn
  says := fun _ h => ∃ K : PySem.W.Frag, K.In h ∧ SaysP ck fn K
  of := fun _ _ e => ⟨_, He.frG_in, e⟩
  keeps := fun _ _ _ ⟨K, hK, c⟩ k => ⟨K, PySem.W.Frag.In.keeps hK k, c⟩
theorem obsPG_eq {n : Nat} {ck : List Ck} {fn : List DefP} {g : Addr → Option Obj} {s : Shared} (h : ∀ a, g a = s.heap.get? a) : obsPG n ck fn g = (hookP n ck fn).obs s := by
  obtain rfl : g = s.heap.get? := funext h
  rfl
section
variable {ck : List Ck} {fns : List DefP} {K : PySem.W.Frag}
theorem SaysP.ok (c : SaysP ck fns K) (i : Nat) {f : Ck} (h : ck[i]? = some f := by rfl) : f K = true := by
  have := (He.ba (show ((ck.all fun f => f K) && fns.all fun d => d.ck K) = true from congrArg (fun z : AlP => z.1) c)).1
  exact List.all_eq_true.mp this f (List.mem_of_getElem? h)
theorem SaysP.fn (c : SaysP ck fns K) (i : Nat) {d : DefP} (h : fns[i]? = some d := by rfl) (hc : d.clo = [] := by rfl) : ∃ fd, FunD K d.name d.qual (defArgs d.st) (defBody d.st) (defScope d.st) (d.dvs K) [] (d.adr K) fd := by
  have h1 := (He.ba (show ((ck.all fun f => f K) && fns.all fun d => d.ck K) = true from congrArg (fun z : AlP => z.1) c)).2
  have h2 : (fns.map fun d => sigP K (d.adr K))[i]? = (fns.map DefP.sig)[i]? := congrArg (·[i]?) (congrArg (fun z : AlP => z.2) c)
  simp only [List.getElem?_map, h, Option.map_some, Option.some.injEq] at h2
  exact DefP.fn h2 (List.all_eq_true.mp h1 d (List.mem_of_getElem? h)) hc
end

/-! ### checks -/
variable {K : PySem.W.Frag}
/-- the module's name x is free -/
def kFree (x : Str) : Ck := fun K => He.eqO (PySem.W.nsIn K mainGlobals x) (some none)
/-- it stands for this object -/
def kGlo (x : Str) : Ck := fun K => He.eqO (PySem.W.nsIn K mainGlobals x) (some (some (.ref (He.ga K x))))
def kInt (x : Str) (i : Int) : Ck := fun K => (He.Fa.int x i).ok K
def kStr (x z : Str) : Ck := fun K => (He.Fa.str x z).ok K
/-- the table of modules stands in the part -/
def kSys : Ck := fun K => (K.lookup sysModules).isSome
def optB (a b : Option Bool) : Bool := decide (a = b)
/-- which classes: names by number -/
abbrev Ns := List Str
def cAt (ns : Ns) (K : PySem.W.Frag) (c : Nat) : Addr := He.ga K (ns.getD c Str.empty)
def isfB (kit : PySem.W.Frag → Value → Option Bool) (ns : Ns) (isX : Nat → Bool) (bs : List PD.Ty) (tb : List (Nat × Bool)) : Ck := fun K =>
  optB (kit K (.type "NoneType")) (some false) && optB (kit K (.type "bool")) (some (bs.contains .bool)) && optB (kit K (.type "int")) (some (bs.contains .int)) && optB (kit K (.type "str")) (some (bs.contains .str)) &&
  optB (kit K (.type "list")) (some (bs.contains .list)) && optB (kit K (.type "tuple")) (some (bs.contains .tuple)) && optB (kit K (.type "dict")) (some (bs.contains .dict)) &&
  tb.all fun p => optB (kit K (.ref (cAt ns K p.1))) (some p.2)
def clsB (K : PySem.W.Frag) (C : Addr) : Bool := PySem.W.plainGet K C Str.empty && PySem.W.hasDictIn K C && PySem.W.plainOver K C && He.eqO (PySem.W.findIn K (.ref C) "__setattr__") (some (some (.builtin "object.__setattr__")))
def insB (K : PySem.W.Frag) (C : Addr) : Bool := clsB K C && He.eqO (PySem.W.findIn K (.ref C) "__class__") (some (some (.builtin "object.__class__"))) && He.eqO (PySem.W.specialIn K (.builtin "object.__class__") "__get__") (some (some (.builtin "getset_descriptor.__get__"))) &&
  optB (PySem.W.takesIn K (.builtin "object.__class__")) (some true) && optB (PySem.W.mroIn K C (.type "object")) (some true)
def excB (K : PySem.W.Frag) (C : Addr) : Bool := He.eqO (PySem.W.findIn K (.ref C) "__getattribute__") (some (some (.builtin "BaseException.__getattribute__"))) && He.eqO (PySem.W.findIn K (.ref C) "__getattr__") (some none) && optB (PySem.W.subIn K (.ref C) (.type "BaseException")) (some true) &&
  PySem.W.hasDictIn K C && He.eqO (PySem.W.findIn K (.ref C) "__class__") (some (some (.builtin "object.__class__"))) && He.eqO (PySem.W.specialIn K (.builtin "object.__class__") "__get__") (some (some (.builtin "getset_descriptor.__get__"))) &&
  optB (PySem.W.takesIn K (.builtin "object.__class__")) (some true) && optB (PySem.W.mroIn K C (.type "object")) (some true)
/-- a class: an own one, or an error -/
def kCls (ns : Ns) (isX : Nat → Bool) (c : Nat) : Ck := fun K => if isX c then excB K (cAt ns K c) else insB K (cAt ns K c)
theorem clsB_ok {C : Addr} (h : clsB K C = true) : Cls K C := by
  simp only [clsB, Bool.and_eq_true] at h
  exact ⟨h.1.1.1, h.1.1.2, h.1.2, He.eqO_ok h.2⟩
theorem insB_ok {C : Addr} (h : insB K C = true) : PD.InsF K C := by
  simp only [insB, optB, Bool.and_eq_true, decide_eq_true_eq] at h
  exact ⟨clsB_ok h.1.1.1.1, He.eqO_ok h.1.1.1.2, He.eqO_ok h.1.1.2, h.1.2, h.2⟩
theorem excB_ok {C : Addr} (h : excB K C = true) : ExcC K C := by
  simp only [excB, optB, Bool.and_eq_true, decide_eq_true_eq] at h
  exact ⟨He.eqO_ok h.1.1.1.1.1.1.1, He.eqO_ok h.1.1.1.1.1.1.2, h.1.1.1.1.1.2, h.1.1.1.1.2, He.eqO_ok h.1.1.1.2, He.eqO_ok h.1.1.2, h.1.2, h.2⟩
/-- the catching of error classes -/
def catchB (B : PySem.W.Frag → Value) (ns : Ns) (isX : Nat → Bool) (tb : List (Nat × Bool)) : Ck := fun K => tb.all fun p => optB (PySem.W.exmOne K (.ref (cAt ns K p.1)) (B K)) (some p.2) && isX p.1
/-- attributes -/
def fldB (ns : Ns) (isX : Nat → Bool) (cs : List Nat) (f : Str) : Ck := fun K => cs.all fun c => !isX c && clsB K (cAt ns K c) && He.eqO (PySem.W.findIn K (.ref (cAt ns K c)) f) (some none)
def fldxB (ns : Ns) (isX : Nat → Bool) (cs : List Nat) (f : Str) : Ck := fun K => cs.all fun c => isX c && xfB K (cAt ns K c) && He.eqO (PySem.W.findIn K (.ref (cAt ns K c)) f) (some none)
def oexB (K : PySem.W.Frag) (C : Addr) : Bool := (match K.lookup C with
  | some ⟨.type "type", _, .cls cd, ⟨[_, _, _, _, some (.builtin n), _]⟩⟩ => decide (n = "ValueError.__new__") && (match cd.mro with
    | .ref C' :: bm => decide (C' = C) && PySem.HandSPX.refsVE bm && cd.hasDict && !cd.hasDel
    | _ => false)
  | _ => false) && He.eqO (PySem.W.findIn K (.ref C) "__setattr__") (some (some (.builtin "object.__setattr__"))) && optB (PySem.W.subIn K (.ref C) (.type "BaseException")) (some true) && decide (PySem.W.typeIn K (.ref C) = some (.type "type")) && PySem.W.keepIn K (.ref C)
theorem oexB_ok {C : Addr} (h : oexB K C = true) : OexC K C := by
  simp only [oexB, optB, Bool.and_eq_true, decide_eq_true_eq] at h
  refine ⟨?_, He.eqO_ok h.1.1.1.2, h.1.1.2, h.1.2, h.2⟩
  have h1 := h.1.1.1.1
  split at h1
  · rename_i dd cd x1 x2 x3 x4 n x5 hl
    simp only [Bool.and_eq_true, decide_eq_true_eq] at h1
    obtain ⟨rfl, h2⟩ := h1
    split at h2
    · rename_i C' bm hm
      simp only [Bool.and_eq_true, decide_eq_true_eq, Bool.not_eq_true'] at h2
      obtain ⟨⟨⟨rfl, h3⟩, h4⟩, h5⟩ := h2
      obtain ⟨n1, n2, n3, n4, n5, n6, n7, n8, n9, n10, n11⟩ := cd
      simp only at hm h4 h5
      subst hm h4 h5
      exact ⟨_, _, _, _, _, _, _, _, _, _, _, _, _, _, _, hl, h3⟩
    · cases h2
  · cases h1
def initB (K : PySem.W.Frag) (C : Addr) : Bool := He.eqO (PySem.W.specialIn K (.ref C) "__getattribute__") (some (some (.builtin "type.__getattribute__"))) && PySem.W.readsIn K C (.type "type") && (match PySem.W.findCls K (.ref C) (.type "type") "__init__" with
  | some (.val (.builtin n)) => decide (n = "ValueError.__init__")
  | _ => false)
theorem initB_ok {C : Addr} (h : initB K C = true) : InitC K C := by
  simp only [initB, Bool.and_eq_true] at h
  refine ⟨He.eqO_ok h.1.1, h.1.2, ?_⟩
  have h2 := h.2
  split at h2
  · rename_i n e
    rw [e, of_decide_eq_true h2]
  · cases h2
/-- an error class with a field f and an __init__ of its own -/
def kOex (ns : Ns) (c : Nat) (f : Str) : Ck := fun K => oexB K (cAt ns K c) && He.eqO (PySem.W.findIn K (.ref (cAt ns K c)) f) (some none) && He.eqO (PySem.W.findIn K (.ref (cAt ns K c)) "__init__") (some (some (.ref (He.ma K (cAt ns K c) "__init__")))) && decide (PySem.W.typeIn K (.ref (He.ma K (cAt ns K c) "__init__")) = some (.type "function"))
/-- an error class that is made by ValueError's __new__ and __init__ -/
def kErr (ns : Ns) (c : Nat) : Ck := fun K => PySem.W.excIn K (cAt ns K c) He.veBase "ValueError.__new__" && PySem.W.keepIn K (.ref (cAt ns K c)) && optB (PySem.W.subIn K (.ref (cAt ns K c)) (.type "BaseException")) (some true) && decide (PySem.W.typeIn K (.ref (cAt ns K c)) = some (.type "type"))
def kInit (ns : Ns) (c : Nat) : Ck := fun K => initB K (cAt ns K c)
/-- a class that is called -/
def kMk (ns : Ns) (c : Nat) : Ck := fun K => PySem.W.makesIn K (cAt ns K c) && He.eqO (PySem.W.findIn K (.ref (cAt ns K c)) "__init__") (some (some (.ref (He.ma K (cAt ns K c) "__init__")))) && PySem.W.isFn K (.ref (He.ma K (cAt ns K c) "__init__")) && PySem.W.keepIn K (.ref (cAt ns K c))
theorem kMk_ok {ns : Ns} {c : Nat} (h : kMk ns c K = true) : Mk K (cAt ns K c) (He.ma K (cAt ns K c) "__init__") := by
  simp only [kMk, Bool.and_eq_true] at h
  exact ⟨h.1.1.1, He.eqO_ok h.1.1.2, h.1.2, h.2⟩
/-- a method -/
def kMeth (ns : Ns) (c : Nat) (m : Str) : Ck := fun K => He.eqO (PySem.W.findIn K (.ref (cAt ns K c)) m) (some (some (.ref (He.ma K (cAt ns K c) m)))) && PySem.W.isFn K (.ref (He.ma K (cAt ns K c) m)) && PySem.W.keepIn K (.ref (He.ma K (cAt ns K c) m))
theorem kMeth_ok {ns : Ns} {c : Nat} {m : Str} (h : kMeth ns c m K = true) : Meth K (cAt ns K c) m (He.ma K (cAt ns K c) m) := by
  simp only [kMeth, Bool.and_eq_true] at h
  exact ⟨He.eqO_ok h.1.1, h.1.2, h.2⟩
end PDL
namespace PDL
open PySem PySem.Spec L2 PyProof.Rows
variable {K : PySem.W.Frag}
/-! ### properties -/
def getAt (K : PySem.W.Frag) (C : Addr) (f : Str) : Addr := match PySem.W.recIn K (He.ma K C f) "property" with
  | some (.ref g :: _) => g
  | _ => 0
def kProp (ns : Ns) (c : Nat) (f : Str) : Ck := fun K => He.eqO (PySem.W.findIn K (.ref (cAt ns K c)) f) (some (some (.ref (He.ma K (cAt ns K c) f)))) && He.eqO (PySem.W.specialIn K (.ref (He.ma K (cAt ns K c) f)) "__get__") (some (some (.builtin "property.__get__"))) &&
  optB (PySem.W.takesIn K (.ref (He.ma K (cAt ns K c) f))) (some true) && match PySem.W.recIn K (He.ma K (cAt ns K c) f) "property" with
    | some (.ref _ :: _) => true
    | _ => false
theorem kProp_ok {ns : Ns} {c : Nat} {f : Str} (h : kProp ns c f K = true) : PropOf K (cAt ns K c) f (He.ma K (cAt ns K c) f) (getAt K (cAt ns K c) f) := by
  simp only [kProp, optB, Bool.and_eq_true, decide_eq_true_eq] at h
  refine ⟨He.eqO_ok h.1.1.1, He.eqO_ok h.1.1.2, h.1.2, ?_⟩
  have h2 := h.2
  unfold getAt
  split at h2
  · rename_i g r e
    exact ⟨r, by rw [e]⟩
  · cases h2
/-! ### what the head says of the module's names -/
structure Top (K : PySem.W.Frag) (mg : Str → Option Value) (ck : List Ck) (fn : List DefP) : Prop where
  at_ : ∃ h : Heap, K.In h ∧ h.Ns mainGlobals mg
  says : SaysP ck fn K
section
variable {mg : Str → Option Value} {ck : List Ck} {fn : List DefP}
theorem Top.ok (Z : Top K mg ck fn) (i : Nat) {f : Ck} (h : ck[i]? = some f := by rfl) : f K = true := Z.says.ok i h
theorem Top.free (Z : Top K mg ck fn) (i : Nat) {x : Str} (h : ck[i]? = some (kFree x) := by rfl) : mg x = none := by
  obtain ⟨hp, X, G⟩ := Z.at_
  exact PySem.W.mg_none_of X G (He.eqO_ok (Z.ok i h))
theorem Top.glo (Z : Top K mg ck fn) (i : Nat) {x : Str} (h : ck[i]? = some (kGlo x) := by rfl) : mg x = some (.ref (He.ga K x)) := by
  obtain ⟨hp, X, G⟩ := Z.at_
  exact PySem.W.mg_of X G (He.eqO_ok (Z.ok i h))
theorem Top.int (Z : Top K mg ck fn) (i : Nat) {x : Str} {n : Int} (h : ck[i]? = some (kInt x n) := by rfl) : ∃ t, mg x = some (.int n t) := by
  obtain ⟨hp, X, G⟩ := Z.at_
  exact He.int_ok X G (Z.ok i h)
theorem Top.str (Z : Top K mg ck fn) (i : Nat) {x n : Str} (h : ck[i]? = some (kStr x n) := by rfl) : ∃ t, mg x = some (.str n t) := by
  obtain ⟨hp, X, G⟩ := Z.at_
  exact He.str_ok X G (Z.ok i h)
end
end PDL
namespace PD
open PySem PySem.Spec L2 PDL
/-- the classes: names, an error's field, which are errors -/
structure Cl where
  ns : List Str
  fl : List Str
  xs : List Bool
def Cl.isX (T : Cl) (c : Nat) : Bool := T.xs.getD c false
def wdm (T : Cl) (K : PySem.W.Frag) (S : Option (Addr × Addr)) (me : Option Addr) : Wd := ⟨K, cAt T.ns K, fun c => T.fl.getD c Str.empty, T.isX, me, S⟩
abbrev wd (T : Cl) (K : PySem.W.Frag) (S : Option (Addr × Addr)) : Wd := wdm T K S none
section
variable {K : PySem.W.Frag} {T : Cl} {S : Option (Addr × Addr)} {me : Option Addr}
/-- all classes -/
def kAll (T : Cl) : Ck := fun K => (List.range T.ns.length).all fun c => kCls T.ns T.isX c K
def kIs (kit : PySem.W.Frag → Value → Option Bool) (T : Cl) (bs : List Ty) (tb : List (Nat × Bool)) : Ck := fun K => isfB kit T.ns T.isX bs tb K && tb.all fun p => decide (p.1 < T.ns.length)
theorem lookup_in {tb : List (Nat × Bool)} {c : Nat} {b : Bool} (h : tb.lookup c = some b) : (c, b) ∈ tb := by
  induction tb with
  | nil => cases h
  | cons p r ih =>
    obtain ⟨c', b'⟩ := p
    rw [List.lookup_cons] at h
    split at h
    · rename_i e
      cases h
      rw [eq_of_beq e]
      exact List.mem_cons_self
    · exact List.mem_cons_of_mem _ (ih h)
theorem isF_ok {kit : PySem.W.Frag → Value → Option Bool} {bs : List Ty} {tb : List (Nat × Bool)} (h : kIs kit T bs tb K = true) (ha : kAll T K = true) : IsF K (wdm T K S me) (kit K) bs tb := by
  simp only [kIs, isfB, optB, Bool.and_eq_true, decide_eq_true_eq] at h
  obtain ⟨⟨⟨⟨⟨⟨⟨⟨h1, h2⟩, h3⟩, h4⟩, h5⟩, h6⟩, h7⟩, h8⟩, h9⟩ := h
  refine ⟨h1, h2, h3, h4, h5, h6, h7, fun c b e => ?_⟩
  have m := lookup_in e
  have g1 := of_decide_eq_true (List.all_eq_true.mp h8 _ m)
  have g2 := of_decide_eq_true (List.all_eq_true.mp h9 _ m)
  have g3 : kCls T.ns T.isX c K = true := List.all_eq_true.mp ha c (List.mem_range.mpr g2)
  refine ⟨g1, fun hx => ?_, fun hx => ?_⟩
  · unfold kCls at g3
    rw [show T.isX c = false from hx] at g3
    exact insB_ok g3
  · unfold kCls at g3
    rw [show T.isX c = true from hx] at g3
    exact excB_ok g3
def kCatch (B : PySem.W.Frag → Value) (T : Cl) (tb : List (Nat × Bool)) : Ck := catchB B T.ns T.isX tb
theorem catch_ok {B : PySem.W.Frag → Value} {tb : List (Nat × Bool)} (h : kCatch B T tb K = true) : CatchF K (wdm T K S me) (B K) tb := ⟨fun c b e => by
  have g := List.all_eq_true.mp h _ (lookup_in e)
  simp only [optB, Bool.and_eq_true, decide_eq_true_eq] at g
  exact g⟩
def kFld (T : Cl) (cs : List Nat) (f : Str) : Ck := fldB T.ns T.isX cs f
theorem fld_ok {cs : List Nat} {f : Str} (h : kFld T cs f K = true) : FldI K (wdm T K S me) cs f := ⟨fun c m => by
  have g := List.all_eq_true.mp h _ m
  simp only [Bool.and_eq_true, Bool.not_eq_true'] at g
  exact ⟨g.1.1, clsB_ok g.1.2, He.eqO_ok g.2⟩⟩
def kFldX (T : Cl) (cs : List Nat) (f : Str) : Ck := fldxB T.ns T.isX cs f
theorem fldX_ok {cs : List Nat} {f : Str} (h : kFldX T cs f K = true) : FldX K (wdm T K S me) cs f := ⟨fun c m => by
  have g := List.all_eq_true.mp h _ m
  simp only [Bool.and_eq_true] at g
  exact ⟨g.1.1, xfB_ok g.1.2, He.eqO_ok g.2⟩⟩
end
/-! ### defs by names -/
/-- the def that the module's name x stands for keeps a promise; dvs: its defaults -/
structure DefOk (P : Program) (w : World) (K : PySem.W.Frag) (mg : Str → Option Value) (base : Heap) (x : Str) (ps : List Str) (k : Nat) (dvs : List V) (sp : Sp) : Prop where
  ex : ∃ f fd dl, FnG P w K mg base (L2.CX P w) k f fd ps sp ∧ mg x = some (.ref f) ∧ PySem.W.keepIn K (.ref f) = true ∧ Vals dvs dl ∧ L2.Binds K fd ps dl
section
variable {C : Ctx} {ex : Ex} {X : Cx} {e : Expr} {es : List Expr} {fs : Env → M (List D)} {pos : Pos} {m : Md} {ms : List Md} {W : Wd} {F : List D → M D} {k : Nat} {ps : List Str} {x : Str} {p : Pos}
theorem pm_callD (D0 : DefOk X.prog X.w X.K X.mg X.base x ps k [] (SpD W ms F)) (hW : C.W = W) (tk : Takes X (wxOf C ex)) (hgd : X.A.guards = some []) (hr : Room k X.A) (hg : Gl X x)
    (ha : PMA ms C ex X (e :: es) fs) (hms : (ms.all fun m => decide (m = .val ∨ m = .rd)) = true := by rfl) (hdb : (x == ("__debug__" : Str)) = false := by decide) (he : starEach (e :: es) X.env = (false, eval e X.env) :: starEach es X.env := by rfl) (hpl : (backTo pos (starEach es X.env)).any (·.1) = false := by rfl) : PM .val C ex X (.Call (.Name x p) (e :: es) [] pos) (eCall F fs) := by
  obtain ⟨f, fd, dl, G, h1, h2, h3, h4⟩ := D0.ex
  cases h3
  exact pm_call hW G tk hgd hr hg h1 h2 h4 ha hms hdb he hpl
theorem pm_callD0 (D0 : DefOk X.prog X.w X.K X.mg X.base x [] k [] (SpD W [] F)) (hW : C.W = W) (tk : Takes X (wxOf C ex)) (hgd : X.A.guards = some []) (hr : Room k X.A) (hg : Gl X x)
    (hdb : (x == ("__debug__" : Str)) = false := by decide) : PM .val C ex X (.Call (.Name x p) [] [] pos) (eCall F eNil) := by
  obtain ⟨f, fd, dl, G, h1, h2, h3, h4⟩ := D0.ex
  cases h3
  exact pm_call0 hW G tk hgd hr hg h1 h2 h4 hdb
theorem pm_callDF (D0 : DefOk X.prog X.w X.K X.mg X.base x ps k [] (SpDF W ms F)) (hW : C.W = W) (tk : Takes X (wxOf C ex)) (hgd : X.A.guards = some []) (hr : Room k X.A) (hg : Gl X x)
    (ha : PMA ms C ex X (e :: es) fs) (hms : (ms.all fun m => decide (m = .val ∨ m = .rd)) = true := by rfl) (hdb : (x == ("__debug__" : Str)) = false := by decide) (he : starEach (e :: es) X.env = (false, eval e X.env) :: starEach es X.env := by rfl) (hpl : (backTo pos (starEach es X.env)).any (·.1) = false := by rfl) : PM .fr C ex X (.Call (.Name x p) (e :: es) [] pos) (eCall F fs) := by
  obtain ⟨f, fd, dl, G, h1, h2, h3, h4⟩ := D0.ex
  cases h3
  exact pm_callF hW G tk hgd hr hg h1 h2 h4 ha hms hdb he hpl
theorem pm_callDF0 (D0 : DefOk X.prog X.w X.K X.mg X.base x [] k [] (SpDF W [] F)) (hW : C.W = W) (tk : Takes X (wxOf C ex)) (hgd : X.A.guards = some []) (hr : Room k X.A) (hg : Gl X x)
    (hdb : (x == ("__debug__" : Str)) = false := by decide) : PM .fr C ex X (.Call (.Name x p) [] [] pos) (eCall F eNil) := by
  obtain ⟨f, fd, dl, G, h1, h2, h3, h4⟩ := D0.ex
  cases h3
  exact pm_callF0 hW G tk hgd hr hg h1 h2 h4 hdb
end
end PD

set_option Elab.async false
set_option linter.all false
set_option maxRecDepth 100000
set_option maxHeartbeats 4000000
/-! PDRepr: repr of plain data. -/
namespace PD
open PySem PySem.Spec L2 PDL
mutual
def toPz : D → PyData
  | .non => .none
  | .bl b => .bool b
  | .int i => .int i
  | .str x => .str x
  | .lst xs => .list (toPzs xs)
  | .tup xs => .tuple (toPzs xs)
  | .dct kvs => .dict (toPzk kvs)
  | _ => .none
def toPzs : List D → List PyData
  | [] => []
  | x :: xs => toPz x :: toPzs xs
def toPzk : List (D × D) → List (PyData × PyData)
  | [] => []
  | (k, v) :: r => (toPz k, toPz v) :: toPzk r
end
mutual
/-- no objects, no source within; at most so many levels -/
def okR : Nat → D → Bool
  | _, .non => true
  | _, .bl _ => true
  | _, .int _ => true
  | _, .str _ => true
  | n + 1, .tup xs => okRs n xs
  | n + 1, .lst xs => okRs n xs
  | n + 1, .dct kvs => okRk n kvs
  | _, _ => false
def okRs : Nat → List D → Bool
  | _, [] => true
  | n, x :: xs => okR n x && okRs n xs
def okRk : Nat → List (D × D) → Bool
  | _, [] => true
  | n, (k, v) :: r => okR n k && okR n v && okRk n r
end
mutual
theorem depth_z : ∀ {d : D} {n : Nat}, okR n d = true → (toPz d).depth ≤ n
  | .non, n, _ => by unfold toPz; simp [PyData.depth]
  | .bl _, n, _ => by unfold toPz; simp [PyData.depth]
  | .int _, n, _ => by unfold toPz; simp [PyData.depth]
  | .str _, n, _ => by unfold toPz; simp [PyData.depth]
  | .lst xs, 0, h => by cases h
  | .lst xs, n + 1, h => by
    unfold toPz
    have := depth_zs (show okRs n xs = true from h)
    simp only [PyData.depth]
    omega
  | .tup xs, 0, h => by cases h
  | .tup xs, n + 1, h => by
    unfold toPz
    have := depth_zs (show okRs n xs = true from h)
    simp only [PyData.depth]
    omega
  | .dct xs, 0, h => by cases h
  | .dct xs, n + 1, h => by
    unfold toPz
    have := depth_zk (show okRk n xs = true from h)
    simp only [PyData.depth]
    omega
  | .obj _ _, n, h => by cases n <;> cases h
  | .src, n, h => by cases n <;> cases h
theorem depth_zs : ∀ {xs : List D} {n : Nat}, okRs n xs = true → PyData.depthAll (toPzs xs) ≤ n
  | [], n, _ => by unfold toPzs; simp [PyData.depthAll]
  | x :: xs, n, h => by
    obtain ⟨h1, h2⟩ := Bool.and_eq_true_iff.mp (show (okR n x && okRs n xs) = true from h)
    unfold toPzs
    have a := depth_z h1
    have b := depth_zs h2
    simp only [PyData.depthAll]
    omega
theorem depth_zk : ∀ {xs : List (D × D)} {n : Nat}, okRk n xs = true → PyData.depthKv (toPzk xs) ≤ n
  | [], n, _ => by unfold toPzk; simp [PyData.depthKv]
  | (k, v) :: xs, n, h => by
    obtain ⟨h0, h2⟩ := Bool.and_eq_true_iff.mp (show (okR n k && okR n v && okRk n xs) = true from h)
    obtain ⟨h1, h3⟩ := Bool.and_eq_true_iff.mp h0
    unfold toPzk
    have a := depth_z h1
    have b := depth_z h3
    have c := depth_zk h2
    simp only [PyData.depthKv]
    omega
end
section
variable {C : Ctx} {ex : Ex} {X : Cx} {env : Env} {ad : Nat → Addr} {σ : L2.St} {n : Nat} {I H : Hp}
theorem not_sys (hs : (X.K.lookup sysModules).isSome = true) {pins : List (Addr × Obj)} {σ0 : L2.St} {s : Shared} (Iv : Inv X pins σ0 H s) {a : Addr} {o : HO} (e : H a = some o) : sysModules ≠ a := fun z => by
  obtain ⟨u, hu⟩ := Option.isSome_iff_exists.mp hs
  have := (Iv.bs sysModules u (Iv.ok.mod.kin _ _ hu)).2
  rw [z, e] at this
  cases this
mutual
theorem Rep.reads (hK : C.W.K = X.K) (hs : (X.K.lookup sysModules).isSome = true) {pins : List (Addr × Obj)} {σ0 : L2.St} {s : Shared} (Iv : Inv X pins σ0 H s) (S : Sub I H) : ∀ {v : V} {d : D} {k : Nat} {u : Value}, Rep C.W I v d → okR k d = true → RelV v u → ∃ as, Reads s.heap u (toPz d) as ∧ sysModules ∉ as
  | _, _, _, u, .non, _, r => by cases r; unfold toPz; exact ⟨_, .none, by simp⟩
  | _, _, _, u, .bl b, _, r => by cases r; unfold toPz; exact ⟨_, .bool b, by simp⟩
  | _, _, _, u, .int i, _, r => by obtain ⟨t, rfl⟩ := r; unfold toPz; exact ⟨_, .int i t, by simp⟩
  | _, _, _, u, .str i, _, r => by obtain ⟨t, rfl⟩ := r; unfold toPz; exact ⟨_, .str i t, by simp⟩
  | _, _, 0, u, .lst _ _, h, r => by cases h
  | _, _, 0, u, .tup _ _, h, r => by cases h
  | _, _, 0, u, .dct _ _, h, r => by cases h
  | _, _, k + 1, u, .lst (a := a) q rl, h, r => by
    cases r
    have ha := S _ _ q
    obtain ⟨its, rv, ⟨o, n, ho, hc, _, hd⟩, _⟩ := Iv.list (SqL.of ha)
    obtain ⟨as, hr, hn⟩ := RepL.reads hK hs Iv S rl (show okRs k _ = true from h) rv
    unfold toPz
    exact ⟨_, .list ho hc hd (by simpa using hr), by
      rw [List.mem_cons, not_or]
      exact ⟨not_sys hs Iv ha, hn⟩⟩
  | _, _, k + 1, u, .tup q rl, h, r => by
    cases r
    obtain ⟨its, rv, ⟨o, ho, hc, n, hd⟩, _⟩ := Iv.tuple (S.sqT (hK ▸ q))
    obtain ⟨as, hr, hn⟩ := RepL.reads hK hs Iv S rl (show okRs k _ = true from h) rv
    unfold toPz
    exact ⟨_, .tuple ho hc hd (by simpa using hr), hn⟩
  | _, _, k + 1, u, .dct (a := a) q rl, h, r => by
    cases r
    obtain ⟨_, lo, vs, rv, o, es, ep, ho, hx, hd, _, hp, _⟩ := dk_of Iv.hok (S _ _ q)
    obtain ⟨as, bs, h1, h2, h3, h4⟩ := RepK.reads hK hs Iv S rl (show okRk k _ = true from h) rv hp
    unfold toPz
    refine ⟨_, .dict ho hx.1 hd h1 h2, ?_⟩
    simp only [List.cons_append, List.mem_cons, List.mem_append, not_or]
    exact ⟨fun z => by rw [z] at lo; simp at lo, h3, h4⟩
  | _, _, n, _, .obj _ _ _, h, _ => by cases n <;> cases h
  | _, _, n, _, .exc _ _ _ _, h, _ => by cases n <;> cases h
  | _, _, n, _, .src _, h, _ => by cases n <;> cases h
theorem RepL.reads (hK : C.W.K = X.K) (hs : (X.K.lookup sysModules).isSome = true) {pins : List (Addr × Obj)} {σ0 : L2.St} {s : Shared} (Iv : Inv X pins σ0 H s) (S : Sub I H) : ∀ {vs : List V} {ds : List D} {k : Nat} {us : List Value}, RepL C.W I vs ds → okRs k ds = true → Vals vs us → ∃ as, ReadsAll s.heap us (toPzs ds) as ∧ sysModules ∉ as
  | _, _, _, _, .nil, _, r => by cases r; unfold toPzs; exact ⟨_, .nil, by simp⟩
  | _, _, k, _, .cons a b, h, r => by
    cases r with
    | cons r1 r2 =>
      obtain ⟨h1, h2⟩ := Bool.and_eq_true_iff.mp (show (okR k _ && okRs k _) = true from h)
      obtain ⟨as, q1, n1⟩ := Rep.reads hK hs Iv S a h1 r1
      obtain ⟨bs, q2, n2⟩ := RepL.reads hK hs Iv S b h2 r2
      unfold toPzs
      exact ⟨_, .cons q1 q2, by rw [List.mem_append, not_or]; exact ⟨n1, n2⟩⟩
theorem RepK.reads (hK : C.W.K = X.K) (hs : (X.K.lookup sysModules).isSome = true) {pins : List (Addr × Obj)} {σ0 : L2.St} {s : Shared} (Iv : Inv X pins σ0 H s) (S : Sub I H) : ∀ {kvs : List (Key × V)} {ds : List (D × D)} {k : Nat} {vs : List (Key × Value)} {es : List DictEntry}, RepK C.W I kvs ds → okRk k ds = true → KV kvs vs → Pairs (mixKind X.prog X.w) es vs →
    ∃ as bs, ReadsAll s.heap (es.map (·.key)) ((toPzk ds).map (·.1)) as ∧ ReadsAll s.heap (es.map (·.val)) ((toPzk ds).map (·.2)) bs ∧ sysModules ∉ as ∧ sysModules ∉ bs
  | _, _, _, _, _, .nil, _, r, p => by cases r; cases p; unfold toPzk; exact ⟨_, _, .nil, .nil, by simp, by simp⟩
  | _, _, k, _, _, .cons (k := kk) a b, h, r, p => by
    cases r with
    | cons r1 r2 =>
      cases p with
      | cons p1 p2 p3 =>
        obtain ⟨h0, h2⟩ := Bool.and_eq_true_iff.mp (show (okR k _ && okR k _ && okRk k _) = true from h)
        obtain ⟨h1, h3⟩ := Bool.and_eq_true_iff.mp h0
        obtain ⟨e1, e2⟩ := r1
        obtain ⟨as, q1, n1⟩ := Rep.reads hK hs Iv S a h3 e2
        obtain ⟨bs, cs, q2, q3, n2, n3⟩ := RepK.reads hK hs Iv S b h2 r2 p3
        unfold toPzk
        simp only [List.map_cons]
        rw [p2]
        rcases keyIs_shape p1 with ⟨i, t, e, e'⟩ | ⟨x, t, e, e'⟩
        · rw [e']
          have e3 : kk = Sum.inl i := e1.trans e
          rw [e3]
          exact ⟨_, _, .cons (by unfold kD toPz; exact .int i t) q2, .cons q1 q3, by simpa using n2, by rw [List.mem_append, not_or]; exact ⟨n1, n3⟩⟩
        · rw [e']
          have e3 : kk = Sum.inr x := e1.trans e
          rw [e3]
          exact ⟨_, _, .cons (by unfold kD toPz; exact .str x t) q2, .cons q1 q3, by simpa using n2, by rw [List.mem_append, not_or]; exact ⟨n1, n3⟩⟩
end
/-- repr(e) -/
def reprM (d : D) : M D := if okR 60 d = true ∧ (toPz d).showable = true ∧ (toPz d).shown.length ≤ line then .ret (.str (toPz d).shown) else .bad
theorem reprM_in {d : D} {n : Nat} {P : Nat → D → Prop} {E : Nat → Nat → D → Prop} (q : AllB (reprM d) n P E) : okR 60 d = true ∧ (toPz d).showable = true ∧ (toPz d).shown.length ≤ line ∧ P n (.str (toPz d).shown) := by
  obtain ⟨⟨h1, h2, h3⟩, q⟩ := allB_ite (show AllB (if _ then _ else .bad) _ _ _ from q)
  exact ⟨h1, h2, h3, q⟩
theorem c_repr (hK : C.W.K = X.K) (hs : (X.K.lookup sysModules).isSome = true) (hgd : X.A.guards = some []) (hu : X.A.units + 62 < cLine) : CallR X (.builtin "repr") (rC [.rd] .val C ex (arg1 reprM)) := by
  intro pins s σ0 H xs us Q Iv rx h
  obtain ⟨n, env, ad, σ, I, ds, S, ra, q⟩ := h
  obtain ⟨v, d, rfl, rfl, r⟩ := ra.one
  obtain ⟨k1, k2, k3, q⟩ := reprM_in (show AllB (reprM d) n _ _ from q)
  rw [line_eq] at k3
  obtain ⟨u, rfl, ru⟩ := vals1 rx
  have fin : ∀ H' , Inv X pins σ0 H H' → ∀ t, EP X pins σ0 Q (.str (toPz d).shown t) H' := fun s' J t => ⟨.str _, H, J, ⟨t, rfl⟩, q _ I H S (Sub.refl _) (SameX.refl _) (Rep.str _)⟩
  have big : ∀ (a : Addr) (as : List Addr), u = .ref a → Reads s.heap u (toPz d) as → sysModules ∉ as → wpAny (model X.prog X.w) X.A (call (.builtin "repr") [u]) (EP X pins σ0 Q) X.xe s := fun a as e R nm => by
    subst e
    have hd := depth_z k1
    refine PySem.repr_of_reads' R k2 (fun _ => nm) hgd (by omega) (fun _ _ z => z) (fun h' t tk hk => ?_) k3
    exact fin _ (Iv.kept hk) t
  rcases r with r | ⟨a, rfl, _, o⟩
  · obtain ⟨as, R, nm⟩ := Rep.reads hK hs Iv S.sub r k1 ru
    cases r with
    | non => cases ru; exact PySem.P.repr_of_none (fin _ (Iv.tok _) _)
    | bl b => cases ru; exact PySem.P.repr_of_bool (fin _ (Iv.tok _) _)
    | int i =>
      obtain ⟨t, rfl⟩ := ru
      exact PySem.P.repr_of_int (of_decide_eq_true (by simpa [toPz, PyData.showable] using k2)) (fin _ (Iv.tok _) _)
    | str x =>
      obtain ⟨t, rfl⟩ := ru
      exact PySem.P.repr_of_str (fin _ (Iv.tok _) _) k3
    | tup _ _ => cases ru; exact big _ as rfl R nm
    | lst _ _ => cases ru; exact big _ as rfl R nm
    | dct _ _ => cases ru; exact big _ as rfl R nm
    | obj _ _ _ => cases k1
    | exc _ _ _ _ => cases k1
    | src _ => cases k1
  · have R2 : ∃ as, Reads s.heap u (toPz d) as ∧ sysModules ∉ as := by
      cases d with
      | lst ds =>
        obtain ⟨vs, h1, h2⟩ := o
        cases ru
        obtain ⟨its, rv, ⟨o, n, ho, hc, _, hd⟩, _⟩ := Iv.list (SqL.of h1)
        obtain ⟨as, hr, hn⟩ := RepL.reads hK hs Iv S.sub h2 (show okRs 59 _ = true from k1) rv
        unfold toPz
        exact ⟨_, .list ho hc hd (by simpa using hr), by
          rw [List.mem_cons, not_or]
          exact ⟨not_sys hs Iv h1, hn⟩⟩
      | dct ds =>
        obtain ⟨kvs, h1, h2⟩ := o
        cases ru
        obtain ⟨_, lo, vs, rv, o, es, ep, ho, hx, hd, _, hp, _⟩ := dk_of Iv.hok h1
        obtain ⟨as, bs, g1, g2, g3, g4⟩ := RepK.reads hK hs Iv S.sub h2 (show okRk 59 _ = true from k1) rv hp
        unfold toPz
        refine ⟨_, .dict ho hx.1 hd g1 g2, ?_⟩
        simp only [List.cons_append, List.mem_cons, List.mem_append, not_or]
        exact ⟨fun z => by rw [z] at lo; simp at lo, g3, g4⟩
      | obj c fs => cases k1
      | _ => exact False.elim o
    obtain ⟨as, R, nm⟩ := R2
    cases ru
    exact big _ as rfl R nm
end
end PD

set_option Elab.async false
set_option linter.all false
set_option maxRecDepth 100000
set_option maxHeartbeats 4000000
set_option exponentiation.threshold 5000
/-! PDSrc2: the source of draws is made from the script; short words for slots. -/
namespace PD
open PySem PySem.Spec L2 PDL
section
variable {C : Ctx} {ex : Ex} {X : Cx}
theorem pvV (i : Nat) {x : Str} {pos : Pos} (hN : X.N[i]? = some x := by rfl) (hv : Vis X.env.scope x := by first | exact Or.inl rfl | exact Or.inr (Or.inl rfl) | exact Or.inr (Or.inr rfl)) (hd : (x == ("__debug__" : Str)) = false := by decide)
    (hcd : (x == ("__classdict__" : Str)) = false := by decide) : PM .val C ex X (.Name x pos) (eV i) := pm_var hN hv hd hcd
theorem pvR (i : Nat) {x : Str} {pos : Pos} (hN : X.N[i]? = some x := by rfl) (hv : Vis X.env.scope x := by first | exact Or.inl rfl | exact Or.inr (Or.inl rfl) | exact Or.inr (Or.inr rfl)) (hd : (x == ("__debug__" : Str)) = false := by decide)
    (hcd : (x == ("__classdict__" : Str)) = false := by decide) : PM .rd C ex X (.Name x pos) (eR i) := pr_var hN hv hd hcd
theorem pvS (i : Nat) {x : Str} {pos : Pos} (hN : X.N[i]? = some x := by rfl) (hv : Vis X.env.scope x := by first | exact Or.inl rfl | exact Or.inr (Or.inl rfl) | exact Or.inr (Or.inr rfl)) (hd : (x == ("__debug__" : Str)) = false := by decide)
    (hcd : (x == ("__classdict__" : Str)) = false := by decide) : PM .st C ex X (.Name x pos) (eS i) := ps_var hN hv hd hcd
theorem hu64 {k : Nat} {A : Around} (hr : Room k A) : A.units + 64 < cLine := by
  have := hr.un
  omega
theorem hu65 {k : Nat} {A : Around} (hr : Room k A) : A.units + 65 < cLine := by
  have := hr.un
  omega
theorem dint {e : Expr} {f : Env → M D} {p pos : Pos} (mI : X.mg "int" = none) (h : PM .val C ex X e f) (hg : Gl X "int" := by rfl) (he : starEach [e] X.env = (false, eval e X.env) :: starEach [] X.env := by rfl) (hpl : (backTo pos (starEach [] X.env)).any (·.1) = false := by rfl) : PM .val C ex X (.Call (.Name "int" p) [e] [] pos) (dInt f) :=
  pm_callTy c_int hg mI PyProof.Rows.boot_int (pma_cons h.to_rd pma_nil (by decide) he) (by decide) (by decide) he hpl
end

/-- one turn of the source's loop -/
abbrev bTurn : PD.Env → M (Fl × PD.Env) := (sIf (eTest (e2 geM (eCall (arg1 absM) (eCons (e2 ixM (eR 1) (eV 2)) eNil)) (e2 powM (eC (.int 10)) (eC (.int 18))))) (sSetIx 1 (eV 2) (e2 modM (eCall (arg1 intM) (eCons (e2 ixM (eR 1) (eV 2)) eNil)) (e2 powM (e2 powM (eC (.int 10)) (eC (.int 60))) (eC (.int 20))))) sSkip)
theorem ix_ints {ms : List Int} {j : Nat} (h : j < ms.length) : ixM (.lst (ms.map D.int)) (.int (j : Nat)) = .ret (.int ms[j]) := by
  have e : ((placeI (j : Nat) (ms.map D.int).length).bind fun k => (ms.map D.int)[k]?) = some (.int ms[j]) := by
    unfold placeI
    rw [if_pos (by omega), List.length_map, if_pos (by omega)]
    simp [h]
  unfold ixM
  simp only [e]
theorem turn_ok {ms : List Int} {j : Nat} (h : j < ms.length) : ∃ x : Int, x.natAbs < 2 ^ 4000 ∧ bTurn [.no, .own (.lst (ms.map D.int)), .v (.int (j : Nat))] = .ret (.nx, [.no, .own (.lst ((ms.set j x).map D.int)), .v (.int (j : Nat))]) := by
  have p18 : powM (.int 10) (.int 18) = .ret (.int (10 ^ 18)) := by
    show (if (0 : Int) ≤ 18 ∧ ((10 : Int).natAbs.log2 + 1) * (18 : Int).toNat ≤ 1000000 then M.ret (D.int ((10 : Int) ^ (18 : Int).toNat)) else M.bad) = _
    rw [if_pos (by decide)]
    rfl
  have p60 : powM (.int 10) (.int 60) = .ret (.int (10 ^ 60)) := by
    show (if (0 : Int) ≤ 60 ∧ ((10 : Int).natAbs.log2 + 1) * (60 : Int).toNat ≤ 1000000 then M.ret (D.int ((10 : Int) ^ (60 : Int).toNat)) else M.bad) = _
    rw [if_pos (by decide)]
    rfl
  have p20 : powM (.int (10 ^ 60)) (.int 20) = .ret (.int ((10 ^ 60) ^ 20)) := by
    show (if (0 : Int) ≤ 20 ∧ ((10 ^ 60 : Int).natAbs.log2 + 1) * (20 : Int).toNat ≤ 1000000 then M.ret (D.int ((10 ^ 60 : Int) ^ (20 : Int).toNat)) else M.bad) = _
    rw [if_pos (by decide)]
    rfl
  have hix : ixM (.lst (ms.map D.int)) (.int (j : Nat)) = .ret (.int ms[j]) := ix_ints h
  have hpl : placeI (j : Nat) (ms.map D.int).length = some j := by
    unfold placeI
    rw [if_pos (by omega), List.length_map, if_pos (by omega)]
    simp
  have ht : eTest (e2 geM (eCall (arg1 absM) (eCons (e2 ixM (eR 1) (eV 2)) eNil)) (e2 powM (eC (.int 10)) (eC (.int 18)))) [.no, .own (.lst (ms.map D.int)), .v (.int (j : Nat))] = .ret (decide ((10 : Int) ^ 18 ≤ (if ms[j] < 0 then -ms[j] else ms[j]))) := by
    simp only [eTest, e2, eCall, eCons, eNil, eC, eR, eV, getR, getV, arg1, absM, List.getElem?_cons_succ, List.getElem?_cons_zero, ret_bind, hix, p18]
    rfl
  by_cases hb : (10 : Int) ^ 18 ≤ (if ms[j] < 0 then -ms[j] else ms[j])
  · refine ⟨ms[j] % (10 ^ 60) ^ 20, ?_, ?_⟩
    · exact small_mod (by decide) (by decide)
    · unfold bTurn sIf
      rw [ht, decide_eq_true hb, tryB_ret, if_pos rfl]
      have hm : modM (.int ms[j]) (.int ((10 ^ 60) ^ 20)) = .ret (.int (ms[j] % (10 ^ 60) ^ 20)) := modM_ok (by decide)
      simp only [sSetIx, e2, eCall, eCons, eNil, eC, eR, eV, getR, getV, arg1, intM, List.getElem?_cons_succ, List.getElem?_cons_zero, ret_bind, hix, p60, p20, hm, tryB_ret, hpl]
      rw [List.map_set]
      rfl
  · refine ⟨ms[j], ?_, ?_⟩
    · have h1 : (if ms[j] < 0 then -ms[j] else ms[j]) < 10 ^ 18 := by omega
      have h2 : ms[j].natAbs < 10 ^ 18 := by
        split at h1 <;> omega
      exact Nat.lt_trans h2 (by decide)
    · unfold bTurn sIf
      rw [ht, decide_eq_false hb, tryB_ret, if_neg Bool.false_ne_true, List.set_getElem_self]
      rfl


def Smalls (ms : List Int) : Prop := ∀ i (h : i < ms.length), ms[i].natAbs < 2 ^ 4000
theorem loop_ok : ∀ (m k : Nat) (ms : List Int) (s0 : Slot), ms.length = k + m → (∀ i (h : i < ms.length), i < k → ms[i].natAbs < 2 ^ 4000) →
    ∃ ms' s, ms'.length = ms.length ∧ Smalls ms' ∧ loopM (tgN 2) bTurn ((List.range' k m).map fun (j : Nat) => D.int j) [.no, .own (.lst (ms.map D.int)), s0] = .ret (.nx, [.no, .own (.lst (ms'.map D.int)), s])
  | 0, k, ms, s0, hl, hs => ⟨ms, s0, rfl, fun i h => hs i h (by omega), rfl⟩
  | m + 1, k, ms, s0, hl, hs => by
    obtain ⟨x, hx, ht⟩ := turn_ok (ms := ms) (j := k) (by omega)
    obtain ⟨ms', s, h1, h2, h3⟩ := loop_ok m (k + 1) (ms.set k x) (.v (.int (k : Nat))) (by rw [List.length_set]; omega) (fun i h hi => by
      rw [List.getElem_set]
      split
      · exact hx
      · rw [List.length_set] at h
        exact hs i h (by omega))
    refine ⟨ms', s, by rw [h1, List.length_set], h2, ?_⟩
    rw [List.range'_succ, List.map_cons]
    show (bTurn [.no, .own (.lst (ms.map D.int)), .v (.int (k : Nat))] >>= fun r => match r with
      | (.nx, e2) => loopM (tgN 2) bTurn _ e2 | (.cnt, e2) => loopM (tgN 2) bTurn _ e2 | (.brk, e2) => .ret (.nx, e2) | r => .ret r) = _
    rw [ht]
    exact h3
theorem rng_nat (n : Nat) : rngM 0 (n : Nat) = (List.range' 0 n).map fun (j : Nat) => D.int j := by
  unfold rngM
  rw [List.range_eq_range']
  have : ((n : Int) - 0).toNat = n := by omega
  rw [this]
  refine List.map_congr_left fun a _ => ?_
  rw [Int.zero_add]
theorem small0 : (0 : Int).natAbs < 2 ^ 4000 := by
  rw [Int.natAbs_zero]
  exact Nat.two_pow_pos 4000
theorem smalls0 : Smalls [0] := by
  intro i h
  have e : i = 0 := Nat.lt_one_iff.mp h
  subst e
  rw [List.getElem_cons_zero]
  exact small0
theorem eq_nil {ms : List Int} : eqM (.lst (ms.map D.int)) (.lst []) = .ret (.bl ms.isEmpty) := by
  have h1 : okD 64 (.lst (ms.map D.int)) = true := by
    unfold okD
    rw [List.all_eq_true]
    intro d hd
    obtain ⟨i, _, rfl⟩ := List.mem_map.mp hd
    rfl
  have h2 : okD 64 (.lst []) = true := by unfold okD; rfl
  unfold eqM
  rw [h1, h2, if_pos (by rfl)]
  cases ms with
  | nil => rfl
  | cons x xs => rfl
abbrev bEnd : PD.Env → M (Fl × PD.Env) := (sSeq (sIf (eTest (e2 eqM (eR 1) (eLst eNil))) (sSetO 1 (eLst (eCons (eC (.int 0)) eNil))) sSkip)
    (sFrz 1 (sRet (eLst (eCons (eV 1) (eCons (eC (.int 0)) eNil))))))
theorem test_nil {ms : List Int} {s : Slot} : eTest (e2 eqM (eR 1) (eLst eNil)) [.no, .own (.lst (ms.map D.int)), s] = .ret ms.isEmpty := by
  have e : e2 eqM (eR 1) (eLst eNil) [.no, .own (.lst (ms.map D.int)), s] = .ret (.bl ms.isEmpty) := by
    show eqM (.lst (ms.map D.int)) (.lst []) = _
    exact eq_nil
  unfold eTest
  rw [e]
  rfl
theorem end_nil {s : Slot} : bEnd [.no, .own (.lst (([] : List Int).map D.int)), s] = .ret (.rt (.lst [.lst ([(0 : Int)].map D.int), .int 0]), [.no, .v (.lst [.int 0]), s]) := by
  unfold bEnd sSeq sIf
  rw [test_nil]
  rfl
theorem end_cons {ms : List Int} {s : Slot} (h : ms ≠ []) : bEnd [.no, .own (.lst (ms.map D.int)), s] = .ret (.rt (.lst [.lst (ms.map D.int), .int 0]), [.no, .v (.lst (ms.map D.int)), s]) := by
  have e : ms.isEmpty = false := by cases ms with | nil => exact absurd rfl h | cons => rfl
  unfold bEnd sSeq sIf
  rw [test_nil, e]
  rfl
theorem rng1_nat {n : Nat} (h : n ≤ 63) : rng1M [.int (n : Nat)] = .ret (rngM 0 (n : Nat)) := by
  unfold rng1M
  exact if_pos (by omega)
theorem iter_ok {ms : List Int} {s0 : Slot} (hl : ms.length ≤ 63) : iCall rng1M (eCons (eCall (arg1 lenM) (eCons (eR 1) eNil)) eNil) [.no, .own (.lst (ms.map D.int)), s0] = .ret ((List.range' 0 ms.length).map fun (j : Nat) => D.int j) := by
  have e : eCons (eCall (arg1 lenM) (eCons (eR 1) eNil)) eNil [.no, .own (.lst (ms.map D.int)), s0] = .ret [.int (ms.length : Nat)] := by
    show M.ret [D.int ((ms.map D.int).length : Nat)] = _
    rw [List.length_map]
  unfold iCall
  rw [e, ret_bind, rng1_nat hl, rng_nat]
abbrev bFor : PD.Env → M (Fl × PD.Env) := sFor (iCall rng1M (eCons (eCall (arg1 lenM) (eCons (eR 1) eNil)) eNil)) (tgN 2) bTurn
abbrev bIf : PD.Env → M (Fl × PD.Env) := sIf (eTest (e2 eqM (eR 1) (eLst eNil))) (sSetO 1 (eLst (eCons (eC (.int 0)) eNil))) sSkip
theorem if_nil {s : Slot} : bIf [.no, .own (.lst (([] : List Int).map D.int)), s] = .ret (.nx, [.no, .own (.lst ([(0 : Int)].map D.int)), s]) := by
  unfold bIf sIf
  rw [test_nil]
  rfl
theorem if_cons {ms : List Int} {s : Slot} (h : ms ≠ []) : bIf [.no, .own (.lst (ms.map D.int)), s] = .ret (.nx, [.no, .own (.lst (ms.map D.int)), s]) := by
  have e : ms.isEmpty = false := by cases ms with | nil => exact absurd rfl h | cons => rfl
  unfold bIf sIf
  rw [test_nil, e]
  rfl
theorem for_ok {ms : List Int} {s0 : Slot} (hl : ms.length ≤ 63) : ∃ ms1 s1, ms1.length = ms.length ∧ Smalls ms1 ∧ bFor [.no, .own (.lst (ms.map D.int)), s0] = .ret (.nx, [.no, .own (.lst (ms1.map D.int)), s1]) := by
  obtain ⟨ms1, s1, l1, sm, h1⟩ := loop_ok ms.length 0 ms s0 (Nat.zero_add _).symm (fun _ _ h => absurd h (Nat.not_lt_zero _))
  refine ⟨ms1, s1, l1, sm, ?_⟩
  unfold bFor sFor
  rw [iter_ok hl, tryB_ret]
  exact h1
theorem if_ok {ms : List Int} {s : Slot} (hl : ms.length ≤ 63) (sm : Smalls ms) : ∃ ms2, ms2 ≠ [] ∧ ms2.length ≤ 63 ∧ Smalls ms2 ∧ bIf [.no, .own (.lst (ms.map D.int)), s] = .ret (.nx, [.no, .own (.lst (ms2.map D.int)), s]) := by
  by_cases hz : ms = []
  · subst hz
    exact ⟨[0], List.cons_ne_nil _ _, Nat.succ_le_succ (Nat.zero_le _), smalls0, if_nil⟩
  · exact ⟨ms, hz, hl, sm, if_cons hz⟩
/-- what the law's source promises: two new lists -/
def SpSrc (K : PySem.W.Frag) : Sp := fun vs H Q E => ∃ p ms, vs = [V.ref p] ∧ SqL K H p ((ms : List Int).map V.int) ∧
  ∀ (a c : Addr) (cells : List Int) (H' : Hp), a ≠ c → H' a = some (.lst [.ref c, .int 0]) → H' c = some (.lst (cells.map V.int)) → cells ≠ [] → cells.length ≤ 63 → (∀ x ∈ cells, x.natAbs < 2 ^ 4000) → (∀ b o, H b = some o → H' b = some o) → H a = none → H c = none → Q (.ref a) H'
section
variable {P : Program} {w : World} {K : PySem.W.Frag} {mg : Str → Option Value} {base : Heap} {W : Wd}
abbrev ad1 (p : Addr) : Nat → Addr := fun _ => p
theorem src_start {W : Wd} (hS : W.S = none) {H : Hp} {q p : Addr} {ms : List Int} (hp : H p = none) : Sim ⟨W, H, fun _ => none⟩ 0 [.no, .own (.lst (ms.map D.int)), .no] (ad1 p) [some (.ref q), some (.ref p), none] (fun _ => none) (upd H p (.lst (ms.map V.int))) := by
  have rl : ∀ ms : List Int, RepL W (fun _ => none) (ms.map V.int) (ms.map D.int) := fun ms => by
    induction ms with
    | nil => exact .nil
    | cons x xs ih => exact .cons (.int _) ih
  refine ⟨fun _ _ e => (by cases e), fun _ _ e => (by cases e), SameX.upd hp, fun _ _ e => (by cases e), fun _ _ e => (by cases e), ?_, rfl, fun i d h => ?_, fun i d h => ?_, fun i d h => ?_, fun i j d e h1 h2 _ => ?_⟩
  · show SrcOk W.S _ _
    rw [hS]
    trivial
  · match i, h with
    | 0, h => cases h
    | 1, h => cases h
    | 2, h => cases h
    | _ + 3, h => cases h
  · match i, h with
    | 0, h => cases h
    | 1, h => cases h
    | 2, h => cases h
    | _ + 3, h => cases h
  · match i, h with
    | 0, h => cases h
    | 1, h =>
      cases h
      refine ⟨rfl, ⟨_, upd_same, rl ms⟩, hp, rfl, fun a c e _ => ?_⟩
      rw [hS] at e
      cases e
    | 2, h => cases h
    | _ + 3, h => cases h
  · have one : ∀ {i : Nat} {d : D}, ([Slot.no, .own (.lst (ms.map D.int)), .no] : PD.Env)[i]? = some (Slot.own d) → i = 1 := fun {i d} h => by
      match i, h with
      | 0, h => cases h
      | 1, h => rfl
      | 2, h => cases h
      | _ + 3, h => cases h
    rw [one h1, one h2]
theorem ints_of {W : Wd} {I : Hp} : ∀ {ms : List Int} {vs : List V}, RepL W I vs (ms.map D.int) → vs = ms.map V.int
  | [], [], _ => rfl
  | m :: ms, v :: vs, h => by
    cases h with
    | cons h1 h2 =>
      cases h1
      rw [ints_of h2]
      rfl
theorem cut63 {ms : List Int} : cutV (ms.map V.int) none (some 63) = ((ms.take 63).map V.int) := by
  unfold cutV
  rw [List.length_map]
  have e1 : HT.sIx ms.length 0 none = 0 := rfl
  rw [e1, List.drop_zero, Nat.sub_zero, List.map_take]
  by_cases h : 63 ≤ ms.length
  · have : HT.sIx ms.length ms.length (some 63) = 63 := by unfold HT.sIx; simp; omega
    rw [this]
  · have : HT.sIx ms.length ms.length (some 63) = ms.length := by unfold HT.sIx; simp; omega
    rw [this, List.take_of_length_le (by rw [List.length_map]; omega), List.take_of_length_le (by rw [List.length_map]; omega)]
/-- the source's body, read -/
def tSource (K : PySem.W.Frag) (W : Wd) (H : Hp) (E : XK) : TS := tSeq (tAsg (tSl (rSlL K) (tVar 0) tNoPart (tPart (tC (.int 63)))) (gName 1))
  (tSeq (tS ⟨W, H, fun _ => none⟩ (exE W E) bFor) (tSeq (tS ⟨W, H, fun _ => none⟩ (exE W E) bIf) (tRet (tLst (tCons (tVar 1) (tCons (tC (.int 0)) tNil))))))
theorem source_all {vs : List V} {H : Hp} {Q : VK} {E : XK} {N : List Str} (hN : N.length = 3) (hS : W.S = none) (h : SpSrc K vs H Q E) : tSource K W H E { nx := fun _ H' => Q .non H', rt := Q } (L2.start N vs) H := by
  obtain ⟨q, ms, rfl, hq, h⟩ := h
  have es : L2.start N [V.ref q] = [some (.ref q), none, none] := by
    unfold L2.start
    rw [hN]
    rfl
  rw [es]
  refine ⟨.ref q, rfl, 63, rfl, q, _, rfl, hq, fun p hp => ?_⟩
  rw [cut63]
  have hl : (ms.take 63).length ≤ 63 := by rw [List.length_take]; omega
  obtain ⟨ms1, s1, l1, sm1, h1⟩ := for_ok (ms := ms.take 63) (s0 := .no) hl
  obtain ⟨ms2, ne2, l2, sm2, h2⟩ := if_ok (ms := ms1) (s := s1) (by omega) sm1
  refine ⟨0, _, _, _, src_start hS hp, ?_⟩
  show AllB (bFor _) 0 _ noE
  rw [h1]
  intro ad1' σ1 I1 H1 S1 i1
  refine ⟨0, _, ad1', I1, S1, ?_⟩
  show AllB (bIf _) 0 _ noE
  rw [h2]
  intro ad2 σ2 I2 H2 S2 i2
  obtain ⟨e2, ⟨vs, w2, r2⟩, b2, _, _⟩ := S2.so 1 _ rfl
  rw [ints_of r2] at w2
  refine ⟨.ref (ad2 1), e2, ?_⟩
  refine ⟨show 2 ≤ sizeLine by decide, fun a ha => ?_⟩
  have ne : ad2 1 ≠ a := fun z => by rw [z, ha] at w2; cases w2
  have sub2 : ∀ b o, H b = some o → H2 b = some o := fun b o e => S2.base b o (fun a c z => by rw [show W.S = some (a, c) from z] at hS; cases hS) e
  refine h a (ad2 1) ms2 _ (Ne.symm ne) upd_same (by rw [upd_ne ne]; exact w2) ne2 l2 (fun x hx => ?_) (fun b o e => ?_) ?_ b2
  · obtain ⟨i, hi, rfl⟩ := List.getElem_of_mem hx
    exact sm2 i hi
  · have e2 := sub2 b o e
    rw [upd_ne (fun z => by rw [z, ha] at e2; cases e2)]
    exact e2
  · cases e : H a with
    | none => rfl
    | some o => exact absurd (sub2 a o e) (by rw [ha]; exact nofun)

end
end PD

set_option Elab.async false
set_option linter.all false
set_option maxRecDepth 100000
set_option maxHeartbeats 4000000
set_option exponentiation.threshold 5000
/-! PDLaw: defs, classes and errors by names; the law's def; the end. -/
namespace PDL
open PySem PySem.Spec L2 PyProof.Rows
theorem FunT.of {K : PySem.W.Frag} {x qual : Str} {st : Stmt} {dvs : List V} {kws : List (Str × V)} {f : Addr} {fd : FuncData} (F : FunD K x qual (defArgs st) (defBody st) (defScope st) dvs kws f fd) : FunT K x qual st f fd := by
  obtain ⟨oc, od, dV, kV, doc, pm, an, cdv, ct, osl, h1, h2, h3, _⟩ := F.ex
  exact ⟨oc, od, an, dV, kV, doc, pm, cdv, ct, osl, h1, h2, h3⟩
theorem Top.fn {K : PySem.W.Frag} {mg : Str → Option Value} {ck : List Ck} {fns : List DefP} (Z : Top K mg ck fns) (i : Nat) {d : DefP} (h : fns[i]? = some d := by rfl) (hc : d.clo = [] := by rfl) : ∃ fd, FunD K d.name d.qual (defArgs d.st) (defBody d.st) (defScope d.st) (d.dvs K) [] (d.adr K) fd := Z.says.fn i h hc
/-- a method within a class -/
def inCls (s : Stmt) (j : Nat) : Stmt := match s with
  | .ClassDef _ _ _ b _ _ _ _ _ _ _ => b.getD j (.Pass ⟨0, 0, 0, 0⟩)
  | _ => .Pass ⟨0, 0, 0, 0⟩
theorem boot_VE : bootBuiltins "ValueError" = some (.type "ValueError") := by decide +kernel
theorem kOex_ok {K : PySem.W.Frag} {ns : Ns} {c : Nat} {f : Str} (h : kOex ns c f K = true) : OexC K (cAt ns K c) ∧ PySem.W.findIn K (.ref (cAt ns K c)) f = some none ∧ PySem.W.findIn K (.ref (cAt ns K c)) "__init__" = some (some (.ref (He.ma K (cAt ns K c) "__init__"))) ∧ PySem.W.typeIn K (.ref (He.ma K (cAt ns K c) "__init__")) = some (.type "function") := by
  simp only [kOex, Bool.and_eq_true, decide_eq_true_eq] at h
  exact ⟨oexB_ok h.1.1.1, He.eqO_ok h.1.1.2, He.eqO_ok h.1.2, h.2⟩
theorem kInit_ok {K : PySem.W.Frag} {ns : Ns} {c : Nat} (h : kInit ns c K = true) : InitC K (cAt ns K c) := initB_ok h
theorem hu62 {k : Nat} {A : Around} (hr : Room k A) : A.units + 62 < cLine := by
  have := hr.un
  omega
theorem passF {X : Cx} {σ : L2.St} : PassesAt (L2.CX X.prog X.w) X σ (fun _ _ _ => False) := passAt (W := fun _ _ _ _ => False) (fun u s' ⟨_, _, _, _, _, _, _, _, _, _, _, _, _, _, _, _, z⟩ => z.elim) σ
/-- an empty tuple of the text -/
def kTup0 (a : PySem.W.Frag → Addr) : Ck := fun K => match K.lookup (a K) with
  | some ⟨.type c, _, .seq its _, _⟩ => decide (c = "tuple") && its.isEmpty
  | _ => false
theorem kTup0_ok {K : PySem.W.Frag} {a : PySem.W.Frag → Addr} (h : kTup0 a K = true) (H : Hp) : SqT K H (a K) [] := by
  unfold kTup0 at h
  split at h
  · rename_i c od its n osl e
    obtain ⟨h1, h2⟩ := He.ba h
    have h3 : its.toList = [] := by simpa using h2
    exact .inr ⟨_, its, n, e, congrArg Value.type (of_decide_eq_true h1), rfl, by rw [show its.size = 0 by simpa using congrArg List.length h3]; exact Nat.zero_le _, by rw [h3]; exact .nil⟩
  · cases h
/-- the law of a script -/
def SpLaw (K : PySem.W.Frag) : Sp := fun vs H Q E => ∃ p ms, vs = [V.ref p] ∧ SqL K H p ((ms : List Int).map V.int) ∧ ∀ H', Q (.bl true) H'
theorem walk_ofP {l : PySem.W.OpenLaw} {n k : Nat} {q : Program} {loose : List Str} {XP : (Str → Option Value) → Heap → Prop} {YP : World → Heap → Prop} {d : DefRec} {CX : World → CXT} {x : Str}
    (hn : l.most = some n) (hz : n ≤ sizeLine) (hdf : d.params.defaults = []) (hr : Room k callerA)
    (F : ∀ (w : World) (mg : Str → Option Value) (fa : Addr) (h : Heap), YP w h → h.Ns mainGlobals mg → mg d.name = some (.ref fa) →
      ∃ (K : PySem.W.Frag) (fd : FuncData), K.In h ∧ (∀ (s : Shared) (u : Value), BindsTo s fd ⟨[u], []⟩ [(x, u)]) ∧ ∀ base : Heap, K.In base → base.Ns mainGlobals mg → FnG l.prog w K mg base (CX w) k fa fd [x] (SpLaw K))
    (hCX : ∀ (w : World) (H : Hp) (s : Shared) (e : Value) (s' : Shared), CX w [] H s (fun _ _ _ => False) e s' → False) :
    PySem.W.WalkO q loose XP YP l.row.toRowW d [] (fun f vs => PySem.call f vs) := by
  refine Att.attach_callB hn hdf fun w s₀ s₁ mg mb fa o pm cd doc a vs ns G Y ho hd hcd hmg hobj hints hlen hbits hg => ?_
  obtain ⟨K, fd, KX, hb, hF⟩ := F w mg fa _ Y G.T.g hmg
  exact law_callG KX G.T.g G.T.b G.T.builtins G.T.nolimit hg hobj hints (Nat.le_trans hlen hz) hr hF hb (fun H hO hS hA => ⟨a, ns, rfl, hS, fun _ => rfl⟩) fun H e s' => hCX w H s₁ e s'
end PDL
namespace PD
open PySem PySem.Spec L2 PDL
section
variable {P : Program} {w : World} {K : PySem.W.Frag} {mg : Str → Option Value} {base : Heap}
/-- a class that is called: its __init__ keeps a promise; dvs: the defaults that lack -/
structure MkOk (P : Program) (w : World) (K : PySem.W.Frag) (mg : Str → Option Value) (base : Heap) (x : Str) (ps : List Str) (k : Nat) (C : Addr) (dvs : List V) (sp : Sp) : Prop where
  ex : ∃ f fd dl, FnG P w K mg base (L2.CX P w) k f fd ps sp ∧ Mk K C f ∧ mg x = some (.ref C) ∧ Vals dvs dl ∧ L2.Binds K fd ps dl
/-- an error class with a field -/
structure ExOk (P : Program) (w : World) (K : PySem.W.Frag) (mg : Str → Option Value) (base : Heap) (x : Str) (k : Nat) (C : Addr) (fl : Str) : Prop where
  ex : ∃ f fd y, OexC K C ∧ PySem.W.findIn K (.ref C) "__init__" = some (some (.ref f)) ∧ PySem.W.typeIn K (.ref f) = some (.type "function") ∧ FnOk P w K mg base (L2.CX P w) k f fd ["self", y] (SpX K C fl) ∧ mg x = some (.ref C) ∧ L2.Binds K fd ["self", y] []
/-- an error class without one -/
structure ErOk (K : PySem.W.Frag) (mg : Str → Option Value) (x : Str) (C : Addr) : Prop where
  ex : PySem.W.excIn K C He.veBase "ValueError.__new__" = true
  kp : PySem.W.keepIn K (.ref C) = true
  sb : PySem.W.subIn K (.ref C) (.type "BaseException") = some true
  ty : PySem.W.typeIn K (.ref C) = some (.type "type")
  mg : mg x = some (.ref C)
theorem erOk {ns : Ns} {c : Nat} {x : Str} (h : kErr ns c K = true) (hm : mg x = some (.ref (cAt ns K c))) : ErOk K mg x (cAt ns K c) := by
  simp only [kErr, optB, Bool.and_eq_true, decide_eq_true_eq] at h
  exact ⟨h.1.1.1, h.1.1.2, h.1.2, h.2, hm⟩
/-- a property that reads a field -/
structure PropOk (P : Program) (w : World) (K : PySem.W.Frag) (mg : Str → Option Value) (base : Heap) (nm fl : Str) (k : Nat) (C : Addr) : Prop where
  ex : ∃ p g fd, Cls K C ∧ PropOf K C nm p g ∧ FnOk P w K mg base (L2.CX P w) k g fd ["self"] (getSp C fl) ∧ L2.Binds K fd ["self"] []
end
section
variable {C : Ctx} {ex : Ex} {X : Cx} {e : Expr} {es : List Expr} {f : Env → M D} {fs : Env → M (List D)} {pos pos' : Pos} {m : Md} {ms ms2 : List Md} {W : Wd} {F : List D → M D} {k c : Nat} {ps : List Str} {x nm : Str} {p : Pos} {dvs : List V} {dds : List D}
theorem pm_makeD (D0 : MkOk X.prog X.w X.K X.mg X.base x ps k (W.cls c) dvs (SpI W c (ms ++ ms2) F)) (hW : C.W = W) (tk : Takes X (wxOf C ex)) (hgd : X.A.guards = some []) (hr : Room (k + 1) X.A) (hg : Gl X x) (hdd : ∀ I H, RepA C I H ms2 dvs dds) (ha : PMA ms C ex X (e :: es) fs)
    (hms : ((ms ++ ms2).all fun m => decide (m = .val ∨ m = .rd)) = true := by rfl) (hdb : (x == ("__debug__" : Str)) = false := by decide) (he : starEach (e :: es) X.env = (false, eval e X.env) :: starEach es X.env := by rfl) (hpl : (backTo pos (starEach es X.env)).any (·.1) = false := by rfl) :
    PM .val C ex X (.Call (.Name x p) (e :: es) [] pos) (eCall (fun ds => F (ds ++ dds)) fs) := by
  obtain ⟨f, fd, dl, G, M, h1, h2, h3⟩ := D0.ex
  exact pm_make hW G M tk hgd hr hg h1 h3 h2 (fun I H _ => hdd I H) ha hms hdb he hpl
theorem ms_raiseD (D0 : ExOk X.prog X.w X.K X.mg X.base x k (C.W.cls c) (C.W.fld c)) (hf : C.W.fld c ≠ Str.empty) (hc : X.calm = true) (tk : Takes X (wxOf C ex)) (hr : Room (k + 1) X.A) (hg : Gl X x) (ha : PM .val C ex X e f) (hx : Passes (L2.CX X.prog X.w) X (fun _ _ _ => False))
    (hdb : (x == ("__debug__" : Str)) = false := by decide) (he : starEach [e] X.env = (false, eval e X.env) :: starEach [] X.env := by rfl) (hpl : (backTo pos (starEach [] X.env)).any (·.1) = false := by rfl) : PMS C ex X (.Raise (some (.Call (.Name x p) [e] [] pos)) none pos') (sRaise c f) := by
  obtain ⟨f, fd, y, T, h1, h2, F1, h3, h4⟩ := D0.ex
  exact ms_raise hc tk T h1 h2 F1 hf hr h4 hx hg h3 ha hdb he hpl
theorem ms_raise0D {mt : Str} {j : Nat} {p2 : Pos} (D0 : ErOk X.K X.mg x (C.W.cls c)) (hf : C.W.fld c = Str.empty) (hc : X.calm = true) (tk : Takes X (wxOf C ex)) (hg : Gl X x) (hdb : (x == ("__debug__" : Str)) = false := by decide) : PMS C ex X (.Raise (some (.Call (.Name x p) [.Constant (.str mt) j p2] [] pos)) none pos') (sRaise0 c) :=
  ms_raise0 hc tk F.excBase_ValueError D0.ex D0.mg D0.kp (raises_own D0.sb D0.ty) hf hg hdb
theorem pm_propD {fl : Str} (D0 : PropOk X.prog X.w X.K X.mg X.base nm fl k (C.W.cls c)) (hx : C.W.isX c = false) (hr : Room (k + 1) X.A) (ha : PM .rd C ex X e f) (hab : attributeBase e nm X.env (eval e X.env) = eval e X.env := by rfl) : PM .val C ex X (.Attribute e nm pos) (e1 (fldM [c] fl) f) := by
  obtain ⟨p, g, fd, T, hp, F, hb⟩ := D0.ex
  exact pm_prop hx T hp F hr hb ha hab
end
theorem propOk {P : Program} {w : World} {K : PySem.W.Frag} {mg : Str → Option Value} {base : Heap} {T : Cl} {c : Nat} {nm fl qual : Str} {st : Stmt} {fd : FuncData} {N : List Str} {p1 p2 p3 : Pos} (F : FunD K nm qual (defArgs st) (defBody st) (defScope st) [] [] (getAt K (cAt T.ns K c) nm) fd) (S : FnScope N ["self"] (defScope st)) (hN : N[0]? = some ("self" : Str))
    (hb : defBody st = [.Return (some (.Attribute (.Name "self" p1) fl p2)) p3]) (hf : kFld T [c] fl K = true) (hp : kProp T.ns c nm K = true) (hbind : L2.Binds K fd ["self"] []) : PropOk P w K mg base nm fl 1 (cAt T.ns K c) := by
  obtain ⟨_, g1, g2⟩ := (fld_ok (S := none) (me := none) hf).ok c List.mem_cons_self
  obtain ⟨oc, od, dV, kV, doc, pm, an, cdv, ct, osl, rfl, lk, hcd, _⟩ := F.ex
  exact ⟨_, _, _, g1, kProp_ok hp, fn_getter lk hcd S hN hb g1 g2, hbind⟩
/-! ### the law's body -/
def tAnyS (T : Cl) (K : PySem.W.Frag) (b : Env → M (Fl × Env)) : TS := fun Dn σ H => ∃ S B I0, tS ⟨wd T K S, B, I0⟩ exNo b Dn σ H
theorem pss_any {X : Cx} {T : Cl} {K : PySem.W.Frag} {b : Env → M (Fl × Env)} {st : List Stmt} (h : ∀ S B I0, PMB ⟨wd T K S, B, I0⟩ exNo X st b) : PSs X st (tAnyS T K b) :=
  ⟨fun pins s σ H D I ⟨S, B, I0, q⟩ => (h S B I0).run pins s σ H D I q⟩
abbrev lawP : Nat → Fl × Env → Prop := fin (fun _ d => d = .bl true) fun _ _ _ => False
theorem law_read {T : Cl} {K : PySem.W.Frag} {b : Env → M (Fl × Env)} {N : List Str} {n : Nat} {vs : List V} {H : Hp} {Q : VK} {E : XK} (hN : N.length = n + 2) (hb : AllB (b (.no :: .v .src :: List.replicate n .no)) (2 ^ 399) lawP noE) (h : SpLaw K vs H Q E) :
    tSeq (tAsg (tCallSD (SpSrc K) [] (fun _ _ _ _ => False) (tCons (tVar 0) tNil)) (gName 1)) (tAnyS T K b) { nx := fun _ H' => Q .non H', rt := Q } (L2.start N vs) H := by
  obtain ⟨p, ms, rfl, hS, hQ⟩ := h
  have es : L2.start N [V.ref p] = some (.ref p) :: none :: List.replicate n none := by
    unfold L2.start
    rw [hN]
    show some (V.ref p) :: List.replicate (n + 2 - 1) none = _
    rw [show n + 2 - 1 = n + 1 from rfl]
    rfl
  rw [es]
  refine ⟨.ref p, rfl, p, ms, rfl, hS, fun a c cells H' hac h1 h2 h3 h4 h5 h6 h7 h8 => ?_⟩
  refine ⟨some (a, c), H', fun _ => none, 2 ^ 399, .no :: .v .src :: List.replicate n .no, ad0, fun _ => none, ?_, hb.mono (fun n' r q => ?_) fun _ _ _ z => z⟩
  · have reps : ∀ {i : Nat} {s : Slot}, (Slot.no :: Slot.v .src :: List.replicate n .no)[i]? = some s → s = .no ∨ i = 1 ∧ s = .v .src := fun {i s} h => by
      match i, h with
      | 0, h => exact .inl (by simpa using h.symm)
      | 1, h => exact .inr ⟨rfl, by simpa using h.symm⟩
      | i + 2, h =>
        simp only [List.getElem?_cons_succ, List.getElem?_replicate] at h
        split at h <;> cases h
        exact .inl rfl
    refine ⟨(fun _ _ e => nomatch e), Sub.refl _, SameX.refl _, (fun _ _ e => nomatch e), (fun _ _ e => nomatch e), ?_, ?_, fun i d e => ?_, fun i d e => ?_, fun i d e => ?_, fun i j d e h => ?_⟩
    · exact .inr ⟨hac, 0, cells, h1, h2, Int.le_refl 0, by decide +kernel, h3, h4, h5⟩
    · simp
    · rcases reps e with z | ⟨rfl, z⟩
      · cases z
      · cases z
        exact ⟨.ref a, rfl, .src rfl⟩
    · rcases reps e with z | ⟨_, z⟩ <;> cases z
    · rcases reps e with z | ⟨_, z⟩ <;> cases z
    · rcases reps h with z | ⟨_, z⟩ <;> cases z
  · obtain ⟨fl, env'⟩ := r
    cases fl with
    | nx => cases q
    | brk => exact False.elim q
    | cnt => exact False.elim q
    | rt d =>
      have q : d = .bl true := q
      subst q
      intro ad' σ' I' H2 v S' i r
      cases r
      exact hQ H2
    | rtF d =>
      have q : d = .bl true := q
      subst q
      intro ad' σ' I' H2 v S' i r
      obtain ⟨a, h1, h2, h3, _⟩ := r
      exact False.elim h3
    | exc c d => exact False.elim q
end PD

set_option Elab.async false
set_option linter.all false
set_option maxRecDepth 100000
set_option maxHeartbeats 4000000
set_option exponentiation.threshold 5000
/-! PDMath: runs on all ways; no heap here. -/
namespace PD
open PySem
section
variable {α β : Type} {m : M α} {f : α → M β} {k j : Nat} {φ φ' : α → Prop} {ψ : β → Prop} {χ χ' : Nat → D → Prop}
/-- every way ends, with at most k draws, in φ or in an error of χ -/
@[irreducible] def Rn (m : M α) (k : Nat) (φ : α → Prop) (χ : Nat → D → Prop) : Prop := ∀ n, k ≤ n → AllB m n (fun n' a => n ≤ n' + k ∧ φ a) (fun n' c d => n ≤ n' + k ∧ χ c d)
theorem Rn.mk (h : ∀ n, k ≤ n → AllB m n (fun n' a => n ≤ n' + k ∧ φ a) (fun n' c d => n ≤ n' + k ∧ χ c d)) : Rn m k φ χ := by
  unfold Rn
  exact h
theorem Rn.un (h : Rn m k φ χ) : ∀ n, k ≤ n → AllB m n (fun n' a => n ≤ n' + k ∧ φ a) (fun n' c d => n ≤ n' + k ∧ χ c d) := by
  unfold Rn at h
  exact h
abbrev noX : Nat → D → Prop := fun _ _ => False
theorem Rn.ret {a : α} (h : φ a) : Rn (.ret a) k φ χ := .mk fun n hn => ⟨by omega, h⟩
theorem Rn.raise {c : Nat} {d : D} (h : χ c d) : Rn (.raise c d : M α) k φ χ := .mk fun n hn => ⟨by omega, h⟩
theorem Rn.mono (h : Rn m k φ χ) (hk : k ≤ j) (h1 : ∀ a, φ a → φ' a) (h2 : ∀ c d, χ c d → χ' c d) : Rn m j φ' χ' := .mk fun n hn => (h.un n (by omega)).mono (fun n' a ⟨q, z⟩ => ⟨by omega, h1 a z⟩) fun n' c d ⟨q, z⟩ => ⟨by omega, h2 c d z⟩
theorem Rn.le (h : Rn m k φ χ) (hk : k ≤ j) : Rn m j φ χ := h.mono hk (fun _ z => z) fun _ _ z => z
theorem Rn.imp (h : Rn m k φ χ) (h1 : ∀ a, φ a → φ' a) : Rn m k φ' χ := h.mono (Nat.le_refl _) h1 fun _ _ z => z
theorem Rn.draw {l : Int} {g : Int → M α} (h0 : 0 < l) (h1 : l < 2 ^ 4000) (h : ∀ i, 0 ≤ i → i < l → Rn (g i) k φ χ) : Rn (.draw l g) (k + 1) φ χ := .mk fun n hn =>
  ⟨h0, h1, n - 1, by omega, fun i a b => ((h i a b).un (n - 1) (by omega)).mono (fun n' a ⟨q, z⟩ => ⟨by omega, z⟩) fun n' c d ⟨q, z⟩ => ⟨by omega, z⟩⟩
theorem Rn.bind (h : Rn m k φ χ) (g : ∀ a, φ a → Rn (f a) j ψ χ) : Rn (m >>= f) (k + j) ψ χ := .mk fun n hn => by
  rw [allB_bind]
  exact (h.un n (by omega)).mono (fun n' a ⟨q, z⟩ => ((g a z).un n' (by omega)).mono (fun n2 b ⟨q2, z2⟩ => ⟨by omega, z2⟩) fun n2 c d ⟨q2, z2⟩ => ⟨by omega, z2⟩) fun n' c d ⟨q, z⟩ => ⟨by omega, z⟩
theorem Rn.tryB {e : Env} {g : α → M (Fl × Env)} {θ : Fl × Env → Prop} {χ2 : Nat → D → Prop} (h : Rn m k φ χ) (h1 : ∀ a, φ a → Rn (g a) j θ χ2) (h2 : ∀ c d, χ c d → θ (.exc c d, e)) : Rn (tryB m e g) (k + j) θ χ2 := .mk fun n hn => by
  rw [allB_tryB]
  exact (h.un n (by omega)).mono (fun n' a ⟨q, z⟩ => ((h1 a z).un n' (by omega)).mono (fun n2 b ⟨q2, z2⟩ => ⟨by omega, z2⟩) fun n2 c d ⟨q2, z2⟩ => ⟨by omega, z2⟩) fun n' c d ⟨q, z⟩ => ⟨by omega, h2 c d z⟩
theorem Rn.drawM {l : Int} (h0 : 0 < l) (h1 : l < 2 ^ 4000) : Rn (drawM [.src, .int l]) 1 (fun d => ∃ i, d = .int i ∧ 0 ≤ i ∧ i < l) χ := Rn.draw (k := 0) h0 h1 fun i a b => .ret ⟨i, rfl, a, b⟩
end
/-- the law's end -/
theorem law_of {m : M (Fl × Env)} {k : Nat} (h : Rn m k (fun r => r.1 = .rt (.bl true)) noX) (hk : k ≤ 2 ^ 399) : AllB m (2 ^ 399) lawP noE := (h.un _ hk).mono (fun n' r ⟨_, z⟩ => by
  obtain ⟨fl, e⟩ := r
  obtain rfl : fl = _ := z
  rfl) fun n' c d ⟨_, z⟩ => z
section
variable {s t : Env → M (Fl × Env)} {e : Env} {k j : Nat} {θ : Fl × Env → Prop} {χ : Nat → D → Prop}
/-- one statement, then the rest -/
theorem Rn.seq {η : Fl × Env → Prop} (h : Rn (s e) k η χ) (h1 : ∀ fl e', η (fl, e') → match fl with | .nx => Rn (t e') j θ χ | _ => θ (fl, e')) : Rn (sSeq s t e) (k + j) θ χ := Rn.bind h fun r hr => by
  obtain ⟨fl, e'⟩ := r
  have := h1 fl e' hr
  cases fl with
  | nx => exact this
  | _ => exact .ret this
theorem Rn.seq_nx {η : Env → Prop} (h : Rn (s e) k (fun r => r.1 = .nx ∧ η r.2) χ) (h1 : ∀ e', η e' → Rn (t e') j θ χ) : Rn (sSeq s t e) (k + j) θ χ := Rn.seq h fun fl e' hr => by
  obtain ⟨rfl, z⟩ : fl = .nx ∧ η e' := hr
  exact h1 e' z
theorem Rn.set {i : Nat} {f : Env → M D} {φ : D → Prop} (h : Rn (f e) k φ noX) (h1 : ∀ d, φ d → Rn (t (e.set i (.v d))) j θ χ) : Rn (sSeq (sSet i f) t e) (k + j) θ χ := Rn.seq_nx (η := fun e' => ∃ d, φ d ∧ e' = e.set i (.v d)) (by
  exact (Rn.tryB (j := 0) h (fun d z => Rn.ret (φ := fun r : Fl × Env => r.1 = .nx ∧ ∃ d, φ d ∧ r.2 = e.set i (.v d)) ⟨rfl, d, z, rfl⟩) fun _ _ z => z.elim)) fun e' ⟨d, z, ee⟩ => ee ▸ h1 d z
/-- a loop, by an invariant of the number of turns done -/
theorem Rn.loop {tg : D → Env → Option Env} {b : Env → M (Fl × Env)} (Iv : Nat → Env → Prop) : ∀ (ds : List D) (i : Nat) (e : Env), Iv i e →
    (∀ q d e, ds[q]? = some d → Iv (i + q) e → ∃ e', tg d e = some e' ∧ Rn (b e') k (fun r => match r with | (.nx, e2) => Iv (i + q + 1) e2 | (.cnt, e2) => Iv (i + q + 1) e2 | (.brk, e2) => θ (.nx, e2) | (.rt d, e2) => θ (.rt d, e2) | (.rtF d, e2) => θ (.rtF d, e2) | (.exc c d, e2) => θ (.exc c d, e2)) χ) →
    (∀ e, Iv (i + ds.length) e → θ (.nx, e)) → Rn (loopM tg b ds e) (k * ds.length) θ χ
  | [], i, e, h, _, hend => .ret (hend e (by simpa using h))
  | d :: ds, i, e, h, hb, hend => by
    obtain ⟨e', h1, h2⟩ := hb 0 d e rfl (by simpa using h)
    have ih := fun e2 (z : Iv (i + 1) e2) => Rn.loop Iv ds (i + 1) e2 z (fun q d e z1 z2 => by
      have := hb (q + 1) d e (by simpa using z1) (by rw [show i + (q + 1) = i + 1 + q by omega]; exact z2)
      rw [show i + (q + 1) = i + 1 + q by omega] at this
      exact this) (fun e z => hend e (by rw [List.length_cons, show i + (ds.length + 1) = i + 1 + ds.length by omega]; exact z))
    unfold loopM
    rw [h1, List.length_cons, Nat.mul_add_one, Nat.add_comm]
    refine Rn.bind h2 fun r hr => ?_
    obtain ⟨fl, e2⟩ := r
    cases fl with
    | nx => exact ih e2 hr
    | cnt => exact ih e2 hr
    | brk => exact .ret hr
    | rt d => exact .ret hr
    | rtF d => exact .ret hr
    | exc c d => exact .ret hr
end
/-! ### a def's run -/
theorem Rn.run {n : Nat} {s : Env → M (Fl × Env)} {args : List Slot} {k : Nat} {φ : D → Prop} {χ : Nat → D → Prop} (h : Rn (s (args ++ List.replicate (n - args.length) .no)) k (fun r => match r.1 with | .nx => φ .non | .rt d => φ d | .rtF d => φ d | .exc c d => χ c d | _ => False) noX) : Rn (PD.run n s args) k φ χ := .mk fun m hm => by
  have z := h.un m hm
  unfold PD.run
  generalize s (args ++ List.replicate (n - args.length) .no) = x at z
  have : ∀ (x : M (Fl × Env)) (m k : Nat) (q : Nat), AllB x m (fun n' r => q ≤ n' + k ∧ match r.1 with | .nx => φ .non | .rt d => φ d | .rtF d => φ d | .exc c d => χ c d | _ => False) (fun n' c d => q ≤ n' + k ∧ noX c d) → AllB (runM x) m (fun n' d => q ≤ n' + k ∧ φ d) (fun n' c d => q ≤ n' + k ∧ χ c d) := fun x => by
    induction x with
    | ret a =>
      intro m k q ⟨h1, h2⟩
      obtain ⟨fl, e⟩ := a
      cases fl with
      | nx => exact ⟨h1, h2⟩
      | brk => exact h2.elim
      | cnt => exact h2.elim
      | rt d => exact ⟨h1, h2⟩
      | rtF d => exact ⟨h1, h2⟩
      | exc c d => exact ⟨h1, h2⟩
    | bad => intro m k q h; exact h
    | raise c d => intro m k q ⟨_, h⟩; exact h.elim
    | draw l f ih =>
      intro m k q ⟨h1, h2, n', e, h3⟩
      exact ⟨h1, h2, n', e, fun i a b => ih i n' k q (h3 i a b)⟩
  exact this x m k m z
/-! ### texts' lengths -/
mutual
/-- no more signs than these in a value's repr -/
def wl : D → Nat
  | .non => 4
  | .bl _ => 5
  | .int i => i.natAbs.log2 + 2
  | .str x => 10 * x.length + 2
  | .tup xs => wls xs + 3
  | .lst xs => wls xs + 2
  | .dct kvs => wlk kvs + 2
  | _ => 4
def wls : List D → Nat
  | [] => 0
  | x :: xs => wl x + 2 + wls xs
def wlk : List (D × D) → Nat
  | [] => 0
  | (k, v) :: r => wl k + wl v + 4 + wlk r
end
mutual
/-- texts of plain signs, ints that are shown -/
def okT : D → Bool
  | .str x => x.cps.toList.all fun c => decide (c < 16 ^ 8)
  | .int i => decide (i.natAbs.log2 < 1920)
  | .tup xs => okTs xs
  | .lst xs => okTs xs
  | .dct kvs => okTk kvs
  | _ => true
def okTs : List D → Bool
  | [] => true
  | x :: xs => okT x && okTs xs
def okTk : List (D × D) → Bool
  | [] => true
  | (k, v) :: r => okT k && okT v && okTk r
end
theorem listText_len (ts : List Str) : (listText ts).length ≤ piled ts + 2 := by
  cases ts with
  | nil => decide
  | cons t r =>
    have h := textFrom_length_pos r 1 (("[" : Str) ++ (if (0 : Nat) > 0 then ", " else "" : String) ++ t) (Nat.succ_pos 0)
    have h2 : (listText (t :: r)).length = (textFrom 1 (("[" : Str) ++ (if (0 : Nat) > 0 then ", " else "" : String) ++ t) r).length + 1 := by
      show (textFrom 1 _ r ++ "]").length = _
      rw [strLen_append]
      rfl
    rw [h2, h, piled_cons, strLen_append, strLen_append, show (("[" : Str)).length = 1 from rfl, show (((if (0 : Nat) > 0 then ", " else "" : String) : Str)).length = 0 from rfl]
    omega
theorem join_len (ts : List Str) : (Str.join ", " ts).length ≤ piled ts := by
  cases ts with
  | nil => decide
  | cons t r => have := join_length_add (t :: r) (by simp); omega
theorem tupleText_len (ts : List Str) : (tupleText ts).length ≤ piled ts + 3 := by
  unfold tupleText
  rw [strLen_append, strLen_append, show (("(" : Str)).length = 1 from rfl]
  have h := join_len ts
  split
  · rw [show ((",)" : String) : Str).length = 2 from rfl]; omega
  · rw [show ((")" : String) : Str).length = 1 from rfl]; omega
theorem dictText_len (ts : List Str) : (dictText ts).length ≤ piled ts + 2 := by
  unfold dictText
  rw [strLen_append, strLen_append, show (("{" : Str)).length = 1 from rfl, show (("}" : Str)).length = 1 from rfl]
  have h := join_len ts
  omega
mutual
theorem shown_le : ∀ (d : D), okT d = true → (toPz d).shown.length ≤ wl d ∧ (toPz d).showable = true
  | .non, _ => by unfold toPz; exact ⟨by decide, rfl⟩
  | .bl true, _ => by unfold toPz; exact ⟨by decide, rfl⟩
  | .bl false, _ => by unfold toPz; exact ⟨by decide, rfl⟩
  | .int i, h => by
    unfold toPz
    refine ⟨?_, by simpa [PyData.showable, okT] using h⟩
    have := int_text_length_le (a := i) (k := i.natAbs.log2 + 1) (by omega) (by omega)
    simp only [PyData.shown, wl]
    have e : ((toString i : String) : Str).length = (toString i).length := by
      exact ofString_length _
    omega
  | .str x, h => by
    unfold toPz
    refine ⟨?_, by simp [PyData.showable]⟩
    simp only [PyData.shown, wl]
    exact StrLaws.reprText_len x fun c hc => of_decide_eq_true (List.all_eq_true.mp (show (x.cps.toList.all fun c => decide (c < 16 ^ 8)) = true by simpa [okT] using h) c hc)
  | .tup xs, h => by
    unfold toPz
    obtain ⟨h1, h2⟩ := shown_les xs (by simpa [okT] using h)
    refine ⟨?_, by simpa [PyData.showable] using h2⟩
    simp only [PyData.shown, wl]
    have := tupleText_len (PyData.shownAll (toPzs xs))
    omega
  | .lst xs, h => by
    unfold toPz
    obtain ⟨h1, h2⟩ := shown_les xs (by simpa [okT] using h)
    refine ⟨?_, by simpa [PyData.showable] using h2⟩
    simp only [PyData.shown, wl]
    have := listText_len (PyData.shownAll (toPzs xs))
    omega
  | .dct xs, h => by
    unfold toPz
    obtain ⟨h1, h2⟩ := shown_lek xs (by simpa [okT] using h)
    refine ⟨?_, by simpa [PyData.showable] using h2⟩
    simp only [PyData.shown, wl]
    have := dictText_len (PyData.shownKv (toPzk xs))
    omega
  | .obj _ _, _ => by unfold toPz; exact ⟨by simp only [wl]; decide, rfl⟩
  | .src, _ => by unfold toPz; exact ⟨by simp only [wl]; decide, rfl⟩
theorem shown_les : ∀ (xs : List D), okTs xs = true → piled (PyData.shownAll (toPzs xs)) ≤ wls xs ∧ PyData.showableAll (toPzs xs) = true
  | [], _ => by unfold toPzs; exact ⟨by simp [PyData.shownAll, piled], rfl⟩
  | x :: xs, h => by
    obtain ⟨h1, h2⟩ := Bool.and_eq_true_iff.mp (show (okT x && okTs xs) = true by simpa [okTs] using h)
    obtain ⟨a1, a2⟩ := shown_le x h1
    obtain ⟨b1, b2⟩ := shown_les xs h2
    unfold toPzs
    simp only [PyData.shownAll, piled_cons, wls, PyData.showableAll, a2, b2, Bool.and_self, and_true]
    omega
theorem shown_lek : ∀ (xs : List (D × D)), okTk xs = true → piled (PyData.shownKv (toPzk xs)) ≤ wlk xs ∧ PyData.showableKv (toPzk xs) = true
  | [], _ => by unfold toPzk; exact ⟨by simp [PyData.shownKv, piled], rfl⟩
  | (k, v) :: xs, h => by
    obtain ⟨h0, h2⟩ := Bool.and_eq_true_iff.mp (show (okT k && okT v && okTk xs) = true by simpa [okTk] using h)
    obtain ⟨h1, h3⟩ := Bool.and_eq_true_iff.mp h0
    obtain ⟨a1, a2⟩ := shown_le k h1
    obtain ⟨c1, c2⟩ := shown_le v h3
    obtain ⟨b1, b2⟩ := shown_lek xs h2
    unfold toPzk
    simp only [PyData.shownKv, piled_cons, wlk, PyData.showableKv, a2, b2, c2, Bool.and_self, and_true, strLen_append, show ((": " : String) : Str).length = 2 from rfl]
    omega
end
theorem reprM_ok {d : D} (h1 : okR 60 d = true) (h2 : okT d = true) (h3 : wl d ≤ line) : reprM d = .ret (.str (toPz d).shown) := by
  obtain ⟨a, b⟩ := shown_le d h2
  exact if_pos ⟨h1, b, Nat.le_trans a h3⟩
end PD

set_option Elab.async false
set_option linter.all false
set_option maxRecDepth 100000
set_option maxHeartbeats 4000000
/-! PDRun: what the combinators do, as rules for simp. -/
namespace PD
open PySem
section
variable {α : Type} {e : Env} {f g k l : Env → M D} {fs : Env → M (List D)} {t u : Env → M Bool} {i : Nat}
@[simp] theorem x_getV0 (d : D) (e : Env) : getV (.v d :: e) 0 = .ret d := rfl
@[simp] theorem x_getVS (s : Slot) (e : Env) (i : Nat) : getV (s :: e) (i + 1) = getV e i := by unfold getV; rw [List.getElem?_cons_succ]
@[simp] theorem x_getR0 (d : D) (e : Env) : getR (.v d :: e) 0 = .ret d := rfl
@[simp] theorem x_getR0o (d : D) (e : Env) : getR (.own d :: e) 0 = .ret d := rfl
@[simp] theorem x_getR0b (d : D) (e : Env) : getR (.bor d :: e) 0 = .ret d := rfl
@[simp] theorem x_getRS (s : Slot) (e : Env) (i : Nat) : getR (s :: e) (i + 1) = getR e i := by unfold getR; rw [List.getElem?_cons_succ]
@[simp] theorem x_getS0 (d : D) (e : Env) : getS (.v d :: e) 0 = .ret d := rfl
@[simp] theorem x_getS0b (d : D) (e : Env) : getS (.bor d :: e) 0 = .ret d := rfl
@[simp] theorem x_getSS (s : Slot) (e : Env) (i : Nat) : getS (s :: e) (i + 1) = getS e i := by unfold getS; rw [List.getElem?_cons_succ]
@[simp] theorem x_eV : eV i e = getV e i := rfl
@[simp] theorem x_eR : eR i e = getR e i := rfl
@[simp] theorem x_eS : eS i e = getS e i := rfl
@[simp] theorem x_eC (d : D) : eC d e = .ret d := rfl
@[simp] theorem x_e1 (o : D → M D) : e1 o f e = f e >>= o := rfl
@[simp] theorem x_e2 (o : D → D → M D) : e2 o f g e = f e >>= fun x => g e >>= fun y => o x y := rfl
@[simp] theorem x_chain (o o' : D → D → M D) : eChain o o' f g k e = f e >>= fun x => g e >>= fun y => o x y >>= boolM >>= fun b => if b = true then k e >>= fun z => o' y z else .ret (.bl false) := rfl
@[simp] theorem x_chain3 (o o' o'' : D → D → M D) : eChain3 o o' o'' f g k l e = f e >>= fun x => g e >>= fun y => o x y >>= boolM >>= fun b => if b = true then k e >>= fun z => o' y z >>= boolM >>= fun b' => if b' = true then l e >>= fun w => o'' z w else .ret (.bl false) else .ret (.bl false) := rfl
@[simp] theorem x_test : eTest f e = f e >>= boolM := rfl
@[simp] theorem x_truth : eTruth f e = f e >>= truthM := rfl
@[simp] theorem x_and : eAnd t u e = t e >>= fun b => if b = true then u e else .ret false := rfl
@[simp] theorem x_or : eOr t u e = t e >>= fun b => if b = true then .ret true else u e := rfl
@[simp] theorem x_not : eNot t e = t e >>= fun b => .ret (!b) := rfl
@[simp] theorem x_andV : eAndV f g e = f e >>= boolM >>= fun b => if b = true then g e else .ret (.bl false) := rfl
@[simp] theorem x_orV : eOrV f g e = f e >>= boolM >>= fun b => if b = true then .ret (.bl true) else g e := rfl
@[simp] theorem x_notV : eNotV f e = f e >>= boolM >>= fun b => .ret (.bl (!b)) := rfl
@[simp] theorem x_if : eIf t f g e = t e >>= fun b => if b = true then f e else g e := rfl
@[simp] theorem x_nil : eNil e = .ret [] := rfl
@[simp] theorem x_cons : eCons f fs e = f e >>= fun x => fs e >>= fun xs => .ret (x :: xs) := rfl
@[simp] theorem x_tup : eTup fs e = fs e >>= fun xs => if xs.length ≤ line then .ret (.tup xs) else .bad := rfl
@[simp] theorem x_lst : eLst fs e = fs e >>= fun xs => if xs.length ≤ line then .ret (.lst xs) else .bad := rfl
@[simp] theorem x_call (F : List D → M D) : eCall F fs e = fs e >>= F := rfl
@[simp] theorem x_icall (F : List D → M (List D)) (fi : Env → M (List D)) : iCall F fi e = fi e >>= F := rfl
@[simp] theorem x_iseq : iSeq f e = f e >>= itemsM := rfl
@[simp] theorem x_arg1 (o : D → M D) (d : D) : arg1 o [d] = o d := rfl
@[simp] theorem x_arg2 (o : D → D → M D) (d d' : D) : arg2 o [d, d'] = o d d' := rfl
@[simp] theorem x_yes : eYes e = .ret true := rfl
@[simp] theorem x_nopart : eNoPart e = .ret none := rfl
@[simp] theorem x_part : ePart f e = f e >>= partM := rfl
@[simp] theorem x_partI (i : Int) : partM (.int i) = .ret (some i) := rfl
@[simp] theorem x_sl (o : Option Int → Option Int → D → M D) (lo hi : Env → M (Option Int)) : eSl o f lo hi e = f e >>= fun x => lo e >>= fun l => hi e >>= fun h => o l h x := rfl
@[simp] theorem x_slL (lo hi : Option Int) (xs : List D) : slM lo hi (.lst xs) = .ret (.lst (cutL xs lo hi)) := rfl
@[simp] theorem x_slT (lo hi : Option Int) (xs : List D) : slM lo hi (.tup xs) = .ret (.tup (cutL xs lo hi)) := rfl
@[simp] theorem x_slO (lo hi : Option Int) (xs : List D) : slLM lo hi (.lst xs) = .ret (.lst (cutL xs lo hi)) := rfl
/-! operations -/
@[simp] theorem x_bool (b : Bool) : boolM (.bl b) = .ret b := rfl
@[simp] theorem x_add (i j : Int) : addM (.int i) (.int j) = .ret (.int (i + j)) := rfl
@[simp] theorem x_addL (xs ys : List D) : addM (.lst xs) (.lst ys) = if xs.length + ys.length ≤ line then .ret (.lst (xs ++ ys)) else .bad := rfl
@[simp] theorem x_addT (xs ys : List D) : addM (.tup xs) (.tup ys) = if xs.length + ys.length ≤ line then .ret (.tup (xs ++ ys)) else .bad := rfl
@[simp] theorem x_sub (i j : Int) : subM (.int i) (.int j) = .ret (.int (i - j)) := rfl
@[simp] theorem x_mul (i j : Int) : mulM (.int i) (.int j) = if i.natAbs.log2 + j.natAbs.log2 < 1000000 then .ret (.int (i * j)) else .bad := rfl
@[simp] theorem x_mod (i j : Int) : modM (.int i) (.int j) = if 0 < j then .ret (.int (i % j)) else .bad := rfl
@[simp] theorem x_fdiv (i j : Int) : fdivM (.int i) (.int j) = if 0 < j ∧ j.natAbs.log2 < 9000 then .ret (.int (i / j)) else .bad := rfl
@[simp] theorem x_cmp (p : Int → Int → Bool) (i j : Int) : cmpM p (.int i) (.int j) = .ret (.bl (p i j)) := rfl
@[simp] theorem x_lenL (xs : List D) : lenM (.lst xs) = .ret (.int xs.length) := rfl
@[simp] theorem x_lenT (xs : List D) : lenM (.tup xs) = .ret (.int xs.length) := rfl
@[simp] theorem x_itL (xs : List D) : itemsM (.lst xs) = .ret xs := rfl
@[simp] theorem x_itT (xs : List D) : itemsM (.tup xs) = .ret xs := rfl
@[simp] theorem x_enL (xs : List D) : enumM [.lst xs] = .ret (enumL 0 xs) := rfl
@[simp] theorem x_enT (xs : List D) : enumM [.tup xs] = .ret (enumL 0 xs) := rfl
@[simp] theorem x_listL (xs : List D) : listM (.lst xs) = .ret (.lst xs) := rfl
@[simp] theorem x_listT (xs : List D) : listM (.tup xs) = .ret (.lst xs) := rfl
@[simp] theorem x_tupL (xs : List D) : tupleM (.lst xs) = .ret (.tup xs) := rfl
@[simp] theorem x_tupT (xs : List D) : tupleM (.tup xs) = .ret (.tup xs) := rfl
@[simp] theorem x_int (i : Int) : intM (.int i) = .ret (.int i) := rfl
@[simp] theorem x_isN : isNoneM .non = .ret (.bl true) := rfl
@[simp] theorem x_nn : notNoneM .non = .ret (.bl false) := rfl
theorem x_isN0 {d : D} (h : d ≠ .non) : isNoneM d = .ret (.bl false) := by cases d <;> first | rfl | exact absurd rfl h
theorem x_nn0 {d : D} (h : d ≠ .non) : notNoneM d = .ret (.bl true) := by cases d <;> first | rfl | exact absurd rfl h
@[simp] theorem x_isNtup (xs : List D) : isNoneM (.tup xs) = .ret (.bl false) := rfl
@[simp] theorem x_nntup (xs : List D) : notNoneM (.tup xs) = .ret (.bl true) := rfl
/-! statements -/
variable {s s' : Env → M (Fl × Env)} {fi : Env → M (List D)} {tg : D → Env → Option Env}
@[simp] theorem x_skip : sSkip e = .ret (.nx, e) := rfl
@[simp] theorem x_brk : sBrk e = .ret (.brk, e) := rfl
@[simp] theorem x_cnt : sCnt e = .ret (.cnt, e) := rfl
@[simp] theorem x_seq : sSeq s s' e = s e >>= fun r => match r with | (.nx, e') => s' e' | r => .ret r := rfl
@[simp] theorem x_expr : sExpr f e = tryB (f e) e fun _ => .ret (.nx, e) := rfl
@[simp] theorem x_ret : sRet f e = tryB (f e) e fun d => .ret (.rt d, e) := rfl
@[simp] theorem x_retN : sRetN e = .ret (.rt .non, e) := rfl
@[simp] theorem x_sif : sIf t s s' e = tryB (t e) e fun c => if c = true then s e else s' e := rfl
@[simp] theorem x_set : sSet i f e = tryB (f e) e fun d => .ret (.nx, e.set i (.v d)) := rfl
@[simp] theorem x_setO : sSetO i f e = tryB (f e) e fun d => .ret (.nx, e.set i (.own d)) := rfl
@[simp] theorem x_asg : sAsg tg f e = tryB (f e) e fun d => match tg d e with | some e' => .ret (.nx, e') | none => .bad := rfl
@[simp] theorem x_frz : sFrz i s e = s (frz i e) := rfl
@[simp] theorem x_for : sFor fi tg s e = tryB (fi e) e fun ds => loopM tg s ds e := rfl
@[simp] theorem x_raise (c : Nat) : sRaise c f e = tryB (f e) e fun d => .ret (.exc c d, e) := rfl
@[simp] theorem x_raise0 (c : Nat) : sRaise0 c e = .ret (.exc c .non, e) := rfl
@[simp] theorem x_tgN (i : Nat) (d : D) : tgN i d e = some (e.set i (.v d)) := rfl
@[simp] theorem x_tgT (ts : List (D → Env → Option Env)) (ds : List D) : tgT ts (.tup ds) e = tgL ts ds e := rfl
@[simp] theorem x_tgL0 : tgL [] [] e = some e := rfl
@[simp] theorem x_tgLS (t : D → Env → Option Env) (ts : List (D → Env → Option Env)) (d : D) (ds : List D) : tgL (t :: ts) (d :: ds) e = (t d e).bind (tgL ts ds) := rfl
@[simp] theorem x_loop0 : loopM tg s [] e = .ret (.nx, e) := rfl
@[simp] theorem x_runR (r : Fl × Env) : runM (.ret r) = (match r with | (.nx, _) => .ret .non | (.rt d, _) => .ret d | (.rtF d, _) => .ret d | (.exc c d, _) => .raise c d | _ => .bad : M D) := by
  obtain ⟨fl, e⟩ := r
  cases fl <;> rfl
@[simp] theorem x_comp0 (ft : Env → M Bool) (fe : Env → M D) : compM tg ft fe e [] = .ret [] := rfl
@[simp] theorem x_compS (ft : Env → M Bool) (fe : Env → M D) (d : D) (ds : List D) : compM tg ft fe e (d :: ds) = (match tg d e with | none => .bad | some e' => ft e' >>= fun b => if b = true then fe e' >>= fun y => compM tg ft fe e ds >>= fun ys => .ret (y :: ys) else compM tg ft fe e ds) := rfl
@[simp] theorem x_wipe0 : wipeE e [] = e := rfl
@[simp] theorem x_wipeS (i : Nat) (r : List Nat) : wipeE e (i :: r) = (wipeE e r).set i .no := rfl
@[simp] theorem x_ecomp (vs : List Nat) (ft : Env → M Bool) (fe : Env → M D) : eComp vs fi tg ft fe e = fi e >>= fun ds => if ds.length ≤ line ∧ (vs.any fun i => (e[i]?).any isOwn) = false then noR (compM tg ft fe (borE (wipeE e vs)) ds) >>= fun ys => .ret (.lst ys) else .bad := rfl
end
@[simp] theorem x_l0 : (0 ≤ line) = True := eq_true (by decide)
@[simp] theorem x_l1 : (1 ≤ line) = True := eq_true (by decide)
@[simp] theorem x_l2 : (2 ≤ line) = True := eq_true (by decide)
@[simp] theorem x_l3 : (3 ≤ line) = True := eq_true (by decide)
@[simp] theorem x_l4 : (4 ≤ line) = True := eq_true (by decide)
@[simp] theorem x_l5 : (5 ≤ line) = True := eq_true (by decide)
@[simp] theorem x_l6 : (6 ≤ line) = True := eq_true (by decide)
@[simp] theorem x_l7 : (7 ≤ line) = True := eq_true (by decide)
@[simp] theorem x_l8 : (8 ≤ line) = True := eq_true (by decide)
@[simp] theorem x_l9 : (9 ≤ line) = True := eq_true (by decide)
@[simp] theorem x_l10 : (10 ≤ line) = True := eq_true (by decide)
@[simp] theorem x_l11 : (11 ≤ line) = True := eq_true (by decide)
@[simp] theorem x_l12 : (12 ≤ line) = True := eq_true (by decide)
@[simp] theorem x_l13 : (13 ≤ line) = True := eq_true (by decide)
@[simp] theorem x_l14 : (14 ≤ line) = True := eq_true (by decide)
@[simp] theorem x_l15 : (15 ≤ line) = True := eq_true (by decide)
@[simp] theorem x_l16 : (16 ≤ line) = True := eq_true (by decide)
@[simp] theorem x_l17 : (17 ≤ line) = True := eq_true (by decide)
@[simp] theorem x_l18 : (18 ≤ line) = True := eq_true (by decide)
@[simp] theorem x_l19 : (19 ≤ line) = True := eq_true (by decide)
@[simp] theorem x_l20 : (20 ≤ line) = True := eq_true (by decide)
@[simp] theorem x_l21 : (21 ≤ line) = True := eq_true (by decide)
@[simp] theorem x_l22 : (22 ≤ line) = True := eq_true (by decide)
@[simp] theorem x_l23 : (23 ≤ line) = True := eq_true (by decide)
@[simp] theorem x_l24 : (24 ≤ line) = True := eq_true (by decide)
@[simp] theorem x_l25 : (25 ≤ line) = True := eq_true (by decide)
@[simp] theorem x_l26 : (26 ≤ line) = True := eq_true (by decide)
@[simp] theorem x_l27 : (27 ≤ line) = True := eq_true (by decide)
@[simp] theorem x_l28 : (28 ≤ line) = True := eq_true (by decide)
@[simp] theorem x_l29 : (29 ≤ line) = True := eq_true (by decide)
@[simp] theorem x_l30 : (30 ≤ line) = True := eq_true (by decide)
@[simp] theorem x_eqII (i j : Int) : eqM (.int i) (.int j) = .ret (.bl (i == j)) := by simp [eqM, okD, eqD]
@[simp] theorem x_neII (i j : Int) : neM (.int i) (.int j) = .ret (.bl (!(i == j))) := by simp [neM, okD, eqD]
@[simp] theorem x_eqSS (i j : Str) : eqM (.str i) (.str j) = .ret (.bl (i == j)) := by simp [eqM, bothS, eqD]
@[simp] theorem x_neSS (i j : Str) : neM (.str i) (.str j) = .ret (.bl (!(i == j))) := by simp [neM, bothS, eqD]
theorem x_tuple {xs : List D} (h : xs.length ≤ line) : (if xs.length ≤ line then (M.ret (.tup xs) : M D) else .bad) = .ret (.tup xs) := if_pos h
theorem rng1_ok {n : Nat} (h : n ≤ line) : rng1M [.int (n : Nat)] = .ret ((List.range' 0 n).map fun (j : Nat) => D.int j) := by
  have h : n ≤ 16777216 := h
  have e : rng1M [.int (n : Nat)] = .ret (rngM 0 (n : Nat)) := by
    unfold rng1M
    exact if_pos (by omega)
  rw [e, rng_nat]
theorem x_run {n : Nat} {s : Env → M (Fl × Env)} {args : List Slot} : run n s args = runM (s (args ++ List.replicate (n - args.length) .no)) := rfl
@[simp] theorem isOwn_v (d : D) : isOwn (.v d) = false := rfl
@[simp] theorem isOwn_no : isOwn .no = false := rfl
@[simp] theorem isOwn_bor (d : D) : isOwn (.bor d) = false := rfl
@[simp] theorem isOwn_own (d : D) : isOwn (.own d) = true := rfl
@[simp] theorem borS_v (d : D) : borS (.v d) = .v d := rfl
@[simp] theorem borS_no : borS .no = .no := rfl
@[simp] theorem borS_bor (d : D) : borS (.bor d) = .bor d := rfl
@[simp] theorem borS_own (d : D) : borS (.own d) = .bor d := rfl
end PD

set_option Elab.async false
set_option linter.all false
set_option maxRecDepth 100000
set_option maxHeartbeats 4000000
/-! PDMeth: methods of own objects, by the object's class. -/
namespace PD
open PySem PySem.Spec L2 PDL
/-- a class's method keeps a promise -/
structure MethOk (P : Program) (w : World) (K : PySem.W.Frag) (mg : Str → Option Value) (base : Heap) (m : Str) (ps : List Str) (k : Nat) (C : Addr) (sp : Sp) : Prop where
  ex : ∃ f fd, FnG P w K mg base (L2.CX P w) k f fd ps sp ∧ Cls K C ∧ Meth K C m f ∧ L2.Binds K fd ps []
/-- o.m: by o's class -/
def clsM (cs : List Nat) (m : Str) : D → M Nat
  | .obj c fl => if cs.contains c && (fl.lookup m).isNone then .ret c else .bad
  | _ => .bad
def eMeth (cs : List Nat) (m : Str) (F : Nat → List D → M D) (f : Env → M D) (fs : Env → M (List D)) : Env → M D := fun e => f e >>= fun o => clsM cs m o >>= fun c => fs e >>= fun ds => F c (o :: ds)
theorem clsM_in {α : Type} {cs : List Nat} {m : Str} {G : Nat → M α} {o : D} {n : Nat} {P : Nat → α → Prop} {E : Nat → Nat → D → Prop} (q : AllB (clsM cs m o >>= G) n P E) : ∃ c fl, o = .obj c fl ∧ c ∈ cs ∧ fl.lookup m = none ∧ AllB (G c) n P E := by
  cases o <;> first | exact False.elim q | skip
  rename_i c fl
  have q : AllB ((if cs.contains c && (fl.lookup m).isNone then M.ret c else .bad) >>= G) n P E := q
  by_cases h : (cs.contains c && (fl.lookup m).isNone) = true
  · rw [if_pos h] at q
    obtain ⟨h1, h2⟩ := Bool.and_eq_true_iff.mp h
    exact ⟨c, fl, rfl, cs_mem h1, by simpa using h2, q⟩
  · rw [if_neg h] at q
    exact False.elim q
theorem lookup_none {W : Wd} {I : Hp} {f : Str} : ∀ {vs : List (Str × V)} {ds : List (Str × D)}, RepF W I vs ds → ds.lookup f = none → vs.lookup f = none
  | _, _, .nil, _ => rfl
  | (k, v) :: vs, (_, d') :: ds, .cons a b, h => by
    rw [List.lookup_cons] at h ⊢
    split at h
    · cases h
    · exact lookup_none b h
section
variable {C : Ctx} {ex : Ex} {X : Cx} {o e : Expr} {es : List Expr} {f : Env → M D} {fs : Env → M (List D)} {pos apos : Pos} {ms : List Md} {W : Wd} {F : Nat → List D → M D} {k : Nat} {ps : List Str} {m : Str} {cs : List Nat}
def tMethT (W : Wd) (cs : List Nat) (m : Str) (sp : Nat → Sp) (E : L2.St → XK) (ta : TE) (t : TA) : TE := fun σ H Q => ta σ H fun x H1 => ∃ c a dx fs, c ∈ cs ∧ x = .ref a ∧ H1 a = some (.ins (W.cls c) dx fs) ∧ fs.lookup m = none ∧ t σ H1 fun vs H2 => sp c (x :: vs) H2 Q (E σ)
theorem pe_methT {sp : Nat → Sp} {E : L2.St → XK} {ta : TE} {t : TA} {pl : Sem Bool} (D0 : ∀ c ∈ cs, MethOk X.prog X.w X.K X.mg X.base m ps k (W.cls c) (sp c)) (hgd : X.A.guards = some []) (hr : Room k X.A) (hx : ∀ σ, PassesAt (L2.CX X.prog X.w) X σ (E σ)) (he : PE X o ta) (ha : PA X (e :: es) t)
    (hst : starEach (e :: es) X.env = (false, eval e X.env) :: starEach es X.env := by rfl) (hpl : (backTo pos (starEach es X.env)).any (·.1) = false := by rfl)
    (ht : eval (.Call (.Attribute o m apos) (e :: es) [] pos) X.env = (do
      let v0 ← eval o X.env
      standAt apos.atName
      let (g, first) ← holding [v0] (getMethod v0 m pl)
      callWith pos g first (backTo pos (starEach (e :: es) X.env)) (backToKw pos (keywordEach [] X.env))) := by rfl) : PE X (.Call (.Attribute o m apos) (e :: es) [] pos) (tMethT W cs m sp E ta t) := by
  refine ⟨fun pins s σ H Q Iv h => ?_⟩
  refine PySem.W.methodCall_KW (pl := pl) (thn (he.run pins s σ H _ Iv h) fun u s1 ⟨x, H1, I1, rx, c, a, dx, fl, hc, ex, ea, l, q⟩ => ?_) ht
  subst ex
  obtain rfl : u = Value.ref a := rx
  obtain ⟨g, fd, G, T, hm, hb⟩ := (D0 c hc).ex
  refine getmeth_ok I1 ea T hm l ?_
  refine PySem.W.callWith_K (first := [.ref a]) (h₀ := X.base) Iv.ok.mod.kin hm.kp (thn (ha.run pos pins s1 σ H1 _ I1 q) fun us s2 ⟨vs, H2, I2, r, q2⟩ => ⟨I2.kIn, ?_⟩) hst hpl
  exact run_fnG (dvs := []) (us := .ref a :: us) (vs := .ref a :: vs) G hgd hr hb .nil (hx σ) I2 (.cons rfl r) (by rw [List.append_nil]; exact q2)
theorem pe_methT0 {sp : Nat → Sp} {E : L2.St → XK} {ta : TE} {pl : Sem Bool} (D0 : ∀ c ∈ cs, MethOk X.prog X.w X.K X.mg X.base m ps k (W.cls c) (sp c)) (hgd : X.A.guards = some []) (hr : Room k X.A) (hx : ∀ σ, PassesAt (L2.CX X.prog X.w) X σ (E σ)) (he : PE X o ta)
    (ht : eval (.Call (.Attribute o m apos) [] [] pos) X.env = (do
      let v0 ← eval o X.env
      standAt apos.atName
      let (g, first) ← holding [v0] (getMethod v0 m pl)
      callWith pos g first (backTo pos (starEach [] X.env)) (backToKw pos (keywordEach [] X.env))) := by rfl) : PE X (.Call (.Attribute o m apos) [] [] pos) (tMethT W cs m sp E ta tNil) := by
  refine ⟨fun pins s σ H Q Iv h => ?_⟩
  refine PySem.W.methodCall_KW (pl := pl) (thn (he.run pins s σ H _ Iv h) fun u s1 ⟨x, H1, I1, rx, c, a, dx, fl, hc, ex, ea, l, q⟩ => ?_) ht
  subst ex
  obtain rfl : u = Value.ref a := rx
  obtain ⟨g, fd, G, T, hm, hb⟩ := (D0 c hc).ex
  refine getmeth_ok I1 ea T hm l ?_
  exact PySem.W.callWith_K0 (first := [.ref a]) I1.kIn hm.kp (run_fnG (dvs := []) (us := [.ref a]) (vs := [.ref a]) G hgd hr hb .nil (hx σ) I1 (.cons rfl .nil) q)
theorem meth_in {σ : L2.St} {H : Hp} {Q : VK} (hms : (ms.all fun m => decide (m = .val ∨ m = .rd)) = true) (hX : ∀ c ∈ cs, C.W.isX c = false) (q : tM .val C ex (eMeth cs m F f fs) σ H Q) : tMethT C.W cs m (fun c => SpD C.W (.val :: ms) (F c)) (WE (wxOf C ex)) (tM .val C ex f) (tA ms C ex fs) σ H Q := by
  obtain ⟨n, env, ad, I, S, q⟩ := q
  have q : AllB (f env >>= fun o => clsM cs m o >>= fun c => fs env >>= fun ds => F c (o :: ds)) n (Po .val C env ad σ I H Q) (Pe C ex env ad σ I H) := q
  rw [allB_bind] at q
  refine ⟨n, env, ad, I, S, q.mono (fun n1 d q1 => ?_) fun _ _ _ k => k⟩
  intro v I1 H1 s1 i1 x1 r1
  obtain ⟨c, fl, rfl, hc, hl, q2⟩ := clsM_in q1
  obtain ⟨a, rfl, ⟨_, dx, vs, h, r⟩ | ⟨hx', _⟩⟩ := r1.obj s1
  · refine ⟨c, a, dx, vs, hc, rfl, h, lookup_none r hl, n1, env, ad, I1, s1, ?_⟩
    rw [allB_bind] at q2
    refine q2.mono (fun n2 ds q3 => ?_) (fun _ _ _ k => k.mono i1 x1)
    intro ws I2 H2 s2 i2 x2 r2
    exact call_in (F := F c) (ms := .val :: ms) (ds := .obj c fl :: ds) (by rw [List.all_cons, hms]; rfl) s2 ⟨by decide, (RepM.later (by decide) r1 i2 x2).any (by decide), r2⟩ (q3.mono (fun _ _ k => (k.mono i1 x1).mono i2 x2) fun _ _ _ k => (k.mono i1 x1).mono i2 x2)
  · rw [hX c hc] at hx'
    cases hx'
theorem pm_methD {pl : Sem Bool} (D0 : ∀ c ∈ cs, MethOk X.prog X.w X.K X.mg X.base m ps k (W.cls c) (SpD W (.val :: ms) (F c))) (hW : C.W = W) (hX : ∀ c ∈ cs, W.isX c = false) (tk : Takes X (wxOf C ex)) (hgd : X.A.guards = some []) (hr : Room k X.A) (he : PM .val C ex X o f) (ha : PMA ms C ex X (e :: es) fs) (hms : (ms.all fun m => decide (m = .val ∨ m = .rd)) = true := by rfl)
    (hst : starEach (e :: es) X.env = (false, eval e X.env) :: starEach es X.env := by rfl) (hpl : (backTo pos (starEach es X.env)).any (·.1) = false := by rfl)
    (ht : eval (.Call (.Attribute o m apos) (e :: es) [] pos) X.env = (do
      let v0 ← eval o X.env
      standAt apos.atName
      let (g, first) ← holding [v0] (getMethod v0 m pl)
      callWith pos g first (backTo pos (starEach (e :: es) X.env)) (backToKw pos (keywordEach [] X.env))) := by rfl) : PM .val C ex X (.Call (.Attribute o m apos) (e :: es) [] pos) (eMeth cs m F f fs) := by
  subst hW
  exact PE_imp (pe_methT D0 hgd hr (fun σ => passAt tk σ) he ha hst hpl ht) fun σ H Q q => meth_in hms hX q
theorem pm_methD0 {pl : Sem Bool} (D0 : ∀ c ∈ cs, MethOk X.prog X.w X.K X.mg X.base m ps k (W.cls c) (SpD W [.val] (F c))) (hW : C.W = W) (hX : ∀ c ∈ cs, W.isX c = false) (tk : Takes X (wxOf C ex)) (hgd : X.A.guards = some []) (hr : Room k X.A) (he : PM .val C ex X o f)
    (ht : eval (.Call (.Attribute o m apos) [] [] pos) X.env = (do
      let v0 ← eval o X.env
      standAt apos.atName
      let (g, first) ← holding [v0] (getMethod v0 m pl)
      callWith pos g first (backTo pos (starEach [] X.env)) (backToKw pos (keywordEach [] X.env))) := by rfl) : PM .val C ex X (.Call (.Attribute o m apos) [] [] pos) (eMeth cs m F f eNil) := by
  subst hW
  refine PE_imp (pe_methT0 D0 hgd hr (fun σ => passAt tk σ) he ht) fun σ H Q q => ?_
  have z := meth_in (ms := []) (fs := eNil) rfl hX q
  obtain ⟨n, env, ad, I, S, z⟩ := z
  refine ⟨n, env, ad, I, S, z.mono (fun n1 d q1 => fun v I1 H1 s1 i1 x1 r1 => ?_) fun _ _ _ k => k⟩
  obtain ⟨c, a, dx, vs, hc, e1, h, hl, n2, env2, ad2, I2, S2, q2⟩ := q1 v I1 H1 s1 i1 x1 r1
  exact ⟨c, a, dx, vs, hc, e1, h, hl, (show PoA [] _ _ _ _ _ _ _ n2 [] from q2) [] I2 H1 S2 (Sub.refl _) (SameX.refl _) trivial⟩
end
end PD

set_option Elab.async false
set_option linter.all false
set_option maxRecDepth 100000
set_option maxHeartbeats 4000000
/-! PDOwn: ==, != and + of own objects. -/
namespace PDL
open PySem PySem.Spec PyProof.Rows L2 PySem.W
section
variable {prog : Program} {w : World} {A : Around} {E : Value → Shared → Prop} {s : Shared} {K : PySem.W.Frag} {x C L f : Addr} {h₀ : Heap} {m : Str → Option Value} {ox : Obj} {od : Option Obj} {b tb : Value}
/-- object.__ne__ is bound -/
theorem special_ne {M : Model} {args : List Value} {Q : Option Value → Shared → Prop} (X : K.In s.heap) (J : PySem.W.InstAt s.heap x ox C od) (hs : PySem.W.findIn K (.ref C) "__ne__" = some (some (.builtin "object.__ne__")))
    (h : wpAny M A (call (.builtin "object.__ne__") (.ref x :: args)) (fun v => Q (some v)) E s) : wpAny M A (callSpecialIfBound? (.ref x) "__ne__" args) Q E s := by
  unfold callSpecialIfBound? bindSpecialIfBound?
  refine wpAny_holding (wpAny_bind (wpAny_bind (wpAny_bind (J.type.here ((PySem.W.looks_findIn X hs).here ?_)))))
  refine wpAny_bind (wpAny_askSetting (wpAny_ite ?_))
  have done : wpAny M A (call (.builtin "object.__ne__") ([.ref x] ++ args) >>= fun v => pure (some v)) Q E s := wpAny_bind (wpAny_mono h (fun _ _ z => wpAny_pure z) fun _ _ z => z)
  split
  · exact wpAny_bind (wpAny_of_eq (PySem.F.cmp_object.ne.bind _) (wpAny_pure (by exact done)))
  · exact wpAny_tryCatch (wpAny_bind (wpAny_of_eq (PySem.F.cmp_object.ne.bind _) (wpAny_pure (by exact done))))
/-- x != b, x's class with its own == and object's != -/
theorem ne_K {Q : Value → Shared → Prop} (hu : A.units + 1 < cLine) (F : Fr h₀ L s.heap m) (X₀ : K.In h₀) (J : PySem.W.InstAt s.heap x ox C od) (hb : Looks (model prog w) s.heap (typeOf b) tb) (hn : PySem.W.notFirst K C tb = true)
    (hs : PySem.W.findIn K (.ref C) "__eq__" = some (some (.ref f))) (hf : PySem.W.isFn K (.ref f) = true) (hne : PySem.W.findIn K (.ref C) "__ne__" = some (some (.builtin "object.__ne__"))) (hm : PySem.W.mroIn K C (.type "object") = some true)
    (h : wpAny (model prog w) A.in1 (call (.ref f) [.ref x, b]) (fun v s' => ∃ r, v = .bool r ∧ Q (.bool (!r)) s') E s) : wpAny (model prog w) A (richCompare .NotEq (.ref x) b) Q E s := by
  have X := X₀.keeps F.keep
  have one : wpAny (model prog w) A (tryCompare (.ref x) "__ne__" b) (fun r s' => ∃ v, r = some v ∧ Q v s') E s := by
    unfold tryCompare
    refine wpAny_bind (special_ne X J hne (wpAny_call (codeAny_call_builtin PySem.F.cmp_object.ne.plain PySem.F.cmpEntry_ne (PySem.W.check_slot PySem.F.cmpKind_ne PySem.F.cmpSplit_ne (J.type.andThen (PySem.W.looks_mroIn X hm)) (PySem.F.cmpArgs_ne _ _) ?_))))
    unfold Builtin.«object.__ne__»
    repeat (first
      | with_reducible refine wpAny_cRoomFor (show A.in1.units < cLine from hu) ?_
      | (refine wpAny_bind (m := callSpecialIfBound? (.ref x) (Str.ofString "__eq__") [b]) (PySem.W.ifBound_K X J hs hf (wpAny_mono h (fun r s' hr => by
          obtain ⟨z, rfl, hq⟩ := hr
          repeat (first | exact ⟨_, rfl, hq⟩ | exact wpAny_pure ⟨_, rfl, hq⟩ | exact wpAny_truthy_bool hq | (refine wpAny_bind (m := truthy (.bool _)) (wpAny_truthy_bool ?_)) | wp_step)) fun _ _ e => e)))
      | wp_step)
  unfold richCompare
  simp only [oneThing_ref]
  refine wpAny_holding (wpAny_bind (wpAny_cRoomFor (Nat.lt_of_succ_lt hu) ?_))
  refine wpAny_bind (J.type.here (wpAny_bind (hb.here ?_)))
  have fin : wpAny (model prog w) A (tryCompare (.ref x) (cmpInfo .NotEq).2.1 b) (fun r s' => ∃ v, r = some v ∧ Q v s') E s := one
  split
  · rename_i q
    have e : PySem.W.subIn K tb (.ref C) = some false := by
      rcases Bool.or_eq_true_iff.mp hn with e | e
      · rw [beq_iff_eq.mp e] at q; simp at q
      · exact beq_iff_eq.mp e
    refine wpAny_bind ((PySem.W.looks_subIn X e).here ?_)
    simp only [Bool.false_eq_true, if_false]
    refine wpAny_bind (wpAny_mono fin (fun r s' z => ?_) fun _ _ e => e)
    obtain ⟨v, rfl, hq⟩ := z
    exact wpAny_pure hq
  · refine wpAny_bind (wpAny_pure ?_)
    simp only [Bool.false_eq_true, if_false]
    refine wpAny_bind (wpAny_mono fin (fun r s' z => ?_) fun _ _ e => e)
    obtain ⟨v, rfl, hq⟩ := z
    exact wpAny_pure hq
end
section
variable {X : Cx} {pins : List (Addr × Obj)} {σ : L2.St} {H : Hp} {s : Shared} {Q : VK} {vs : List V} {us : List Value} {k : Nat} {f : Addr} {fd : FuncData} {ps : List Str} {sp : Sp} {E : XK}
/-- a call one level within -/
theorem run_in1 (G : FnG X.prog X.w X.K X.mg X.base (L2.CX X.prog X.w) k f fd ps sp) (hg : X.A.guards = some []) (hr : Room (k + 1) X.A) (hb : L2.Binds X.K fd ps []) (hx : PassesAt (L2.CX X.prog X.w) X σ E) (Iv : Inv X pins σ H s) (r : Vals vs us) (h : sp vs H Q E) :
    wpAny (model X.prog X.w) X.A.in1 (call (.ref f) us) (EP X pins σ Q) X.xe s := by
  have hl : us.length = ps.length := by rw [← r.length]; exact G.len _ _ _ _ h
  have e := Iv.env0
  have e' : Env0 X.prog X.w X.K X.mg X.base X.A.in1 X.stack s H := ⟨e.frames, e.mod, e.bs, e.bsz, e.funs, e.frf, e.hok, e.bare⟩
  refine wpAny_call (codeAny_mono (G.run X.A.in1 X.stack s H ⟨us, []⟩ us vs Q E hg hr.in1 e' (by have := hb s us Iv.kIn (by rw [List.append_nil]; exact hl); rw [List.append_nil] at this; exact this) r h) fun r s' hq => ?_)
  match r, hq with
  | .error e, hq => exact hx pins H s e s' Iv hq
  | .ok (.ret u), hq => exact Iv.after hq
theorem back_of {u : Value} {s' : Shared} (h : EP X pins σ Q u s') : PySem.W.CmpBack (EP X pins σ Q) u s' := by
  have h' := h
  obtain ⟨v, H', _, r, _⟩ := h'
  cases u <;> first | exact h | skip
  cases v <;> first | (cases r; done) | (obtain ⟨_, r⟩ := r; cases r)
end
end PDL
namespace PD
open PySem PySem.Spec L2 PDL
/-- an own operation of objects: by the left one's class; tb: all classes, that none comes before it -/
def ownM (cs : List Nat) (tb : List (Nat × Bool)) (F : Nat → List D → M D) (d e : D) : M D := match d with
  | .obj c _ => if cs.contains c then isM [] tb e >>= boolM >>= fun b => if b then .bad else noR (F c [d, e]) else .bad
  | _ => .bad
theorem ownM_in {cs : List Nat} {tb : List (Nat × Bool)} {F : Nat → List D → M D} {d e : D} {n : Nat} {P : Nat → D → Prop} {E : Nat → Nat → D → Prop} (q : AllB (ownM cs tb F d e) n P E) : ∃ c fl, d = .obj c fl ∧ c ∈ cs ∧ AllB (isM [] tb e) n (fun n' b => b = .bl false ∧ AllB (F c [d, e]) n' P fun _ _ _ => False) E := by
  cases d <;> first | exact False.elim q | skip
  rename_i c fl
  obtain ⟨h, q⟩ := allB_ite (show AllB (if _ then _ else .bad) _ _ _ from q)
  refine ⟨c, fl, rfl, cs_mem h, ?_⟩
  rw [allB_bind, allB_bind] at q
  refine q.mono (fun n' b z => ?_) fun _ _ _ z => z
  cases b <;> first | exact False.elim z | skip
  rename_i b
  cases b with
  | true => exact False.elim z
  | false => exact ⟨rfl, allB_noR z⟩
section
variable {C : Ctx} {ex : Ex} {X : Cx} {W : Wd} {F : Nat → List D → M D} {k : Nat} {ps : List Str} {cs : List Nat} {tb : List (Nat × Bool)}
/-- the promise of a call whose errors cannot be -/
theorem call_no {G : List D → M D} {ms : List Md} {n : Nat} {env : Env} {ad : Nat → Addr} {σ : L2.St} {I H : Hp} {Q : VK} {vs : List V} {ds : List D} (hms : (ms.all fun m => decide (m = .val ∨ m = .rd)) = true) (S : Sim C n env ad σ I H) (ra : RepA C I H ms vs ds) (q : AllB (G ds) n (Po .val C env ad σ I H Q) fun _ _ _ => False) :
    SpD C.W ms G vs H Q (fun _ _ _ => False) :=
  ⟨n, I, ds, S.enter, RepA.ctx (C := C) (C' := ⟨C.W, H, I⟩) rfl hms ra, q.mono (fun n' d z v I' H' S' r => z v I' H' (S.ret S') S'.i0 S'.base r) fun _ _ _ z => z.elim⟩
theorem d_eqO (D0 : ∀ c ∈ cs, MethOk X.prog X.w X.K X.mg X.base "__eq__" ps k (W.cls c) (SpD W [.val, .val] (F c))) (hW : C.W = W) (hK : C.W.K = X.K) (hX : ∀ c ∈ cs, W.isX c = false) (FT : ∀ c ∈ cs, IsF X.K W (fun t => some (!PySem.W.notFirst X.K (W.cls c) t)) [] tb) (hgd : X.A.guards = some []) (hr : Room k X.A) :
    OpR X (compareOp .Eq) (rP .val .val .val C ex (ownM cs tb F)) := by
  subst hW
  intro pins s σ0 H x y v u Q Iv rx ry h
  obtain ⟨n, env, ad, σ, I, d, e, S, r1, r2, q⟩ := h
  obtain ⟨c, fl, rfl, hc, q⟩ := ownM_in q
  obtain ⟨a, rfl, ⟨_, dx, fs, ha, _⟩ | ⟨hx', _⟩⟩ := r1.obj S
  · obtain ⟨t, b, Z, T1, T2, _, T3, eb, q2⟩ := is_kit (FT c hc) hK Iv S (show RepM .rd C env ad I H y e from .inl r2) ry q
    obtain rfl : b = false := D.bl.inj eb
    obtain rfl : v = Value.ref a := rx
    obtain ⟨g, fd, G, Tc, hm, hb⟩ := (D0 c hc).ex
    obtain ⟨mA, J, _⟩ := ins_get Iv.hok ha
    obtain ⟨od, J, _⟩ := J.look
    obtain ⟨m, hF⟩ := Iv.fr
    show wpAny (model X.prog X.w) X.A (richCompare .Eq (.ref a) u) _ _ _
    refine PySem.W.cmp_K (op := .Eq) hr.units0 hF Iv.ok.mod.kin J (T1.ty _ _ Iv.kIn T2) (by simpa using T3) hm.at_ hm.fn (wpAny_mono (run_fnG (dvs := []) (E := fun _ _ _ _ => False) G hgd hr hb .nil passF Iv (us := [.ref a, u]) (vs := [.ref a, y]) (.cons rfl (.cons ry .nil)) ?_) (fun _ _ z => back_of z) fun _ _ z => z)
    exact call_no (ds := [.obj c fl, e]) rfl S ⟨by decide, r1.any (by decide), by decide, r2, trivial⟩ q2
  · rw [hX c hc] at hx'
    cases hx'
/-- != by an own == that gives a bool -/
def ownNeM (cs : List Nat) (tb : List (Nat × Bool)) (F : Nat → List D → M D) (d e : D) : M D := ownM cs tb F d e >>= boolM >>= fun b => .ret (.bl (!b))
theorem d_neO (D0 : ∀ c ∈ cs, MethOk X.prog X.w X.K X.mg X.base "__eq__" ps k (W.cls c) (SpD W [.val, .val] (F c))) (hW : C.W = W) (hK : C.W.K = X.K) (hX : ∀ c ∈ cs, W.isX c = false) (FT : ∀ c ∈ cs, IsF X.K W (fun t => some (!PySem.W.notFirst X.K (W.cls c) t)) [] tb) (hgd : X.A.guards = some []) (hr : Room (k + 1) X.A)
    (hN : ∀ c ∈ cs, PySem.W.findIn X.K (.ref (W.cls c)) "__ne__" = some (some (.builtin "object.__ne__")) ∧ PySem.W.mroIn X.K (W.cls c) (.type "object") = some true) : OpR X (compareOp .NotEq) (rP .val .val .val C ex (ownNeM cs tb F)) := by
  subst hW
  intro pins s σ0 H x y v u Q Iv rx ry h
  obtain ⟨n, env, ad, σ, I, d, e, S, r1, r2, q⟩ := h
  have q : AllB (ownM cs tb F d e >>= fun z => boolM z >>= fun b => .ret (.bl (!b))) n (Po .val C env ad σ I H Q) (Pe C ex env ad σ I H) := by rw [← bind_assoc']; exact q
  rw [allB_bind] at q
  obtain ⟨c, fl, rfl, hc, q⟩ := ownM_in q
  obtain ⟨a, rfl, ⟨_, dx, fs, ha, _⟩ | ⟨hx', _⟩⟩ := r1.obj S
  · obtain ⟨t, b, Z, T1, T2, _, T3, eb, q2⟩ := is_kit (FT c hc) hK Iv S (show RepM .rd C env ad I H y e from .inl r2) ry q
    obtain rfl : b = false := D.bl.inj eb
    obtain rfl : v = Value.ref a := rx
    obtain ⟨g, fd, G, Tc, hm, hb⟩ := (D0 c hc).ex
    obtain ⟨mA, J, _⟩ := ins_get Iv.hok ha
    obtain ⟨od, J, _⟩ := J.look
    obtain ⟨m, hF⟩ := Iv.fr
    show wpAny (model X.prog X.w) X.A (richCompare .NotEq (.ref a) u) _ _ _
    refine ne_K (by have := hr.un; omega) hF Iv.ok.mod.kin J (T1.ty _ _ Iv.kIn T2) (by simpa using T3) hm.at_ hm.fn (hN c hc).1 (hN c hc).2 (wpAny_mono (run_in1 (E := fun _ _ _ => False) (Q := fun w H' => ∃ b, w = .bl b ∧ Q (.bl (!b)) H') G hgd hr hb passF Iv (us := [.ref a, u]) (vs := [.ref a, y]) (.cons rfl (.cons ry .nil)) ?_) (fun w s' z => ?_) fun _ _ z => z)
    · refine call_no (ds := [.obj c fl, e]) rfl S ⟨by decide, r1.any (by decide), by decide, r2, trivial⟩ (q2.mono (fun n1 d1 q3 => ?_) fun _ _ _ z => z)
      intro w I' H' S' i' x' r'
      cases d1 <;> first | exact False.elim q3 | skip
      rename_i bb
      obtain rfl := r'.bl
      exact ⟨bb, rfl, (show Po .val C env ad σ I H Q n1 (.bl (!bb)) from q3) _ I' H' S' i' x' (Rep.bl _)⟩
    · obtain ⟨w', H', Iv', rw', bb, rfl, hq⟩ := z
      obtain rfl : w = Value.bool bb := rw'
      exact ⟨bb, rfl, .bl (!bb), H', Iv', rfl, hq⟩
  · rw [hX c hc] at hx'
    cases hx'
/-- a + b, by the left one's class -/
def addO (cs : List Nat) (F : Nat → List D → M D) (d e : D) : M D := match d, e with
  | .obj c _, .obj c' _ => if cs.contains c && decide (c = c') then F c [d, e] else .bad
  | _, _ => .bad
theorem pm_addO {a b : Expr} {f g : Env → M D} {pos : Pos} (D0 : ∀ c ∈ cs, MethOk X.prog X.w X.K X.mg X.base "__add__" ps k (W.cls c) (SpD W [.val, .val] (F c))) (hW : C.W = W) (hX : ∀ c ∈ cs, W.isX c = false) (hS : ∀ c ∈ cs, PySem.W.selfFirst X.K (W.cls c) = true) (tk : Takes X (wxOf C ex)) (hgd : X.A.guards = some []) (hr : Room k X.A)
    (ha : PM .val C ex X a f) (hb : PM .val C ex X b g) : PM .val C ex X (.BinOp a .Add b pos) (e2 (addO cs F) f g) := by
  subst hW
  refine ⟨fun pins s σ H Q Iv h => ?_⟩
  obtain ⟨n, env, ad, I, S, q⟩ := h
  have q : AllB (f env >>= fun x => g env >>= fun y => addO cs F x y) n (Po .val C env ad σ I H Q) (Pe C ex env ad σ I H) := q
  rw [allB_bind] at q
  refine wpAny_BinOp (thn (ha.run pins s σ H _ Iv ⟨n, env, ad, I, S, q.mono (fun n1 d q1 => fun v I1 H1 s1 i1 x1 r1 => (show (∃ n env ad I d, Sim C n env ad σ I H1 ∧ Rep C.W I v d ∧ AllB (g env >>= fun y => addO cs F d y) n (Po .val C env ad σ I H1 Q) (Pe C ex env ad σ I H1)) from ⟨n1, env, ad, I1, d, s1, r1, q1.mono (fun _ _ k => k.mono i1 x1) fun _ _ _ k => k.mono i1 x1⟩)) fun _ _ _ k => k⟩) fun v s1 ⟨x, H1, Iv1, rx, n1, env1, ad1, I1, d, S1, r1, q1⟩ => ?_)
  rw [allB_bind] at q1
  refine thn (hb.run pins s1 σ H1 _ Iv1 ⟨n1, env1, ad1, I1, S1, q1.mono (fun n2 e q2 => fun w I2 H2 s2 i2 x2 r2 => (show (∃ n env ad I e, Sim C n env ad σ I H2 ∧ Rep C.W I x d ∧ Rep C.W I w e ∧ AllB (addO cs F d e) n (Po .val C env ad σ I H2 Q) (Pe C ex env ad σ I H2)) from ⟨n2, env1, ad1, I2, e, s2, r1.mono i2, r2, q2.mono (fun _ _ k => k.mono i2 x2) fun _ _ _ k => k.mono i2 x2⟩)) fun _ _ _ k => k⟩) fun u s2 ⟨y, H2, Iv2, ry, n2, env2, ad2, I2, e, S2, r3, r4, q2⟩ => ?_
  obtain ⟨c, fl, rfl⟩ : ∃ c fl, d = .obj c fl := by cases d <;> first | exact False.elim q2 | exact ⟨_, _, rfl⟩
  obtain ⟨c', fl', rfl⟩ : ∃ c fl, e = .obj c fl := by cases e <;> first | exact False.elim q2 | exact ⟨_, _, rfl⟩
  obtain ⟨h, q2⟩ := allB_ite (show AllB (if _ then _ else .bad) _ _ _ from q2)
  obtain ⟨h1, h2⟩ := Bool.and_eq_true_iff.mp h
  have ec : c' = c := (of_decide_eq_true h2).symm
  rw [ec] at r4
  have hc := cs_mem h1
  obtain ⟨p, rfl, ⟨_, dx, fs, hp, _⟩ | ⟨hx', _⟩⟩ := (RepM.val_of (C := C) (env := env2) (ad := ad2) (H := H2) r3).obj S2
  · obtain ⟨p', rfl, ⟨_, dx', fs', hp', _⟩ | ⟨hx', _⟩⟩ := (RepM.val_of (C := C) (env := env2) (ad := ad2) (H := H2) r4).obj S2
    · obtain rfl : v = Value.ref p := rx
      obtain rfl : u = Value.ref p' := ry
      obtain ⟨g', fd, G, Tc, hm, hb'⟩ := (D0 c hc).ex
      obtain ⟨mA, J, _⟩ := ins_get Iv2.hok hp
      obtain ⟨od, J, _⟩ := J.look
      obtain ⟨mB, J', _⟩ := ins_get Iv2.hok hp'
      obtain ⟨od', J', _⟩ := J'.look
      obtain ⟨m, hF⟩ := Iv2.fr
      refine PySem.W.binop_K hF Iv2.ok.mod.kin J J'.type (hS c hc) hm.at_ hm.fn (wpAny_mono (run_fnG (dvs := []) G hgd hr hb' .nil (passAt tk σ) Iv2 (us := [.ref p, .ref p']) (vs := [.ref p, .ref p']) (.cons rfl (.cons rfl .nil)) ?_) (fun _ _ z => back_of z) fun _ _ z => z)
      rw [ec] at q2
      exact call_in (ds := [.obj c fl, .obj c fl']) rfl S2 ⟨by decide, r3, by decide, r4, trivial⟩ q2
    · rw [hX c hc] at hx'
      cases hx'
  · rw [hX c hc] at hx'
    cases hx'
end
end PD

set_option Elab.async false
set_option linter.all false
set_option maxRecDepth 100000
set_option maxHeartbeats 4000000
/-! PDMore: while, pop, list(range(..)), xs[::-1], a, b = x, y. -/
namespace PD
open PySem PySem.Spec L2 PDL
/-- at most so many turns -/
def whileM (t : Env → M Bool) (s : Env → M (Fl × Env)) : Nat → Env → M (Fl × Env)
  | 0, _ => .bad
  | k + 1, e => tryB (t e) e fun b => if b then s e >>= fun r => match r with
    | (.nx, e') => whileM t s k e'
    | (.cnt, e') => whileM t s k e'
    | (.brk, e') => .ret (.nx, e')
    | r => .ret r else .ret (.nx, e)
/-- while t: s, of at most m turns -/
def sWhile (m : Nat) (t : Env → M Bool) (s : Env → M (Fl × Env)) : Env → M (Fl × Env) := whileM t s m
/-- target = x.pop() -/
def sPop (i : Nat) (tg : D → Env → Option Env) : Env → M (Fl × Env) := fun e => match e[i]? with
  | some (.own (.lst ds)) => match ds.getLast? with
    | some d => match tg d (e.set i (.own (.lst ds.dropLast))) with
      | some e' => .ret (.nx, e')
      | none => .bad
    | none => .bad
  | _ => .bad
def revLM : D → M D
  | .lst xs => .ret (.lst xs.reverse)
  | _ => .bad
def rngLM : D → M D
  | .int n => if n.natAbs < 1000000 then .ret (.lst (rngM 0 n)) else .bad
  | _ => .bad
def rngL2M : D → D → M D
  | .int m, .int n => if m.natAbs < 1000000 ∧ n.natAbs < 1000000 then .ret (.lst (rngM m n)) else .bad
  | _, _ => .bad
def rngTM : D → M D
  | .int n => if n.natAbs < 1000000 then .ret (.tup (rngM 0 n)) else .bad
  | _ => .bad
/-- a, b = x, y -/
def sPar (i j : Nat) (f g : Env → M D) : Env → M (Fl × Env) := fun e => tryB (f e) e fun d => tryB (g e) e fun d' => .ret (.nx, (e.set i (.v d)).set j (.v d'))
section
variable {C : Ctx} {ex : Ex} {X : Cx} {e a b : Expr} {f g : Env → M D} {t : Env → M Bool} {s : Env → M (Fl × Env)} {pos : Pos}
theorem ms_while {c : Expr} {body : List Stmt} (m : Nat) (hp : PassesOwn (model X.prog X.w) X.A X.env X.xe) (hc : PMT C ex X c t) (hb : PMB C ex X body s) : PMS C ex X (.While c body [] pos) (sWhile m t s) :=
  PS_imp (ps_while hp hc hb) fun Dn σ H ⟨n, env, ad, I, S, q⟩ => by
    refine ⟨fun k σ H => ∃ n env ad I', Sim C n env ad σ I' H ∧ AllB (whileM t s k env) n (PoS C ex Dn I') noE, ⟨m, n, env, ad, I, S, q⟩, fun k σ H ⟨n, env, ad, I, S, q⟩ => ?_⟩
    cases k with
    | zero => exact False.elim q
    | succ k =>
      have q : AllB (tryB (t env) env fun b => if b then s env >>= fun r => (match r with
        | (.nx, e') => whileM t s k e'
        | (.cnt, e') => whileM t s k e'
        | (.brk, e') => .ret (.nx, e')
        | r => .ret r) else .ret (.nx, env)) n (PoS C ex Dn I) noE := q
      refine ⟨n, env, ad, I, S, tT_S S q fun n' b I' H' S' i x q' => ?_⟩
      cases b with
      | false => exact (show PoS C ex Dn I' n' (.nx, env) from q') ad σ I' H' S' (Sub.refl _)
      | true =>
        refine ⟨fun σ' H' => ∃ n env ad I', Sim C n env ad σ' I' H' ∧ AllB (whileM t s k env) n (PoS C ex Dn I') noE, fun σ' H' z => ⟨k, Nat.lt_succ_self k, z⟩, n', env, ad, I', S', ?_⟩
        rw [if_pos rfl, allB_bind] at q'
        refine q'.mono (fun n2 r q2 => ?_) fun _ _ _ z => z
        obtain ⟨fl, env'⟩ := r
        cases fl with
        | nx => exact fun ad' σ' I2 H2 S2 i2 => ⟨n2, env', ad', I2, S2, q2.mono (fun _ _ z => z.mono i2) fun _ _ _ z => z⟩
        | cnt => exact fun ad' σ' I2 H2 S2 i2 => ⟨n2, env', ad', I2, S2, q2.mono (fun _ _ z => z.mono i2) fun _ _ _ z => z⟩
        | brk => exact q2
        | rt d => exact q2
        | rtF d => exact q2
        | exc c d => exact q2
theorem ms_pop {i : Nat} {x : Str} {tg : Expr} {tgt : D → Env → Option Env} {js : List Nat} {p2 apos cpos : Pos} (hN : X.N[i]? = some x) (hv : Vis X.env.scope x) (hg : PMG C X tg tgt js) (hd : (x == ("__debug__" : Str)) = false := by decide) (hcd : (x == ("__classdict__" : Str)) = false := by decide)
    (hbase : attributeBase (.Name x p2) "pop" X.env (eval (.Name x p2) X.env) = eval (.Name x p2) X.env := by rfl) (hline : (apos.endLine == cpos.line) = true := by rfl)
    (hs : swapsWithSole [tg] (.Call (.Attribute (.Name x p2) "pop" apos) [] [] cpos) pos.line X.env = pure false := by rfl) (hw : swappedStores [tg] (.Call (.Attribute (.Name x p2) "pop" apos) [] [] cpos) X.env = pure none := by rfl)
    (h1 : (assignEach [tg] X.env).map (·.2) = [assign tg X.env] := by rfl) : PMS C ex X (.Assign [tg] (.Call (.Attribute (.Name x p2) "pop" apos) [] [] cpos) pos) (sPop i tgt) :=
  PS_imp (ps_asg (pe_bm0 PySem.F.plainAttrs_list PySem.F.slot_list_pop PySem.F.type_list_pop mt_pop (pe_var hN hv hd hcd) hbase hline) hg hs hw h1) fun Dn σ H q => by
    obtain ⟨n, env, ad, I, S, q⟩ := q
    have q : AllB (match env[i]? with | some (.own (.lst ds)) => (match ds.getLast? with | some d => (match tgt d (env.set i (.own (.lst ds.dropLast))) with | some e' => M.ret (Fl.nx, e') | none => .bad) | none => .bad) | _ => .bad) n (PoS C ex Dn I) noE := q
    split at q
    · rename_i ds h
      obtain ⟨h1, ⟨vs, h2, rl⟩, h3, h4, h5⟩ := S.so i _ h
      cases hl : ds.getLast? with
      | none => rw [hl] at q; exact False.elim q
      | some d =>
        rw [hl] at q
        dsimp only at q
        rw [List.getLast?_eq_getElem?] at hl
        obtain ⟨v, hv, rv⟩ := rl.get hl
        have hlen := rl.length
        cases ht : tgt d (env.set i (.own (.lst ds.dropLast))) with
        | none => rw [ht] at q; exact False.elim q
        | some env' =>
          rw [ht] at q
          refine ⟨_, h1, .inl ⟨rfl, vs, SqL.of h2⟩, ad i, vs, v, rfl, rfl, h2, by rw [hlen]; exact hv, ?_⟩
          have S2 := S.lset (d' := .lst ds.dropLast) h (o := .lst vs.dropLast) fun H3 e => ⟨_, e, by rw [List.dropLast_eq_take, List.dropLast_eq_take, hlen]; exact rl.take _⟩
          exact ⟨n, env.set i (.own (.lst ds.dropLast)), ad, I, d, env', S2, rv, ht, fun σ' S3 _ => (show PoS C ex Dn I n (.nx, env') from q) ad σ' I _ S3 (Sub.refl _)⟩
    · exact False.elim q
theorem pm_rev {p1 p2 p3 : Pos} {k : Nat} (ha : PM .rd C ex X a f) : PM .fr C ex X (.Subscript a (.Slice none none (some (.UnaryOp .USub (.Constant (.int 1) k p1) p2)) p3) pos) (e1 revLM f) :=
  PE_imp (pe_revL ha) fun σ H Q q => by
    obtain ⟨n, env, ad, I, S, q⟩ := q
    have q : AllB (f env >>= revLM) n (Po .fr C env ad σ I H Q) (Pe C ex env ad σ I H) := q
    rw [allB_bind] at q
    refine ⟨n, env, ad, I, S, q.mono (fun n1 d q1 => ?_) fun _ _ _ k => k⟩
    intro v I1 H1 s1 i1 x1 r1
    cases d <;> first | exact False.elim q1 | skip
    obtain ⟨p, vs, rfl, h1, rl⟩ := r1.lst s1
    exact ⟨p, vs, rfl, SqL.of h1, fun p' hp => (show Po .fr C env ad σ I H Q n1 (.lst _) from q1) _ I1 _ (s1.laid' hp) i1 (x1.trans (SameX.upd hp)) (s1.new hp rl.reverse)⟩
theorem rgV_rep {W : Wd} {I : Hp} (i j : Int) : RepL W I (rgV i j) (rngM i j) := by
  unfold rgV rngM
  generalize (j - i).toNat = n
  have : ∀ l : List Nat, RepL W I (l.map fun k => V.int (i + (k : Nat))) (l.map fun k => D.int (i + (k : Nat))) := fun l => by
    induction l with
    | nil => exact .nil
    | cons k l ih => exact .cons (.int _) ih
  exact this _
theorem rgOk {i j : Int} (hi : i.natAbs < 1000000) (hj : j.natAbs < 1000000) : RgOk i j := by
  have a := in62 (j := i) (by omega)
  have b := in62 (j := j) (by omega)
  exact ⟨a.1, a.2, b.1, b.2, by omega⟩
theorem pm_listR1 {p p2 q : Pos} (hc : X.calm = true) (hg : Gl X "list") (hm : X.mg "list" = none) (hg2 : Gl X "range") (hm2 : X.mg "range" = none) (ha : PM .rd C ex X a f) (na : starEach [a] X.env = (false, eval a X.env) :: starEach [] X.env := by rfl) (nb : starEach [.Call (.Name "range" p2) [a] [] q] X.env = (false, eval (.Call (.Name "range" p2) [a] [] q) X.env) :: starEach [] X.env := by rfl) : PM .fr C ex X (.Call (.Name "list" p) [.Call (.Name "range" p2) [a] [] q] [] pos) (e1 rngLM f) :=
  PE_imp (pe_listRg hc hg hm (prg_1 hg2 hm2 ha na) nb) fun σ H Q q => by
    obtain ⟨n, env, ad, I, S, q⟩ := q
    have q : AllB (f env >>= rngLM) n (Po .fr C env ad σ I H Q) (Pe C ex env ad σ I H) := q
    rw [allB_bind] at q
    refine ⟨n, env, ad, I, S, q.mono (fun n1 d q1 => ?_) fun _ _ _ k => k⟩
    intro v I1 H1 s1 i1 x1 r1
    cases d <;> first | exact False.elim q1 | skip
    rename_i k
    obtain ⟨hk, q1⟩ := allB_ite (show AllB (if _ then _ else .bad) _ _ _ from q1)
    obtain rfl := r1.int
    refine ⟨k, rfl, rgOk (by decide) hk, fun p' hp => (show Po .fr C env ad σ I H Q n1 (.lst _) from q1) _ I1 _ (s1.laid' hp) i1 (x1.trans (SameX.upd hp)) (s1.new hp (rgV_rep 0 k))⟩
theorem pm_tupR1 {p p2 q : Pos} (hc : X.calm = true) (hg : Gl X "tuple") (hm : X.mg "tuple" = none) (hg2 : Gl X "range") (hm2 : X.mg "range" = none) (ha : PM .rd C ex X a f) (na : starEach [a] X.env = (false, eval a X.env) :: starEach [] X.env := by rfl) (nb : starEach [.Call (.Name "range" p2) [a] [] q] X.env = (false, eval (.Call (.Name "range" p2) [a] [] q) X.env) :: starEach [] X.env := by rfl) : PM .val C ex X (.Call (.Name "tuple" p) [.Call (.Name "range" p2) [a] [] q] [] pos) (e1 rngTM f) :=
  PE_imp (pe_tupRg hc hg hm (prg_1 hg2 hm2 ha na) nb) fun σ H Q q => by
    obtain ⟨n, env, ad, I, S, q⟩ := q
    have q : AllB (f env >>= rngTM) n (Po .val C env ad σ I H Q) (Pe C ex env ad σ I H) := q
    rw [allB_bind] at q
    refine ⟨n, env, ad, I, S, q.mono (fun n1 d q1 => ?_) fun _ _ _ k => k⟩
    intro v I1 H1 s1 i1 x1 r1
    cases d <;> first | exact False.elim q1 | skip
    rename_i k
    obtain ⟨hk, q1⟩ := allB_ite (show AllB (if _ then _ else .bad) _ _ _ from q1)
    obtain rfl := r1.int
    refine ⟨k, rfl, rgOk (by decide) hk, fun p' hp => (show Po .val C env ad σ I H Q n1 (.tup _) from q1) _ _ _ (s1.laid hp) (i1.trans (sub_upd (s1.none_I hp))) (x1.trans (SameX.upd hp)) (Rep.tup (Or.inl (Or.inl upd_same)) (RepL.mono (sub_upd (s1.none_I hp)) (rgV_rep 0 k)))⟩
theorem pm_listR2 {b : Expr} {g : Env → M D} {p p2 q : Pos} (hc : X.calm = true) (hg : Gl X "list") (hm : X.mg "list" = none) (hg2 : Gl X "range") (hm2 : X.mg "range" = none) (ha : PM .rd C ex X a f) (hb : PM .rd C ex X b g) (na : starEach [a, b] X.env = (false, eval a X.env) :: starEach [b] X.env := by rfl) (nc : starEach [b] X.env = (false, eval b X.env) :: starEach [] X.env := by rfl) (nb : starEach [.Call (.Name "range" p2) [a, b] [] q] X.env = (false, eval (.Call (.Name "range" p2) [a, b] [] q) X.env) :: starEach [] X.env := by rfl) (hp : (backTo q (starEach [b] X.env)).any (·.1) = false := by rfl) : PM .fr C ex X (.Call (.Name "list" p) [.Call (.Name "range" p2) [a, b] [] q] [] pos) (e2 rngL2M f g) :=
  PE_imp (pe_listRg hc hg hm (prg_2 hg2 hm2 ha hb na nc hp) nb) fun σ H Q q => by
    obtain ⟨n, env, ad, I, S, q⟩ := q
    have q : AllB (f env >>= fun x => g env >>= fun y => rngL2M x y) n (Po .fr C env ad σ I H Q) (Pe C ex env ad σ I H) := q
    rw [allB_bind] at q
    refine ⟨n, env, ad, I, S, q.mono (fun n1 d q1 => ?_) fun _ _ _ k => k⟩
    intro v I1 H1 s1 i1 x1 r1
    rw [allB_bind] at q1
    refine ⟨n1, env, ad, I1, s1, q1.mono (fun n2 d2 q2 => ?_) fun _ _ _ k => k.mono i1 x1⟩
    intro w I2 H2 s2 i2 x2 r2
    cases d <;> first | exact False.elim q2 | skip
    cases d2 <;> first | exact False.elim q2 | skip
    rename_i k l
    obtain ⟨hk, q2⟩ := allB_ite (show AllB (if _ then _ else .bad) _ _ _ from q2)
    obtain rfl := r1.int
    obtain rfl := r2.int
    refine ⟨k, l, rfl, rfl, rgOk hk.1 hk.2, fun p' hp => (show Po .fr C env ad σ I H Q n2 (.lst _) from q2) _ I2 _ (s2.laid' hp) (i1.trans i2) ((x1.trans x2).trans (SameX.upd hp)) (s2.new hp (rgV_rep k l))⟩
/-- a, b = x, y -/
theorem ms_par {i j : Nat} {x y : Str} {px py pt : Pos} {kt k2 pt2} (hc : X.calm = true) (hN : X.N.Nodup) (hi : X.N[i]? = some x) (hj : X.N[j]? = some y) (hij : i ≠ j) (hx : X.env.scope.names.lookup x = some .local) (hy : X.env.scope.names.lookup y = some .local) (ha : PM .val C ex X a f) (hb : PM .val C ex X b g)
    (hw : swappedStores [.Tuple [.Name x px, .Name y py] kt pt] (.Tuple [a, b] k2 pt2) X.env = pure (some [x, y])) (hs : swapsWithSole [.Tuple [.Name x px, .Name y py] kt pt] (.Tuple [a, b] k2 pt2) pos.line X.env = pure false := by rfl)
    (na : starEach [a, b] X.env = (false, eval a X.env) :: starEach [b] X.env := by rfl) (nb : starEach [b] X.env = (false, eval b X.env) :: starEach [] X.env := by rfl) : PMS C ex X (.Assign [.Tuple [.Name x px, .Name y py] kt pt] (.Tuple [a, b] k2 pt2) pos) (sPar i j f g) :=
  PS_imp (ps_par hc hN hi hj hij hx hy (pa_cons ha (pa_cons hb pa_nil nb) na) hw hs) fun Dn σ H q => by
    obtain ⟨n, env, ad, I, S, q⟩ := q
    refine ⟨n, env, ad, I, S, tM_S S (show AllB (tryB (f env) env fun d => tryB (g env) env fun d' => .ret (.nx, (env.set i (.v d)).set j (.v d'))) n (PoS C ex Dn I) noE from q) fun n1 d v I1 H1 S1 i1 x1 r1 q1 => ?_⟩
    refine ⟨n1, env, ad, I1, S1, tM_S S1 q1 fun n2 d' w I2 H2 S2 i2 x2 r2 q2 => ?_⟩
    exact ⟨v, w, rfl, (show PoS C ex Dn I2 n2 (.nx, (env.set i (.v d)).set j (.v d')) from q2) ad _ I2 H2 ((S2.setV (r1.mono i2)).setV r2) (Sub.refl _)⟩
end
end PD

set_option Elab.async false
set_option linter.all false
set_option maxRecDepth 100000
set_option maxHeartbeats 4000000
/-! PDNew: containers given back; a frame within; append to what a call gives. -/
namespace PD
open PySem PySem.Spec L2 PDL
/-- an expression within which the held containers are read alone -/
def eIn (f : Env → M D) : Env → M D := fun e => noR (f (borE e))
/-- o.append(None), o a new list -/
def sAppN (f : Env → M D) : Env → M (Fl × Env) := fun e => tryB (f e) e fun d => match d with
  | .lst ds => if ds.length < line then .ret (.nx, e) else .bad
  | _ => .bad
section
variable {C : Ctx} {ex : Ex} {X : Cx} {e o a : Expr} {f g : Env → M D} {pos : Pos} {m : Md}
theorem ms_retO {x : Str} {p : Pos} (i : Nat) (hN : X.N[i]? = some x := by rfl) (hv : Vis X.env.scope x := by first | exact Or.inl rfl | exact Or.inr (Or.inl rfl) | exact Or.inr (Or.inr rfl)) (hd : (x == ("__debug__" : Str)) = false := by decide)
    (hcd : (x == ("__classdict__" : Str)) = false := by decide) : PMS C ex X (.Return (some (.Name x p)) pos) (sRetO i) :=
  PS_imp (ps_ret (pe_var hN hv hd hcd)) fun Dn σ H q => by
    obtain ⟨n, env, ad, I, S, q⟩ := q
    have q : AllB (match env[i]? with | some (.own d) => M.ret (Fl.rtF d, env) | _ => .bad) n (PoS C ex Dn I) noE := q
    split at q
    · rename_i d h
      obtain ⟨h1, h2, h3, h4, h5⟩ := S.so i _ h
      exact ⟨_, h1, (show PoS C ex Dn I n (.rtF d, env) from q) ad σ I H _ S (Sub.refl _) ⟨ad i, rfl, h5, h2, h4, h3, fun j e h => by simp at h⟩⟩
    · exact False.elim q
/-- a frame within: for a value, or a new container -/
theorem pm_in (h : ∀ B I0, PM .val ⟨C.W, B, I0⟩ exNo X e f) : PM .val C ex X e (eIn f) := by
  refine ⟨fun pins s σ H Q Iv q => ?_⟩
  obtain ⟨n, env, ad, I, S, q⟩ := q
  have q : AllB (noR (f (borE env))) n (Po .val C env ad σ I H Q) (Pe C ex env ad σ I H) := q
  refine (h H I).run pins s σ H Q Iv ⟨n, borE env, ad, I, S.inner, (allB_noR (E' := fun _ _ _ => False) q).mono (fun n1 d z v I' H' S' i x r => z v I' H' (S.ret S') i x r) fun _ _ _ z => z.elim⟩
theorem pm_inF (h : ∀ B I0, PM .fr ⟨C.W, B, I0⟩ exNo X e f) : PM .fr C ex X e (eIn f) := by
  refine ⟨fun pins s σ H Q Iv q => ?_⟩
  obtain ⟨n, env, ad, I, S, q⟩ := q
  have q : AllB (noR (f (borE env))) n (Po .fr C env ad σ I H Q) (Pe C ex env ad σ I H) := q
  refine (h H I).run pins s σ H Q Iv ⟨n, borE env, ad, I, S.inner, (allB_noR (E' := fun _ _ _ => False) q).mono (fun n1 d z v I' H' S' i x r => z v I' H' (S.ret S') i x ?_) fun _ _ _ z => z.elim⟩
  obtain ⟨a, h1, h2, h3, h4, h5, h6⟩ := r
  have h5 : H a = none := h5
  refine ⟨a, h1, h2, h3, h4, ?_, fun i e h => ?_⟩
  · cases hb : C.B a with
    | none => rfl
    | some u => have := S.base a u h2 hb; rw [h5] at this; cases this
  · obtain ⟨_, g2, _⟩ := S.so i e h
    obtain ⟨u, hu⟩ := g2.there
    exact ne_of_none hu h5
theorem ms_appN {j} {p apos cpos : Pos} (ho : PM .fr C ex X o f)
    (hbase : attributeBase o "append" X.env (eval o X.env) = eval o X.env := by rfl)
    (hfew : ((backTo cpos (starEach [.Constant .none j p] X.env)).all (fun x => !x.1) && (backToKw cpos (keywordEach [] X.env)).all (fun x => x.1.isSome)
      && decide (([.Constant .none j p] : List Expr).length + ([] : List Keyword).length + (if ([] : List Keyword).isEmpty then 0 else 1) < 30)) = true := by rfl)
    (hline : (apos.endLine == cpos.line) = true := by rfl) (hs : starEach [.Constant .none j p] X.env = (false, eval (.Constant .none j p) X.env) :: starEach [] X.env := by rfl) (hsw : swapsWith (.Call (.Attribute o "append" apos) [.Constant .none j p] [] cpos) none pos.line X.env = pure false := by rfl) :
    PMS C ex X (.Expr (.Call (.Attribute o "append" apos) [.Constant .none j p] [] cpos) pos) (sAppN f) :=
  PS_imp (ps_expr (pe_bm PySem.F.plainAttrs_list PySem.F.slot_list_append PySem.F.type_list_append mt_append ho (pa_cons pe_non pa_nil hs) hbase hfew hline hs) hsw) fun Dn σ H q => by
    obtain ⟨n, env, ad, I, S, q⟩ := q
    refine ⟨n, env, ad, I, S, tM_S S (show AllB (tryB (f env) env fun d => match d with | .lst ds => if ds.length < line then .ret (.nx, env) else .bad | _ => .bad) n (PoS C ex Dn I) noE from q) fun n1 d v I1 H1 S1 i1 x1 r1 q1 => ?_⟩
    cases d <;> first | exact False.elim q1 | skip
    rename_i ds
    obtain ⟨hl, q1⟩ := allB_ite q1
    obtain ⟨a, rfl, hN, ⟨vs, h1, rl⟩, hI, hB, ho⟩ := r1
    exact ⟨.inl ⟨rfl, vs, SqL.of h1⟩, a, vs, .non, rfl, rfl, h1, by rw [rl.length, ← line_eq]; exact hl, (show PoS C ex Dn I1 n1 (.nx, env) from q1) ad σ I1 _ (S1.write hI hB hN ho) (Sub.refl _)⟩
end
end PD

set_option Elab.async false
set_option linter.all false
set_option maxRecDepth 100000
set_option maxHeartbeats 4000000
/-! PDDict: dicts with int and text keys read; texts: str, f-strings, join. -/
namespace PD
open PySem PySem.Spec L2 PDL
def keyD : D → Option Key
  | .int i => some (.inl i)
  | .str x => some (.inr x)
  | _ => none
def getKD (kvs : List (D × D)) (k : Key) : Option D := (kvs.find? fun kv => decide (keyD kv.1 = some k)).map (·.2)
def putKD (kvs : List (D × D)) (k : Key) (v : D) : List (D × D) :=
  if (kvs.any fun kv => decide (keyD kv.1 = some k)) = true then kvs.map (fun kv => if keyD kv.1 = some k then (kv.1, v) else kv) else kvs ++ [(kD k, v)]
theorem keyD_kD (k : Key) : keyD (kD k) = some k := by cases k <;> rfl
theorem keyD_of {d : D} {k : Key} (h : keyD d = some k) : d = kD k := by cases d <;> cases h <;> rfl
def inDM : D → D → M D
  | x, .dct kvs => match keyD x with
    | some k => .ret (.bl (getKD kvs k).isSome)
    | none => .bad
  | _, _ => .bad
def notInDM : D → D → M D
  | x, .dct kvs => match keyD x with
    | some k => .ret (.bl (!(getKD kvs k).isSome))
    | none => .bad
  | _, _ => .bad
def ixDM : D → D → M D
  | .dct kvs, x => match keyD x with
    | some k => match getKD kvs k with
      | some d => .ret d
      | none => .bad
    | none => .bad
  | _, _ => .bad
section
variable {W : Wd} {I : Hp}
theorem RepK.get {k : Key} : ∀ {kvs : List (Key × V)} {ds : List (D × D)}, RepK W I kvs ds → (valV kvs k = none ∧ getKD ds k = none) ∨ ∃ v d, valV kvs k = some v ∧ getKD ds k = some d ∧ Rep W I v d
  | _, _, .nil => .inl ⟨rfl, rfl⟩
  | (j, v) :: kvs, (_, d) :: ds, .cons a b => by
    by_cases e : j = k
    · subst e
      exact .inr ⟨v, d, valV_pos rfl, by unfold getKD; rw [List.find?_cons, keyD_kD, decide_eq_true rfl]; rfl, a⟩
    · have ih := RepK.get (k := k) b
      have h1 : valV ((j, v) :: kvs) k = valV kvs k := valV_neg e
      have h2 : getKD ((kD j, d) :: ds) k = getKD ds k := by unfold getKD; rw [List.find?_cons, keyD_kD, decide_eq_false fun z => e (Option.some.inj z)]
      rw [h1, h2]
      exact ih
theorem RepK.any {k : Key} : ∀ {kvs : List (Key × V)} {ds : List (D × D)}, RepK W I kvs ds → (kvs.any fun kv => decide (kv.1 = k)) = ds.any fun kv => decide (keyD kv.1 = some k)
  | _, _, .nil => rfl
  | (j, v) :: kvs, (_, d) :: ds, .cons a b => by
    have ih := RepK.any (k := k) b
    rw [List.any_cons, List.any_cons, ih, keyD_kD]
    congr 1
    exact decide_eq_decide.mpr ⟨fun e => congrArg some e, fun e => Option.some.inj e⟩
theorem RepK.repl {k : Key} {v : V} {d : D} (r : Rep W I v d) : ∀ {kvs : List (Key × V)} {ds : List (D × D)}, RepK W I kvs ds → RepK W I (kvs.map fun kv => if kv.1 = k then (kv.1, v) else kv) (ds.map fun kv => if keyD kv.1 = some k then (kv.1, d) else kv)
  | _, _, .nil => .nil
  | (j, v) :: kvs, (_, d) :: ds, .cons a b => by
    have ih := RepK.repl (k := k) r b
    rw [List.map_cons, List.map_cons]
    by_cases e : j = k
    · have e' : keyD (kD j) = some k := by rw [keyD_kD, e]
      simp only [e, if_true, keyD_kD]
      exact .cons r ih
    · have e' : ¬ keyD (kD j) = some k := fun z => e (Option.some.inj (by rw [← z, keyD_kD]))
      simp only [if_neg e, if_neg e']
      exact .cons a ih
theorem RepK.snoc {k : Key} {v : V} {d : D} (r : Rep W I v d) : ∀ {kvs : List (Key × V)} {ds : List (D × D)}, RepK W I kvs ds → RepK W I (kvs ++ [(k, v)]) (ds ++ [(kD k, d)])
  | _, _, .nil => .cons r .nil
  | _, _, .cons a b => .cons a (RepK.snoc r b)
theorem RepK.put {k : Key} {v : V} {d : D} {kvs : List (Key × V)} {ds : List (D × D)} (b : RepK W I kvs ds) (r : Rep W I v d) : RepK W I (putK kvs k v) (putKD ds k d) := by
  unfold putK putKD
  rw [RepK.any b]
  split
  · exact RepK.repl r b
  · exact RepK.snoc r b
end
section
variable {C : Ctx} {ex : Ex} {X : Cx} {e o a b : Expr} {es : List Expr} {f g : Env → M D} {fs : Env → M (List D)} {pos : Pos} {m : Md} {n : Nat} {env : Env} {ad : Nat → Addr} {σ : L2.St} {I H : Hp} {x : V} {d : D}
theorem RepM.key {k : Key} (r : RepM m C env ad I H x d) (h : keyD d = some k) : x = kV k := by
  obtain rfl := keyD_of h
  cases k with
  | inl i => exact r.int
  | inr s => exact r.str
theorem d_inD (hu : X.A.units + 65 < cLine) : OpR X (compareOp .In) (rP .rd .rd .val C ex inDM) := by
  intro pins s σ0 H x y v u Q Iv rx ry h
  obtain ⟨n, env, ad, σ, I, d, e, S, r1, r2, q⟩ := h
  cases e <;> first | exact False.elim q | skip
  rename_i kvs
  cases hk : keyD d with
  | none => simp only [inDM, hk] at q; exact False.elim q
  | some k =>
    simp only [inDM, hk] at q
    obtain rfl := r1.key hk
    obtain ⟨a, ks, rfl, ha, rk⟩ := r2.dct S
    obtain rfl : u = Value.ref a := ry
    have eq : (valV ks k).isSome = (getKD kvs k).isSome := by
      rcases rk.get (k := k) with ⟨h1, h2⟩ | ⟨_, _, h1, h2, _⟩ <;> rw [h1, h2] <;> rfl
    exact L2.d_in (show X.A.units + 1 < cLine by omega) Iv (DGet.k ha) rx fun s2 I2 => ⟨.bl (valV ks k).isSome, H, I2, rfl, by
      rw [eq]
      exact q _ I H S (Sub.refl _) (SameX.refl _) (Rep.bl _)⟩
theorem d_notInD (hu : X.A.units + 65 < cLine) : OpR X (compareOp .NotIn) (rP .rd .rd .val C ex notInDM) := by
  intro pins s σ0 H x y v u Q Iv rx ry h
  obtain ⟨n, env, ad, σ, I, d, e, S, r1, r2, q⟩ := h
  cases e <;> first | exact False.elim q | skip
  rename_i kvs
  cases hk : keyD d with
  | none => simp only [notInDM, hk] at q; exact False.elim q
  | some k =>
    simp only [notInDM, hk] at q
    obtain rfl := r1.key hk
    obtain ⟨a, ks, rfl, ha, rk⟩ := r2.dct S
    obtain rfl : u = Value.ref a := ry
    have eq : (valV ks k).isSome = (getKD kvs k).isSome := by
      rcases rk.get (k := k) with ⟨h1, h2⟩ | ⟨_, _, h1, h2, _⟩ <;> rw [h1, h2] <;> rfl
    exact L2.d_notIn (show X.A.units + 1 < cLine by omega) Iv (DGet.k ha) rx fun s2 I2 => ⟨.bl (!(valV ks k).isSome), H, I2, rfl, by
      rw [eq]
      exact q _ I H S (Sub.refl _) (SameX.refl _) (Rep.bl _)⟩
theorem pm_ixD (hu : X.A.units + 65 < cLine) (ha : PM .rd C ex X a f) (hb : PM .rd C ex X b g) (hs : NoSl b := by intro _ _; rfl) : PM .val C ex X (.Subscript a b pos) (e2 ixDM f g) :=
  PE_imp (pe_dget (show X.A.units + 1 < cLine by omega) ha hb hs) fun σ H Q q => by
    obtain ⟨n, env, ad, I, S, q⟩ := q
    have q : AllB (f env >>= fun x => g env >>= fun y => ixDM x y) n (Po .val C env ad σ I H Q) (Pe C ex env ad σ I H) := q
    rw [allB_bind] at q
    refine ⟨n, env, ad, I, S, q.mono (fun n1 d q1 => ?_) (fun _ _ _ k => k)⟩
    intro v1 I1 H1 s1 i1 x1 r1
    rw [allB_bind] at q1
    refine ⟨n1, env, ad, I1, s1, q1.mono (fun n2 e q2 => ?_) (fun n' c d k => k.mono i1 x1)⟩
    intro v2 I2 H2 s2 i2 x2 r2
    have r1 := r1.later (by decide) i2 x2
    cases d <;> first | exact False.elim q2 | skip
    rename_i kvs
    cases hk : keyD e with
    | none => simp only [ixDM, hk] at q2; exact False.elim q2
    | some k =>
      simp only [ixDM, hk] at q2
      obtain rfl := r2.key hk
      obtain ⟨a, ks, rfl, ha, rk⟩ := r1.dct s2
      rcases rk.get (k := k) with ⟨h1, h2⟩ | ⟨v, d, h1, h2, rd⟩
      · rw [h2] at q2; exact False.elim q2
      · rw [h2] at q2
        exact ⟨a, v, rfl, by rw [← h1]; exact DGet.k ha, (show Po .val C env ad σ I H Q n2 d from q2) v I2 H2 s2 (i1.trans i2) (x1.trans x2) rd⟩

/-! ### texts -/
/-- str(x): a text, an int, an own object by its own __str__ -/
def strOM (cs : List Nat) (F : Nat → List D → M D) : D → M D
  | .str y => .ret (.str y)
  | .int i => if i.natAbs.log2 < 1920 then .ret (.str (toString i)) else .bad
  | .obj c fl => if cs.contains c then noR (F c [.obj c fl]) >>= fun r => match r with
    | .str y => .ret (.str y)
    | _ => .bad else .bad
  | _ => .bad
theorem c_str0 : CallR X (.type "str") (rC [.rd] .val C ex (arg1 (strOM [] fun _ _ => .bad))) := by
  intro pins s σ0 H vs us Q Iv r h
  obtain ⟨n, env, ad, σ, I, ds, S, ra, q⟩ := h
  obtain ⟨v, d, rfl, rfl, r1⟩ := ra.one
  cases d <;> first | exact False.elim q | skip
  · obtain ⟨hz, q⟩ := allB_ite (show AllB (if _ then _ else .bad) _ _ _ from q)
    obtain rfl := r1.int
    exact call_str_int pins s σ0 H _ us Q Iv r ⟨_, rfl, hz, (show Po .val C env ad σ I H Q n _ from q) _ I H S (Sub.refl _) (SameX.refl _) (Rep.str _)⟩
  · obtain rfl := r1.str
    exact SkE.call_str_str pins s σ0 H _ us Q Iv r ⟨_, rfl, (show Po .val C env ad σ I H Q n _ from q) _ I H S (Sub.refl _) (SameX.refl _) (Rep.str _)⟩
end
section
variable {X : Cx} {pins : List (Addr × Obj)} {σ : L2.St} {H : Hp} {s : Shared} {Q : VK} {vs : List V} {us : List Value} {k : Nat} {f : Addr} {fd : FuncData} {ps : List Str} {sp : Sp} {E : XK}
/-- a call two levels within -/
theorem run_in2 (G : FnG X.prog X.w X.K X.mg X.base (L2.CX X.prog X.w) k f fd ps sp) (hg : X.A.guards = some []) (hr : Room (k + 2) X.A) (hb : L2.Binds X.K fd ps []) (hx : PassesAt (L2.CX X.prog X.w) X σ E) (Iv : Inv X pins σ H s) (r : Vals vs us) (h : sp vs H Q E) :
    wpAny (model X.prog X.w) X.A.in1.in1 (call (.ref f) us) (EP X pins σ Q) X.xe s := by
  have hl : us.length = ps.length := by rw [← r.length]; exact G.len _ _ _ _ h
  have e := Iv.env0
  have e' : Env0 X.prog X.w X.K X.mg X.base X.A.in1.in1 X.stack s H := ⟨e.frames, e.mod, e.bs, e.bsz, e.funs, e.frf, e.hok, e.bare⟩
  refine wpAny_call (codeAny_mono (G.run X.A.in1.in1 X.stack s H ⟨us, []⟩ us vs Q E hg hr.in1.in1 e' (by have := hb s us Iv.kIn (by rw [List.append_nil]; exact hl); rw [List.append_nil] at this; exact this) r h) fun r s' hq => ?_)
  match r, hq with
  | .error e, hq => exact hx pins H s e s' Iv hq
  | .ok (.ret u), hq => exact Iv.after hq
end
section
variable {C : Ctx} {ex : Ex} {X : Cx} {W : Wd} {F : Nat → List D → M D} {k : Nat} {ps : List Str} {cs : List Nat} {tb : List (Nat × Bool)}
theorem c_strO (D0 : ∀ c ∈ cs, MethOk X.prog X.w X.K X.mg X.base "__str__" ps k (W.cls c) (SpD W [.val] (F c))) (hW : C.W = W) (hX : ∀ c ∈ cs, W.isX c = false) (hgd : X.A.guards = some []) (hr : Room (k + 2) X.A) : CallR X (.type "str") (rC [.val] .val C ex (arg1 (strOM cs F))) := by
  subst hW
  intro pins s σ0 H vs us Q Iv r h
  obtain ⟨n, env, ad, σ, I, ds, S, ra, q⟩ := h
  obtain ⟨v, d, rfl, rfl, r1⟩ := ra.one
  cases d <;> first | exact False.elim q | skip
  · obtain ⟨hz, q⟩ := allB_ite (show AllB (if _ then _ else .bad) _ _ _ from q)
    obtain rfl := r1.int
    exact call_str_int pins s σ0 H _ us Q Iv r ⟨_, rfl, hz, (show Po .val C env ad σ I H Q n _ from q) _ I H S (Sub.refl _) (SameX.refl _) (Rep.str _)⟩
  · obtain rfl := r1.str
    exact SkE.call_str_str pins s σ0 H _ us Q Iv r ⟨_, rfl, (show Po .val C env ad σ I H Q n _ from q) _ I H S (Sub.refl _) (SameX.refl _) (Rep.str _)⟩
  · rename_i c fl
    obtain ⟨hc, q⟩ := allB_ite (show AllB (if _ then _ else .bad) _ _ _ from q)
    have hc := cs_mem hc
    rw [allB_bind] at q
    have q := allB_noR (E' := fun _ _ _ => False) q
    have r1' : Rep C.W I v (.obj c fl) := r1
    obtain ⟨a, rfl, ⟨_, dx, fs, ha, _⟩ | ⟨hx', _⟩⟩ := (RepM.val_of (C := C) (env := env) (ad := ad) (H := H) r1').obj S
    · obtain ⟨u, rfl, ru⟩ := vals1 r
      obtain rfl : u = Value.ref a := ru
      obtain ⟨g, fd, G, Tc, hm, hb⟩ := (D0 c hc).ex
      obtain ⟨mA, J, _⟩ := ins_get Iv.hok ha
      obtain ⟨od, J, _⟩ := J.look
      refine PySem.W.kso_call hr.in1.in1.units0 Iv.kIn J hm.at_ hm.fn (wpAny_mono (run_in2 (E := fun _ _ _ => False) (Q := fun w H' => ∃ y, w = .str y ∧ Q (.str y) H') G hgd hr hb passF Iv (us := [.ref a]) (vs := [.ref a]) (.cons rfl .nil) ?_) (fun w s' z => ?_) fun _ _ z => z)
      · refine call_no (ds := [.obj c fl]) rfl S ⟨by decide, r1', trivial⟩ (q.mono (fun n1 d1 q3 => ?_) fun _ _ _ z => z)
        intro w I' H' S' i' x' r'
        cases d1 <;> first | exact False.elim q3 | skip
        rename_i y
        cases r'
        exact ⟨y, rfl, (show Po .val C env ad σ I H Q n1 (.str y) from q3) _ I' H' S' i' x' (Rep.str _)⟩
      · obtain ⟨w', H', Iv', rw', y, rfl, hq⟩ := z
        obtain ⟨t, rfl⟩ := rw'
        exact ⟨.str y, H', Iv', ⟨t, rfl⟩, hq⟩
    · rw [hX c hc] at hx'
      cases hx'
end
end PD

set_option Elab.async false
set_option linter.all false
set_option maxRecDepth 100000
set_option maxHeartbeats 4000000
/-! PDTxt: f-strings, join. -/
namespace PD
open PySem PySem.Spec L2 PDL
/-- {x}: a text or an int -/
def fmtM : D → M D
  | .str y => if y.length ≤ line then .ret (.str y) else .bad
  | .int i => if i.natAbs.log2 < 1920 then .ret (.str (toString i)) else .bad
  | _ => .bad
/-- the parts of an f-string, one behind the other -/
def joinM (acc : Str) : List (Env → M D) → Env → M D
  | [], _ => .ret (.str acc)
  | f :: fs, e => f e >>= fun d => match d with
    | .str y => if (acc ++ y).length ≤ line then joinM (acc ++ y) fs e else .bad
    | _ => .bad
def eJoin (fs : List (Env → M D)) : Env → M D := joinM Str.empty fs
def strsL : List D → Option (List Str)
  | [] => some []
  | .str x :: ds => (strsL ds).map (x :: ·)
  | _ => none
/-- a.join(xs) -/
def sjoinL (a : Str) (ds : List D) : M D := match strsL ds with
  | some ys => if (ys.map (·.length)).sum + ys.length * a.length ≤ 16777216 then .ret (.str (Str.join a ys)) else .bad
  | none => .bad
def sjoinM (a : Str) : D → M D
  | .lst ds => sjoinL a ds
  | .tup ds => sjoinL a ds
  | _ => .bad
def eSj (f g : Env → M D) : Env → M D := fun e => f e >>= fun x => match x with
  | .str a => g e >>= sjoinM a
  | _ => .bad
section
variable {C : Ctx} {ex : Ex} {X : Cx} {e o a b : Expr} {es : List Expr} {f g : Env → M D} {fs : List (Env → M D)} {pos : Pos} {m : Md} {n : Nat} {env : Env} {ad : Nat → Addr} {σ : L2.St} {I H : Hp} {x : V} {d : D}
theorem pm_fmt (h : PM .rd C ex X e f) : PM .val C ex X (.FormattedValue e (-1) none pos) (e1 fmtM f) := PE_imp (pe_fmt h) fun σ H Q q => by
  obtain ⟨n, env, ad, I, S, q⟩ := q
  have q : AllB (f env >>= fmtM) n (Po .val C env ad σ I H Q) (Pe C ex env ad σ I H) := q
  rw [allB_bind] at q
  refine ⟨n, env, ad, I, S, q.mono (fun n1 d q1 => ?_) (fun _ _ _ k => k)⟩
  intro v1 I1 H1 s1 i1 x1 r1
  cases d <;> first | exact False.elim q1 | skip
  · obtain ⟨hz, q1⟩ := allB_ite (show AllB (if _ then _ else .bad) _ _ _ from q1)
    exact .inr ⟨_, r1.int, hz, (show Po .val C env ad σ I H Q n1 _ from q1) _ I1 H1 s1 i1 x1 (Rep.str _)⟩
  · obtain ⟨hz, q1⟩ := allB_ite (show AllB (if _ then _ else .bad) _ _ _ from q1)
    exact .inl ⟨_, r1.str, by rw [← line_eq]; exact hz, (show Po .val C env ad σ I H Q n1 _ from q1) _ I1 H1 s1 i1 x1 (Rep.str _)⟩
inductive PMJ (C : Ctx) (ex : Ex) (X : Cx) : List Expr → List (Env → M D) → Prop where
  | nil : PMJ C ex X [] []
  | cons {e : Expr} {f : Env → M D} {es : List Expr} {fs : List (Env → M D)} (h : PM .val C ex X e f) (r : PMJ C ex X es fs) : PMJ C ex X (e :: es) (f :: fs)
theorem PMJ.pj (h : PMJ C ex X es fs) : PJ X es (fs.map (tM .val C ex)) := by
  induction h with
  | nil => exact .nil
  | cons h r ih => exact .cons h ih
theorem tJs_of {Q : VK} : ∀ (fs : List (Env → M D)) (acc : Str) (n : Nat) (I1 H1 : Hp), Sim C n env ad σ I1 H1 → AllB (joinM acc fs env) n (Po .val C env ad σ I1 H1 Q) (Pe C ex env ad σ I1 H1) → tJs (fs.map (tM .val C ex)) acc σ H1 fun out H2 => Q (.str out) H2
  | [], acc, n, I1, H1, S, q => (show Po .val C env ad σ I1 H1 Q n (.str acc) from q) _ I1 H1 S (Sub.refl _) (SameX.refl _) (Rep.str _)
  | f :: fs, acc, n, I1, H1, S, q => by
    have q : AllB (f env >>= fun d => match d with | .str y => if (acc ++ y).length ≤ line then joinM (acc ++ y) fs env else .bad | _ => .bad) n (Po .val C env ad σ I1 H1 Q) (Pe C ex env ad σ I1 H1) := q
    rw [allB_bind] at q
    refine ⟨n, env, ad, I1, S, q.mono (fun n1 d q1 => ?_) (fun _ _ _ k => k)⟩
    intro v1 I2 H2 s2 i2 x2 r2
    cases d <;> first | exact False.elim q1 | skip
    rename_i y
    obtain ⟨hz, q1⟩ := allB_ite q1
    cases r2
    exact ⟨y, rfl, by rw [← line_eq]; exact hz, tJs_of fs (acc ++ y) n1 I2 H2 s2 (q1.mono (fun _ _ k => k.mono i2 x2) fun _ _ _ k => k.mono i2 x2)⟩
theorem pm_joined {v1 v2 : Expr} {rest : List Expr} (h : PMJ C ex X (v1 :: v2 :: rest) fs) : PM .val C ex X (.JoinedStr (v1 :: v2 :: rest) pos) (eJoin fs) :=
  PE_imp (pe_joined h.pj) fun σ H Q ⟨n, env, ad, I, S, q⟩ => tJs_of fs Str.empty n I H S q
theorem RepL.strs {W : Wd} {I : Hp} : ∀ {ds : List D} {vs : List V} {ys : List Str}, RepL W I vs ds → strsL ds = some ys → vs = ys.map V.str
  | [], _, _, r, h => by cases r; cases h; rfl
  | d :: ds, _, _, r, h => by
    cases d <;> first | (cases h; done) | skip
    rename_i x
    cases r with
    | cons r1 r2 =>
      cases r1
      have h : (strsL ds).map (x :: ·) = some _ := h
      cases e : strsL ds with
      | none => rw [e] at h; cases h
      | some zs =>
        rw [e] at h
        cases h
        rw [List.map_cons, RepL.strs r2 e]
theorem pm_sjoin {apos : Pos} (hK : C.W.K = X.K) (ho : PM .rd C ex X o f) (he : PM .rd C ex X e g) (hs : starEach [e] X.env = [(false, eval e X.env)] := by rfl) (hbase : attributeBase o "join" X.env (eval o X.env) = eval o X.env := by rfl) (hline : (apos.endLine == pos.line) = true := by rfl) :
    PM .val C ex X (.Call (.Attribute o "join" apos) [e] [] pos) (eSj f g) := PE_imp (pe_join ho he hs hbase hline) fun σ H Q q => by
  obtain ⟨n, env, ad, I, S, q⟩ := q
  have q : AllB (f env >>= fun x => match x with | .str a => g env >>= sjoinM a | _ => .bad) n (Po .val C env ad σ I H Q) (Pe C ex env ad σ I H) := q
  rw [allB_bind] at q
  refine ⟨n, env, ad, I, S, q.mono (fun n1 d q1 => ?_) (fun _ _ _ k => k)⟩
  intro v1 I1 H1 s1 i1 x1 r1
  cases d <;> first | exact False.elim q1 | skip
  rename_i a
  obtain rfl := r1.str
  refine ⟨⟨a, rfl⟩, ?_⟩
  rw [allB_bind] at q1
  refine ⟨n1, env, ad, I1, s1, q1.mono (fun n2 e q2 => ?_) (fun n' c d k => k.mono i1 x1)⟩
  intro v2 I2 H2 s2 i2 x2 r2
  have fin : ∀ ds, AllB (sjoinL a ds) n2 (Po .val C env ad σ I H Q) (Pe C ex env ad σ I H) → (∃ p vs, v2 = .ref p ∧ (SqL X.K H2 p vs ∨ SqT X.K H2 p vs) ∧ RepL C.W I2 vs ds) → ∃ a' p, ∃ ys : List Str, V.str a = .str a' ∧ [v2] = [.ref p] ∧ (SqL X.K H2 p (ys.map V.str) ∨ SqT X.K H2 p (ys.map V.str)) ∧
      (ys.map (·.length)).sum + ys.length * a'.length ≤ 16777216 ∧ Q (.str (Txt.join a' ys)) H2 := fun ds q2 ⟨p, vs, e1, hq, rl⟩ => by
    unfold sjoinL at q2
    cases hs : strsL ds with
    | none => rw [hs] at q2; exact False.elim q2
    | some ys =>
      rw [hs] at q2
      obtain ⟨hz, q2⟩ := allB_ite q2
      obtain rfl := rl.strs hs
      subst e1
      exact ⟨a, p, ys, rfl, rfl, hq, hz, by
        rw [TL.join_eq]
        exact (show Po .val C env ad σ I H Q n2 _ from q2) _ I2 H2 s2 (i1.trans i2) (x1.trans x2) (Rep.str _)⟩
  cases e <;> first | exact False.elim q2 | skip
  · rename_i ds
    obtain ⟨p, vs, rfl, hq, rl, _⟩ := r2.tup s2
    exact fin ds q2 ⟨p, vs, rfl, .inr (by rw [← hK]; exact hq), rl⟩
  · rename_i ds
    obtain ⟨p, vs, rfl, hq, rl⟩ := r2.lst s2
    exact fin ds q2 ⟨p, vs, rfl, .inl (SqL.of hq), rl⟩
end
end PD

set_option Elab.async false
set_option linter.all false
set_option maxRecDepth 100000
set_option maxHeartbeats 4000000
/-! PDGen: sorted(xs) of data of one kind. -/
namespace PD
open PySem PySem.Spec L2 PDL
/-- the order of data -/
def leD (d e : D) : Bool := PySem.W.dataLe false toPz d e
def hasItem : D → Bool
  | .tup (_ :: _) => true
  | _ => false
def noTup : D → Bool
  | .tup _ => false
  | .non => false
  | _ => true
def sortGL (ds : List D) : M D := if ds.length ≤ line ∧ okRs 60 ds = true ∧ (ds.all fun d => ds.all fun e => PySem.W.alike (toPz d) (toPz e)) = true ∧ (ds.all hasItem || ds.all noTup) = true then .ret (.lst (ds.mergeSort leD)) else .bad
/-- sorted(xs), xs a list -/
def sortedGM : D → M D
  | .lst ds => sortGL ds
  | _ => .bad
section
variable {C : Ctx} {ex : Ex} {X : Cx} {n : Nat} {env : Env} {ad : Nat → Addr} {σ : L2.St} {I H : Hp}
theorem okRs_mem : ∀ {ds : List D} {k : Nat} {d : D}, okRs k ds = true → d ∈ ds → okR k d = true
  | [], _, _, _, h => by cases h
  | d :: ds, k, e, h, m => by
    obtain ⟨h1, h2⟩ := Bool.and_eq_true_iff.mp (show (okR k d && okRs k ds) = true from h)
    rcases List.mem_cons.mp m with rfl | m
    · exact h1
    · exact okRs_mem h2 m
theorem each_of (hK : C.W.K = X.K) (hs : (X.K.lookup sysModules).isSome = true) {pins : List (Addr × Obj)} {σ0 : L2.St} {s : Shared} (Iv : Inv X pins σ0 H s) (S : Sub I H) : ∀ {vs : List V} {ds : List D} {us : List Value}, RepL C.W I vs ds → okRs 60 ds = true → Vals vs us →
    PySem.W.EachIs (fun u d => ∃ v, RelV v u ∧ Rep C.W I v d) us ds ∧ PySem.W.EachIs (fun u d => ∃ as, Reads s.heap u (toPz d) as) us ds
  | _, _, _, .nil, _, r => by cases r; exact ⟨.nil, .nil⟩
  | _, _, _, .cons a b, h, r => by
    cases r with
    | cons r1 r2 =>
      obtain ⟨h1, h2⟩ := Bool.and_eq_true_iff.mp (show (okR 60 _ && okRs 60 _) = true from h)
      obtain ⟨as, q1, _⟩ := Rep.reads hK hs Iv S a h1 r1
      obtain ⟨e1, e2⟩ := each_of hK hs Iv S b h2 r2
      exact ⟨.cons ⟨_, r1, a⟩ e1, .cons ⟨as, q1⟩ e2⟩
theorem each_back : ∀ {us : List Value} {ds : List D}, PySem.W.EachIs (fun u d => ∃ v, RelV v u ∧ Rep C.W I v d) us ds → ∃ vs, Vals vs us ∧ RepL C.W I vs ds
  | _, _, .nil => ⟨[], .nil, .nil⟩
  | _, _, .cons ⟨v, h1, h2⟩ b => by
    obtain ⟨vs, h3, h4⟩ := each_back b
    exact ⟨v :: vs, .cons h1 h3, .cons h2 h4⟩
theorem c_sortedG (hK : C.W.K = X.K) (hs : (X.K.lookup sysModules).isSome = true) (hu : X.A.units + 62 < cLine) : CallR X (.builtin "sorted") (rC [.rd] .fr C ex (arg1 sortedGM)) := by
  intro pins s σ0 H vs us Q Iv r h
  obtain ⟨n, env, ad, σ, I, ds, S, ra, q⟩ := h
  obtain ⟨v, d, rfl, rfl, r1⟩ := ra.one
  obtain ⟨u, rfl, ru⟩ := vals1 r
  cases d <;> first | exact False.elim q | skip
  rename_i ds
  obtain ⟨⟨hl, hok, hal, hk⟩, q⟩ := allB_ite (show AllB (if _ then _ else .bad) _ _ _ from q)
  obtain ⟨p, ws, rfl, hp, rl⟩ := (r1.any (env' := env) (ad' := ad) (by decide)).lst S
  obtain rfl : u = Value.ref p := ru
  obtain ⟨its, rv, hli, hz⟩ := Iv.list (SqL.of hp)
  obtain ⟨e1, e2⟩ := each_of hK hs Iv S.sub rl hok rv
  refine PySem.W.sorted_data (R := fun u d => ∃ v, RelV v u ∧ Rep C.W I v d) (enc := toPz) (bs := ds) hli.isList e1 e2 (fun d hd d' hd' => ?_) ?_ (by rw [← line_eq]; exact hl) (fun b hb => ?_) fun out hout eo => ?_
  · obtain ⟨b, hb, rfl⟩ := List.mem_map.mp hd
    obtain ⟨b', hb', rfl⟩ := List.mem_map.mp hd'
    exact List.all_eq_true.mp (List.all_eq_true.mp hal b hb) b' hb'
  · rcases Bool.or_eq_true_iff.mp hk with hk | hk
    · refine .inl fun d hd => ?_
      obtain ⟨b, hb, rfl⟩ := List.mem_map.mp hd
      have := List.all_eq_true.mp hk b hb
      cases b <;> first | (cases this; done) | skip
      rename_i xs
      cases xs with
      | nil => cases this
      | cons x xs => exact ⟨toPz x, toPzs xs, by simp only [toPz, toPzs]⟩
    · refine .inr fun d hd => ?_
      obtain ⟨b, hb, rfl⟩ := List.mem_map.mp hd
      have h1 := List.all_eq_true.mp hk b hb
      have h2 := okRs_mem hok hb
      cases b <;> first | (cases h1; done) | (cases h2; done) | (unfold toPz; exact ⟨by simp, fun xs => by simp⟩)
  · have := depth_z (okRs_mem hok hb)
    omega
  · obtain ⟨ys, hv, hr⟩ := each_back eo
    have hd0 : H (s.heap.objs.size + 1) = none := Iv.hok.fresh (Nat.le_succ _)
    obtain ⟨c, hc⟩ := PyProof.Rows.sortedAll_at s.heap its out.toArray
    refine ⟨.ref _, upd H (s.heap.objs.size + 1) (.lst ys), Iv.laid (t' := s.toks) (fun b o e => PyProof.Rows.sortedAll_old e) (Nat.le_succ _) ⟨?_, out, c, hv, hc⟩, rfl, (show Po .fr C env ad σ I H Q n (.lst (ds.mergeSort leD)) from q) _ I _ (S.laid' hd0) (Sub.refl _) (SameX.upd hd0) (S.new hd0 hr)⟩
    rw [hv.length, hout, ← line_eq]
    exact hl
end
end PD

set_option Elab.async false
set_option linter.all false
set_option maxRecDepth 100000
set_option maxHeartbeats 4000000
/-! PDSet0: set(xs) of a list of ints, told by its members (SetR). -/
namespace L2
open PySem PySem.Spec PyProof.Rows
section
variable {P : Program} {w : World} {A : Around} {E : Value → Shared → Prop} {s : Shared}
abbrev set0 (w : World) : Obj := { cls := .type "set", dict := none, data := .set #[] 0 (.fresh 0 0 (!w.params.followText "set-order")) }
theorem set_of_listI {l : Addr} {items : Array Value} (ns : List Int) {Q : Value → Shared → Prop} (hh : A.handled = none) (hl : s.heap.IsList l items) (hit : IntsAre items.toList ns) (hb : ns.length + 1 < scanBound)
    (h : ∀ (h' : Heap) (tk c : Nat), SetR w h' s.heap.objs.size (fun j => decide (j ∈ ns)) c → c ≤ ns.length → (∀ b o, s.heap.get? b = some o → h'.get? b = some o) → Q (.ref s.heap.objs.size) { s with heap := h', toks := tk }) :
    wpAny (model P w) A (call (.type "set") [.ref l]) Q E s := by
  have size : items.size = ns.length := by
    have := IntsAre.length hit
    rwa [Array.length_toList] at this
  have ⟨_, _, mro⟩ := F.called_set.mro
  have made := F.called_set.made
  have sub := F.called_set.sub
  have cct := F.typeCall_set_1 (.ref l)
  have nt := F.called_set.notType
  have cc := F.called_set.canCreate
  refine wpAny_call (codeAny_of_tree (wpAny_pure ⟨Code.quiet_builtin _ (by decide +kernel), codeAny_builtin F.entry_type_call ?_⟩))
  rw [Around.under_plain (weight_type_call_type "set" [.ref l] []) rfl]
  repeat (any_goals (first | assumption | wp_step))
  refine codeAny_mono (code_set_led1 (.ref l) (E := E) (Q₁ := fun obj s₁ => obj = .ref s.heap.objs.size ∧ s₁ = { s with heap := s.heap.push (set0 w) }) ⟨rfl, rfl⟩) fun r s₁ hr => ?_
  rcases r with e | r
  · exact hr
  cases r <;> first | exact hr.elim | skip
  obtain ⟨rfl, rfl⟩ := hr
  have at0 : (s.heap.push (set0 w)).get? s.heap.objs.size = some (set0 w) := Heap.get?_push_size _ rfl
  have ty : Shared.TypeIs { s with heap := s.heap.push (set0 w) } (.ref s.heap.objs.size) "set" := ⟨_, at0, rfl⟩
  have ini := F.called_set.init.lookup
  have bnd := F.called_set.init.bind (.ref s.heap.objs.size)
  repeat (any_goals (first | assumption | wp_step))
  refine codeAny_mono (codeAny_call_builtin (R := wants (fun r s₂ => r = .none ∧ Q (.ref s.heap.objs.size) s₂) E) F.called_set.init.plain F.entry_set_init (check_set_init_1 ty ?_)) fun r s₂ hr => ?_
  · obtain ⟨⟨cl, di, da, sl⟩, ho, hc, k, hd⟩ := hl
    simp only at hc hd
    subst hc hd
    have ho1 : (s.heap.push (set0 w)).get? l = some { cls := .type "list", dict := di, data := .seq items k, slots := sl } := Heap.get?_push_of_some _ ho
    have hl1 : (s.heap.push (set0 w)).IsList l items := ⟨_, ho1, rfl, k, rfl⟩
    have s1 := F.sub_list_set
    have s2 := F.sub_list_frozenset
    have s3 : (Value.type "list" == Value.type "dict") = false := by decide
    have hlS : l < s.heap.objs.size := Heap.lt_size ho
    have sz1 : (s.heap.push (set0 w)).objs.size = s.heap.objs.size + 1 := Heap.size_push ..
    unfold Builtin.«set.__init__» noKeywords Builtin.Frozenset.updateFrom
    generalize hPI : pyIter = PI
    wp_walk
    subst hPI
    refine wpAny_pyIter_list hl1 (wpAny_bind (wpAny_runValue ?_))
    have ne : l ≠ (s.heap.push (set0 w)).objs.size := by rw [sz1]; exact Nat.ne_of_lt (Nat.lt_succ_of_lt hlS)
    have nf : s.heap.objs.size ∉ [(s.heap.push (set0 w)).objs.size, l] := by
      rw [sz1, List.mem_cons, List.mem_singleton, not_or]
      exact ⟨Nat.ne_of_lt (Nat.lt_succ_self _), Nat.ne_of_gt hlS⟩
    have its : ∀ (i : Nat) (v : Value), items[i]? = some v → ∃ k t, ns[i]? = some k ∧ v = .int k t := fun i v hv => by
      have hi : i < ns.length := size ▸ (Array.getElem?_eq_some_iff.mp hv).1
      obtain ⟨t, e⟩ := IntsAre.int_at hit i v (by rw [Array.getElem?_toList]; exact hv)
      exact ⟨ns[i], t, List.getElem?_eq_getElem hi, by rw [e, List.getD_eq_getElem?_getD, List.getElem?_eq_getElem hi]; rfl⟩
    refine set_update_ints (Walks.list (by simp [hh]) _ l ne items).toS _ nf ns size hb its (items.size - 0) 0 _ rfl (Nat.zero_le _) ⟨⟨_, Heap.get?_push_size _ rfl, rfl, rfl⟩, hl1.push _⟩ ⟨0, Nat.le_refl 0, setR_new_at (Heap.get?_push_of_some _ at0)⟩ ?_
    rintro ⟨h', g', d', tk', os'⟩ c hm hc hS
    obtain rfl : g' = s.gens := hm.gens
    obtain rfl : d' = s.drawn := hm.drawn
    obtain rfl : os' = s.os := hm.os
    refine wpAny_pure ?_
    show wpAny _ _ (ret Value.none) _ _ _
    refine wpAny_pure ⟨rfl, h h' tk' c hS (size ▸ hc) fun b o e => ?_⟩
    have hb := Heap.lt_size e
    exact hm.heap b o (by
      rw [sz1, List.mem_cons, List.mem_singleton, not_or]
      exact ⟨Nat.ne_of_lt hb, Nat.ne_of_lt (Nat.lt_succ_of_lt hb)⟩) (Heap.get?_push_of_some _ (Heap.get?_push_of_some _ e))
  · rcases r with e | r
    · exact hr
    cases r <;> first | exact hr.elim | skip
    obtain ⟨rfl, q⟩ := hr
    repeat (any_goals (first | assumption | wp_step))
end
end L2

set_option Elab.async false
set_option linter.all false
set_option maxRecDepth 100000
set_option maxHeartbeats 4000000
/-! PDSet: len(set(xs)), sorted(set(xs)) of ints. -/
namespace PD
open PySem PySem.Spec L2 PDL
/-- into an ascending list, once -/
def insI (i : Int) : List Int → List Int
  | [] => [i]
  | j :: l => if i < j then i :: j :: l else if i = j then j :: l else j :: insI i l
/-- the members, ascending, each once -/
def setI (l : List Int) : List Int := l.foldr insI []
theorem insI_mem {i k : Int} : ∀ {l : List Int}, k ∈ insI i l ↔ k = i ∨ k ∈ l
  | [] => by simp [insI]
  | j :: l => by
    unfold insI
    have ih := insI_mem (i := i) (k := k) (l := l)
    split
    · simp
    · split
      · rename_i h
        subst h
        simp
      · rw [List.mem_cons, ih, List.mem_cons]
        constructor
        · rintro (h | h | h)
          · exact .inr (.inl h)
          · exact .inl h
          · exact .inr (.inr h)
        · rintro (h | h | h)
          · exact .inr (.inl h)
          · exact .inl h
          · exact .inr (.inr h)
theorem insI_asc {i : Int} : ∀ {l : List Int}, l.Pairwise (· < ·) → (insI i l).Pairwise (· < ·)
  | [], _ => by simp [insI]
  | j :: l, h => by
    obtain ⟨h1, h2⟩ := List.pairwise_cons.mp h
    unfold insI
    split
    · rename_i c
      refine List.pairwise_cons.mpr ⟨fun y hy => ?_, h⟩
      rcases List.mem_cons.mp hy with rfl | hy
      · exact c
      · exact Int.lt_trans c (h1 y hy)
    · split
      · exact h
      · rename_i c d
        refine List.pairwise_cons.mpr ⟨fun y hy => ?_, insI_asc h2⟩
        rcases insI_mem.mp hy with rfl | hy
        · omega
        · exact h1 y hy
theorem setI_mem {k : Int} : ∀ {l : List Int}, k ∈ setI l ↔ k ∈ l
  | [] => by simp [setI]
  | j :: l => by
    have ih := setI_mem (k := k) (l := l)
    show k ∈ insI j (setI l) ↔ _
    rw [insI_mem, ih, List.mem_cons]
theorem setI_asc : ∀ l : List Int, (setI l).Pairwise (· < ·)
  | [] => by simp [setI]
  | j :: l => insI_asc (setI_asc l)
theorem asc_nodup {l : List Int} (h : l.Pairwise (· < ·)) : l.Nodup := h.imp fun {a b} h e => by omega
theorem asc_eq : ∀ {l m : List Int}, l.Pairwise (· < ·) → m.Pairwise (· < ·) → (∀ k, k ∈ l ↔ k ∈ m) → l = m
  | [], [], _, _, _ => rfl
  | [], b :: m, _, _, h => absurd ((h b).mpr List.mem_cons_self) (by simp)
  | a :: l, [], _, _, h => absurd ((h a).mp List.mem_cons_self) (by simp)
  | a :: l, b :: m, h1, h2, h => by
    obtain ⟨a1, a2⟩ := List.pairwise_cons.mp h1
    obtain ⟨b1, b2⟩ := List.pairwise_cons.mp h2
    have e : a = b := by
      rcases List.mem_cons.mp ((h a).mp List.mem_cons_self) with e | e
      · exact e
      · rcases List.mem_cons.mp ((h b).mpr List.mem_cons_self) with e' | e'
        · exact e'.symm
        · have := b1 a e
          have := a1 b e'
          omega
    subst e
    rw [asc_eq a2 b2 fun k => ?_]
    have hk := h k
    rw [List.mem_cons, List.mem_cons] at hk
    constructor
    · intro hl
      rcases hk.mp (.inr hl) with rfl | z
      · exact absurd (a1 k hl) (by omega)
      · exact z
    · intro hl
      rcases hk.mpr (.inr hl) with rfl | z
      · exact absurd (b1 k hl) (by omega)
      · exact z
/-- len(set(xs)), sorted(set(xs)) -/
def lenSetL (ds : List D) : M D := match intsL ds with
  | some bs => if bs.length < 64 then .ret (.int ((setI bs).length : Nat)) else .bad
  | none => .bad
def sortSetL (ds : List D) : M D := match intsL ds with
  | some bs => if bs.length < 64 then .ret (.lst ((setI bs).map .int)) else .bad
  | none => .bad
def lenSetM : D → M D
  | .lst ds => lenSetL ds
  | .tup ds => lenSetL ds
  | _ => .bad
def sortSetM : D → M D
  | .lst ds => sortSetL ds
  | .tup ds => sortSetL ds
  | _ => .bad
section
variable {C : Ctx} {ex : Ex} {X : Cx} {a : Expr} {f : Env → M D} {pos p p2 q : Pos}
/-- the set, from a list or a tuple of ints -/
theorem set_made (hK : C.W.K = X.K) (hc : X.calm = true) {pins : List (Addr × Obj)} {σ0 : L2.St} {s : Shared} {v : V} {u : Value} {bs : List Int} {ds : List D} {n : Nat} {env : Env} {ad : Nat → Addr} {σ : L2.St} {I H : Hp} {Q : Value → Shared → Prop} (Iv : Inv X pins σ0 H s) (S : Sim C n env ad σ I H)
    (r : RepM .rd C env ad I H v (.lst ds) ∨ RepM .rd C env ad I H v (.tup ds)) (ru : RelV v u) (e : intsL ds = some bs) (hz : bs.length < 64)
    (h : ∀ (b : Addr) (s' : Shared) (c : Nat), Inv X pins σ0 H s' → SetR X.w s'.heap b (fun j => decide (j ∈ bs)) c → c = (setI bs).length → H b = none → Q (.ref b) s') : wpAny (model X.prog X.w) X.A (call (.type "set") [u]) Q X.xe s := by
  obtain ⟨a, ws, its, rfl, rl, rv, hl, _⟩ := RepM.seq (X := X) hK Iv S r
  obtain rfl : u = Value.ref a := ru
  have ew := rl.intsR e
  subst ew
  have hi : PyProof.Rows.IntsAre its.toArray.toList bs := by simpa using intsAre_of rv
  have fin : ∀ (h' : Heap) (tk c : Nat), SetR X.w h' s.heap.objs.size (fun j => decide (j ∈ bs)) c → c ≤ bs.length → (∀ b o, s.heap.get? b = some o → h'.get? b = some o) → Q (.ref s.heap.objs.size) { s with heap := h', toks := tk } := fun h' tk c hS _ hk => by
    refine h _ _ c (Iv.kept hk) hS ?_ (Iv.hok.fresh (Nat.le_refl _))
    obtain ⟨o, es, ep, t, _, _, _, _, nd, hm, _, _, hn, _⟩ := hS
    have pm : (es.toList.map keyOf).Perm (setI bs) := (List.perm_ext_iff_of_nodup nd (asc_nodup (setI_asc bs))).mpr fun k => by
      rw [setI_mem, ← hm k]
      simp
    have := pm.length_eq
    rw [List.length_map, Array.length_toList] at this
    omega
  rcases hl with hl | hl
  · exact set_of_listI bs (Iv.ok.hd hc) hl hi (by unfold scanBound; omega) fin
  · exact call_set_tupI bs (Iv.ok.hd hc) hl hi (by unfold scanBound; omega) fin
theorem setI_len (bs : List Int) : (setI bs).length ≤ bs.length := by
  have : ∀ (i : Int) (l : List Int), (insI i l).length ≤ l.length + 1 := fun i l => by
    induction l with
    | nil => simp [insI]
    | cons j l ih =>
      unfold insI
      split
      · simp
      · split <;> simp
        omega
  induction bs with
  | nil => simp [setI]
  | cons b bs ih =>
    have h := this b (setI bs)
    show (insI b (setI bs)).length ≤ _
    simp only [List.length_cons]
    omega
/-- set(a) as an argument of a built-in -/
theorem arg_set {m : Md} {o : D → M D} (hg2 : Gl X "set") (hm2 : X.mg "set" = none) (hK : C.W.K = X.K) (hc : X.calm = true) (ha : PM .rd C ex X a f) {pins : List (Addr × Obj)} {s : Shared} {σ : L2.St} {H : Hp} {Q : VK} {R : List Value → Shared → Prop} (Iv : Inv X pins σ H s) (h : tM m C ex (e1 o f) σ H Q)
    (k : ∀ (n1 : Nat) (env : Env) (ad : Nat → Addr) (I I1 H1 : Hp) (d : D) (x : V) (v : Value) (s1 : Shared), Inv X pins σ H1 s1 → Sim C n1 env ad σ I1 H1 → Sub I I1 → SameX C.W.S H H1 → RepM .rd C env ad I1 H1 x d → RelV x v → AllB (o d) n1 (Po m C env ad σ I1 H1 Q) (Pe C ex env ad σ I1 H1) →
      wpAny (model X.prog X.w) X.A (call (.type "set") [v]) (fun u s' => R [u] s') X.xe s1)
    (na : starEach [a] X.env = (false, eval a X.env) :: starEach [] X.env := by rfl) : wpAny (model X.prog X.w) X.A (eval (.Call (.Name "set" p2) [a] [] q) X.env) (fun u s' => R [u] s') X.xe s := by
  obtain ⟨n, env, ad, I, S, q0⟩ := h
  have q0 : AllB (f env >>= o) n (Po m C env ad σ I H Q) (Pe C ex env ad σ I H) := q0
  rw [allB_bind] at q0
  refine PyProof.Rows.Call_ (ld_blt Iv hg2 hm2 PyProof.Rows.boot_set ?_)
  refine PyProof.Rows.callWith_type1 (PyProof.Rows.args_cons (thn (ha.run pins s σ H (fun v H1 => ∃ n1 I1 d, Sim C n1 env ad σ I1 H1 ∧ Sub I I1 ∧ SameX C.W.S H H1 ∧ RepM .rd C env ad I1 H1 v d ∧ AllB (o d) n1 (Po m C env ad σ I1 H1 Q) (Pe C ex env ad σ I1 H1)) Iv ⟨n, env, ad, I, S, q0.mono (fun n1 d q1 v I1 H1 s1 i1 x1 r1 => ⟨n1, I1, d, s1, i1, x1, r1, q1.mono (fun _ _ k => k.mono i1 x1) fun _ _ _ k => k.mono i1 x1⟩) fun _ _ _ k => k⟩) fun v s1 ⟨x, H1, Iv1, r1, n1, I1, d, S1, i1, x1, rd, q1⟩ => PyProof.Rows.args_nil ?_) na) na rfl
  exact k n1 env ad I I1 H1 d x v s1 Iv1 S1 i1 x1 rd r1 q1
theorem pm_lenSet (hK : C.W.K = X.K) (hc : X.calm = true) (hg : Gl X "len") (hm : X.mg "len" = none) (hg2 : Gl X "set") (hm2 : X.mg "set" = none) (ha : PM .rd C ex X a f)
    (na : starEach [a] X.env = (false, eval a X.env) :: starEach [] X.env := by rfl) : PM .val C ex X (.Call (.Name "len" p) [.Call (.Name "set" p2) [a] [] q] [] pos) (e1 lenSetM f) := by
  refine ⟨fun pins s σ H Q Iv h => ?_⟩
  refine PyProof.Rows.Call_ (ld_blt Iv hg hm PySem.boot_len (PyProof.Rows.callWith_builtin1 (PyProof.Rows.args_cons (wpAny_mono (arg_set (R := fun us s' => wpAny (model X.prog X.w) X.A (call (.builtin "len") us) (EP X pins σ Q) X.xe s') hg2 hm2 hK hc ha Iv h (fun n1 env ad I I1 H1 d x v s1 Iv1 S1 i1 x1 rd r1 q1 => ?_) na) (fun u s' z => PyProof.Rows.args_nil z) fun _ _ z => z) rfl) rfl rfl))
  have key : ∀ ds, RepM .rd C env ad I1 H1 x (.lst ds) ∨ RepM .rd C env ad I1 H1 x (.tup ds) → AllB (lenSetL ds) n1 (Po .val C env ad σ I1 H1 Q) (Pe C ex env ad σ I1 H1) → wpAny (model X.prog X.w) X.A (call (.type "set") [v]) (fun u s' => wpAny (model X.prog X.w) X.A (call (.builtin "len") [u]) (EP X pins σ Q) X.xe s') X.xe s1 := fun ds rr q1 => by
    unfold lenSetL at q1
    cases e : intsL ds with
    | none => rw [e] at q1; exact False.elim q1
    | some bs =>
      rw [e] at q1
      obtain ⟨hz, q1⟩ := allB_ite q1
      refine set_made hK hc Iv1 S1 rr r1 e hz fun b s2 c Iv2 hS hcn _ => ?_
      obtain ⟨o, es, ep, t, ho, hex, hd, _, _, _, _, hf, hn, _⟩ := hS
      have hl := setI_len bs
      exact call_len_set ho hex hd hf (by rw [hn, hcn]; omega) ⟨.int ((setI bs).length : Nat), H1, Iv2.tok _, ⟨_, by rw [hn, hcn]⟩, (show Po .val C env ad σ I1 H1 Q n1 _ from q1) _ I1 H1 S1 (Sub.refl _) (SameX.refl _) (Rep.int _)⟩
  cases d <;> first | exact False.elim q1 | skip
  · exact key _ (.inr rd) q1
  · exact key _ (.inl rd) q1
theorem pm_sortSet (hK : C.W.K = X.K) (hc : X.calm = true) (hg : Gl X "sorted") (hm : X.mg "sorted" = none) (hg2 : Gl X "set") (hm2 : X.mg "set" = none) (ha : PM .rd C ex X a f)
    (na : starEach [a] X.env = (false, eval a X.env) :: starEach [] X.env := by rfl) : PM .fr C ex X (.Call (.Name "sorted" p) [.Call (.Name "set" p2) [a] [] q] [] pos) (e1 sortSetM f) := by
  refine ⟨fun pins s σ H Q Iv h => ?_⟩
  refine PyProof.Rows.Call_ (ld_blt Iv hg hm PyProof.Rows.boot_sorted (PyProof.Rows.callWith_builtin1 (PyProof.Rows.args_cons (wpAny_mono (arg_set (R := fun us s' => wpAny (model X.prog X.w) X.A (call (.builtin "sorted") us) (EP X pins σ Q) X.xe s') hg2 hm2 hK hc ha Iv h (fun n1 env ad I I1 H1 d x v s1 Iv1 S1 i1 x1 rd r1 q1 => ?_) na) (fun u s' z => PyProof.Rows.args_nil z) fun _ _ z => z) rfl) rfl rfl))
  have key : ∀ ds, RepM .rd C env ad I1 H1 x (.lst ds) ∨ RepM .rd C env ad I1 H1 x (.tup ds) → AllB (sortSetL ds) n1 (Po .fr C env ad σ I1 H1 Q) (Pe C ex env ad σ I1 H1) → wpAny (model X.prog X.w) X.A (call (.type "set") [v]) (fun u s' => wpAny (model X.prog X.w) X.A (call (.builtin "sorted") [u]) (EP X pins σ Q) X.xe s') X.xe s1 := fun ds rr q1 => by
    unfold sortSetL at q1
    cases e : intsL ds with
    | none => rw [e] at q1; exact False.elim q1
    | some bs =>
      rw [e] at q1
      obtain ⟨hz, q1⟩ := allB_ite q1
      refine set_made hK hc Iv1 S1 rr r1 e hz fun b s2 c Iv2 hS hcn hb => ?_
      have hl := setI_len bs
      refine sorted_set hS (Iv2.ok.hd hc) (by omega) fun s3 p3 out c3 ns hk hg3 ho3 hp3 hget hi has hmem hlen => ?_
      have en : ns = setI bs := asc_eq has (setI_asc bs) fun k => by rw [hmem k, setI_mem]; simp
      subst en
      have hd0 : H1 p3 = none := Iv2.hok.fresh hp3
      have J : Inv X pins σ (upd H1 p3 (.lst ((setI bs).map V.int))) { s2 with heap := s3.heap, gens := s3.gens, drawn := s3.drawn, toks := s3.toks } :=
        Iv2.call (ch := []) (Un.laid hk hp3 hd0) (Iv2.hok.laid hk hp3 ⟨by rw [List.length_map, sizeLine_eq]; omega, out.toList, c3, vals_of_ints hi, hget⟩) (by rw [hg3]; exact Iv2.bare) (fun _ z => nomatch z)
      have es : s3 = { s2 with heap := s3.heap, gens := s3.gens, drawn := s3.drawn, toks := s3.toks } := by
        cases s3
        cases s2
        cases ho3
        rfl
      rw [es]
      exact ⟨.ref p3, _, J, rfl, (show Po .fr C env ad σ I1 H1 Q n1 (.lst ((setI bs).map .int)) from q1) _ I1 _ (S1.laid' hd0) (Sub.refl _) (SameX.upd hd0) (S1.new hd0 (RepL.ofInts _))⟩
  cases d <;> first | exact False.elim q1 | skip
  · exact key _ (.inr rd) q1
  · exact key _ (.inl rd) q1
end
end PD

set_option Elab.async false
set_option linter.all false
set_option maxRecDepth 100000
set_option maxHeartbeats 4000000
/-! PDDc: dict comprehensions. -/
namespace PD
open PySem PySem.Spec L2 PDL
/-- the turns: keys and values, one after the other into the dict -/
def compDM (tg : D → Env → Option Env) (ft : Env → M Bool) (fk fv : Env → M D) (e : Env) : List D → List (D × D) → M (List (D × D))
  | [], acc => .ret acc
  | d :: ds, acc => match tg d e with
    | none => .bad
    | some e' => ft e' >>= fun b => if b then fk e' >>= fun y => fv e' >>= fun z => match keyD y with
      | some k => if acc.length < line then compDM tg ft fk fv e ds (putKD acc k z) else .bad
      | none => .bad else compDM tg ft fk fv e ds acc
def eDComp (vs : List Nat) (fi : Env → M (List D)) (tg : D → Env → Option Env) (ft : Env → M Bool) (fk fv : Env → M D) : Env → M D := fun e =>
  fi e >>= fun ds => if (vs.any fun i => (e[i]?).any isOwn) = false then noR (compDM tg ft fk fv (borE (wipeE e vs)) ds []) >>= fun ys => .ret (.dct ys) else .bad
section
variable {J : It} {n : Nat} {G : Hp → Prop} {Y : Nat → Hp → V → Hp → Prop}
theorem dc_it (w : Walk J n G Y) {g : TG} {tt : TT} {tk tv : TE} {vs : List Nat} {σ : L2.St} {H1 : Hp} {D : Addr} {Qd : Hp → Prop} (Pv : Nat → Hp → Prop) (h0 : Pv 0 (upd H1 D (.dK []))) (hG : ∀ i H, i ≤ n → Pv i H → G H)
    (hs : ∀ i x H H', i < n → Pv i H → Y i H x H' → g x (L2.wipe σ vs) H' fun σ2 H2 => L2.wipe σ2 vs = L2.wipe σ vs ∧ tt σ2 H2 fun b H3 =>
      if b = true then tk σ2 H3 fun y H4 => tv σ2 H4 fun z H5 => ∃ kvs k, y = kV k ∧ H5 D = some (.dK kvs) ∧ kvs.length < sizeLine ∧ Pv (i + 1) (upd H5 D (.dK (putK kvs k z))) else Pv (i + 1) H3) (hd : ∀ H, Pv n H → Qd H) :
    ∃ W : Nat → Nat → Hp → Prop, (∃ m, W 0 m (upd H1 D (.dK []))) ∧ ∀ i m H, W i m H →
      (J.stop i H ∧ Qd H) ∨ (J.go i H ∧ ∃ Nx : Hp → Prop, (∀ H', Nx H' → ∃ m', m' < m ∧ W (i + 1) m' H') ∧ ∀ x H', J.yld i H x H' → g x (L2.wipe σ vs) H' fun σ2 H2 => L2.wipe σ2 vs = L2.wipe σ vs ∧ tt σ2 H2 fun b H3 =>
        if b = true then tk σ2 H3 fun y H4 => tv σ2 H4 fun z H5 => ∃ kvs k, y = kV k ∧ H5 D = some (.dK kvs) ∧ kvs.length < sizeLine ∧ Nx (upd H5 D (.dK (putK kvs k z))) else Nx H3) := by
  refine ⟨fun i m H => m = n - i ∧ i ≤ n ∧ Pv i H, ⟨n, by simp, Nat.zero_le _, h0⟩, ?_⟩
  rintro i m H ⟨rfl, hi, p⟩
  have q := hG i H hi p
  by_cases c : i < n
  · exact .inr ⟨w.goes i H c q, Pv (i + 1), fun H' p' => ⟨n - (i + 1), by omega, rfl, c, p'⟩, fun x H' y => hs i x H H' c p (w.yields i H x H' c q y)⟩
  · obtain rfl : i = n := by omega
    exact .inl ⟨w.stops H q, hd H p⟩
end
section
variable {C : Ctx} {ex : Ex} {X : Cx} {e : Expr} {f g : Env → M D} {pos : Pos}
theorem tDc_of {fi : Env → M (List D)} {tgt : D → Env → Option Env} {js vs : List Nat} {ft : Env → M Bool} {fk fv : Env → M D} (hj : ∀ j ∈ js, j ∈ vs) {σ : L2.St} {H : Hp} {Q : VK} (q : tM .fr C ex (eDComp vs fi tgt ft fk fv) σ H Q) :
    tDc (tI C ex fi) (aG C.W tgt js) (aT C.W ft) (aE C.W .val fk) (aE C.W .val fv) vs σ H Q := by
  obtain ⟨n, env, ad, I, S, q⟩ := q
  have q : AllB (fi env >>= fun ds => if (vs.any fun i => (env[i]?).any isOwn) = false then noR (compDM tgt ft fk fv (borE (wipeE env vs)) ds []) >>= fun ys => .ret (D.dct ys) else .bad) n (Po .fr C env ad σ I H Q) (Pe C ex env ad σ I H) := q
  rw [allB_bind] at q
  refine ⟨n, env, ad, I, S, q.mono (fun n1 ds q1 => ?_) fun _ _ _ k => k⟩
  intro J I1 H1 S1 i1 x1 ⟨G, Y, w, hG, hY⟩ D0 hD
  obtain ⟨ho, q1⟩ := allB_ite q1
  rw [allB_bind] at q1
  have q1 := allB_noR (E' := noE) q1
  have hN0 := S1.src.none_ne hD
  have hI0 := S1.none_I hD
  have hB0 := S1.none_B hD
  have hown : ∀ (i : Nat) (d : D), env[i]? = some (Slot.own d) → ad i ≠ D0 := fun i d h => by
    obtain ⟨_, h2, _⟩ := S1.so i d h
    obtain ⟨u, hu⟩ := h2.there
    exact ne_of_none hu hD
  have hnv : ∀ (i : Nat) (d : D), env[i]? = some (Slot.own d) → i ∉ vs := fun i d h hi => by
    have := List.any_eq_false.mp ho i hi
    rw [h] at this
    exact this rfl
  refine dc_it w (fun i H2 => ∃ n2 I2 acc ys, Sim C n2 (wipeE env vs) ad (L2.wipe σ vs) I2 H2 ∧ Sub I1 I2 ∧ SameX C.W.S H1 H2 ∧ H2 D0 = some (.dK acc) ∧ RepK C.W I2 acc ys ∧ I2 D0 = none ∧
    AllB (compDM tgt ft fk fv (borE (wipeE env vs)) (ds.drop i) ys) n2 (fun n' zs => Po .fr C env ad σ I H Q n' (.dct zs)) noE)
    ⟨n1, I1, [], [], (S1.wipe vs).write hI0 hB0 hN0 fun i d h => hown i d (wipeE_own h), Sub.refl _, SameX.upd hD, upd_same, .nil, hI0, by
      rw [List.drop_zero]
      exact q1⟩ (fun i H2 _ ⟨n2, I2, acc, ys, S2, i2, _⟩ => hG _ _ _ _ _ _ S2 i2) ?_ ?_
  · rintro i x H2 H2' hi ⟨n2, I2, acc, ys, S2, i2, x2, hD2, r2, hI2, q2⟩ y
    obtain ⟨I3, S3, i3, x3, nw3, d, hd, r⟩ := hY i H2 x H2' n2 _ ad _ I2 hi S2 i2 y
    have e : ds.drop i = d :: ds.drop (i + 1) := by
      rw [List.drop_eq_getElem_cons hi]
      congr 1
      rw [List.getElem?_eq_getElem hi] at hd
      exact Option.some.inj hd
    rw [e] at q2
    have q2 : AllB (match tgt d (borE (wipeE env vs)) with | none => M.bad | some e' => ft e' >>= fun b => if b then fk e' >>= fun y => fv e' >>= fun z => (match keyD y with | some k => if ys.length < line then compDM tgt ft fk fv (borE (wipeE env vs)) (ds.drop (i + 1)) (putKD ys k z) else .bad | none => .bad) else compDM tgt ft fk fv (borE (wipeE env vs)) (ds.drop (i + 1)) ys) n2 (fun n' zs => Po .fr C env ad σ I H Q n' (.dct zs)) noE := q2
    have hI3 : I3 D0 = none := by
      cases e : I3 D0 with
      | none => rfl
      | some u =>
        rcases nw3 _ _ e with h | h
        · rw [hI2] at h; cases h
        · rw [hD2] at h; cases h
    cases ht : tgt d (borE (wipeE env vs)) with
    | none => rw [ht] at q2; exact False.elim q2
    | some env3 =>
      rw [ht] at q2
      have q2 : AllB (ft env3 >>= fun b => if b then fk env3 >>= fun y => fv env3 >>= fun z => (match keyD y with | some k => if ys.length < line then compDM tgt ft fk fv (borE (wipeE env vs)) (ds.drop (i + 1)) (putKD ys k z) else .bad | none => .bad) else compDM tgt ft fk fv (borE (wipeE env vs)) (ds.drop (i + 1)) ys) n2 (fun n' zs => Po .fr C env ad σ I H Q n' (.dct zs)) noE := q2
      rw [allB_bind] at q2
      have hD3 : H2' D0 = some (.dK acc) := x3 _ _ hN0 hD2
      refine ⟨H2', I3, n2, _, ad, I3, d, env3, S3.inner, r, ht, fun σ4 S4 b4 => ⟨wipe_but hj b4, H2', I3, n2, env3, ad, I3, S4, q2.mono (fun n5 b q5 => ?_) fun _ _ _ z => z.elim⟩⟩
      intro I5 H5 S5 i5 x5
      have i15 : Sub I1 I5 := (i2.trans i3).trans i5
      have x15 : SameX C.W.S H1 H5 := (x2.trans x3).trans x5
      have hD5 : H5 D0 = some (.dK acc) := x5 _ _ hN0 hD3
      cases b with
      | false =>
        rw [if_neg Bool.false_ne_true] at q5 ⊢
        exact ⟨n5, I5, acc, ys, S3.ret S5, i15, x15, hD5, r2.mono (i3.trans i5), S5.none_in (n1 := 0) hI3 hD3, q5⟩
      | true =>
        rw [if_pos rfl] at q5 ⊢
        rw [allB_bind] at q5
        refine ⟨H2', I3, n5, env3, ad, I5, S5, q5.mono (fun n6 yd q6 => ?_) fun _ _ _ z => z.elim⟩
        intro v6 I6 H6 S6 i6 x6 r6
        rw [allB_bind] at q6
        refine ⟨H2', I3, n6, env3, ad, I6, S6, q6.mono (fun n7 zd q7 => ?_) fun _ _ _ z => z.elim⟩
        intro v7 I7 H7 S7 i7 x7 r7
        cases hk : keyD yd with
        | none => rw [hk] at q7; exact False.elim q7
        | some k =>
          rw [hk] at q7
          obtain ⟨hl, q7⟩ := allB_ite q7
          have r6 : Rep C.W I6 v6 yd := r6
          have ev : v6 = kV k := (RepM.val_of (C := C) (env := env) (ad := ad) (H := H6) r6).key hk
          have hD7 : H7 D0 = some (.dK acc) := x7 _ _ hN0 (x6 _ _ hN0 hD5)
          have hI7 : I7 D0 = none := S7.none_in (n1 := 0) hI3 hD3
          refine ⟨acc, k, ev, hD7, by rw [RepK.length r2, ← line_eq]; exact hl, n7, I7, putK acc k v7, putKD ys k zd, (S3.ret S7).write hI7 hB0 hN0 fun i d h => hown i d (wipeE_own h), (i15.trans i6).trans i7, fun b u hb e => ?_, upd_same, (r2.mono (i3.trans (i5.trans (i6.trans i7)))).put r7, hI7, q7⟩
          rw [upd_ne (ne_of_none e hD)]
          exact ((x15.trans x6).trans x7) b u hb e
  · rintro H2 ⟨n2, I2, acc, ys, S2, i2, x2, hD2, r2, hI2, q2⟩
    rw [List.drop_length] at q2
    have q2 : Po .fr C env ad σ I H Q n2 (.dct ys) := q2
    have Sb := S1.back S2 i2 x2 fun i d h => by
      have h' : (wipeE env vs)[i]? = some (Slot.own d) := by rw [wipeE_out (hnv i d h)]; exact h
      exact (S2.so i d h').2.2.2.1
    exact q2 _ I2 H2 Sb (i1.trans i2) (x1.trans x2) ⟨D0, rfl, hN0, ⟨acc, hD2, r2⟩, hI2, hB0, hown⟩
section
variable {kx vx tg iter : Expr} {ifs : List Expr} {scope : Scope} {own : List (Str × Nat)} {fi : Env → M (List D)} {tgt : D → Env → Option Env} {js : List Nat} {ft : Env → M Bool} {fk fv : Env → M D}
theorem pm_dc (hc : X.calm = true) (hN : X.N.Nodup) (hi : PMI C ex X tg iter fi) (ok : BlkOk X.N X.env.scope scope own)
    (hg : ∀ (s : Shared) (H : Hp) (Ca : Addr) (cl : List (Str × Addr)) (fp : List Addr) B I0, PMG ⟨C.W, B, I0⟩ (X.blk s H scope (compEnvC scope cl Ca X.env) fp) tg tgt js) (ht : ∀ (s : Shared) (H : Hp) (Ca : Addr) (cl : List (Str × Addr)) (fp : List Addr) B I0, PMTs ⟨C.W, B, I0⟩ exNo (X.blk s H scope (compEnvC scope cl Ca X.env) fp) ifs ft)
    (hk : ∀ (s : Shared) (H : Hp) (Ca : Addr) (cl : List (Str × Addr)) (fp : List Addr) B I0, PM .val ⟨C.W, B, I0⟩ exNo (X.blk s H scope (compEnvC scope cl Ca X.env) fp) kx fk)
    (hv : ∀ (s : Shared) (H : Hp) (Ca : Addr) (cl : List (Str × Addr)) (fp : List Addr) B I0, PM .val ⟨C.W, B, I0⟩ exNo (X.blk s H scope (compEnvC scope cl Ca X.env) fp) vx fv) (hj : (js.all fun j => (own.map (·.2)).contains j) = true := by rfl) (hs : ∀ x, foldedSetIterable iter X.env x = pure x := by intro _; rfl) :
    PM .fr C ex X (.DictComp kx vx [⟨tg, iter, ifs, 0⟩] scope pos) (eDComp (own.map (·.2)) fi tgt ft fk fv) :=
  PE_imp (pe_dc hc hN hi ok (fun s H Ca cl fp => pg_any (hg s H Ca cl fp)) (fun s H Ca cl fp => pts_any (ht s H Ca cl fp)) (fun s H Ca cl fp => pe_any (hk s H Ca cl fp)) (fun s H Ca cl fp => pe_any (hv s H Ca cl fp)) hs) fun σ H Q q => tDc_of (fun j h => by simpa using List.all_eq_true.mp hj j h) q
/-- name = {..} on one line, the name a local -/
theorem ps_setDc {i : Nat} {y : Str} {py spos : Pos} {wi : TI} {g : TG} {tt : TT} {tk tv : TE} (hc : X.calm = true) (hN : X.N.Nodup) (hy : X.N[i]? = some y) (hyl : X.env.scope.names.lookup y = some .local)
    (hsw : swapsWith (.DictComp kx vx [⟨tg, iter, ifs, 0⟩] scope pos) (some (.Name y py)) spos.line X.env = pure true) (hi : PI X tg iter wi) (ok : BlkOk X.N X.env.scope scope own)
    (hg : ∀ (s : Shared) (H : Hp) (C : Addr) (cl : List (Str × Addr)) (fp : List Addr), PG (X.blk s H scope (compEnvC scope cl C X.env) fp) tg g) (ht : ∀ (s : Shared) (H : Hp) (C : Addr) (cl : List (Str × Addr)) (fp : List Addr), PTs (X.blk s H scope (compEnvC scope cl C X.env) fp) ifs tt)
    (hk : ∀ (s : Shared) (H : Hp) (C : Addr) (cl : List (Str × Addr)) (fp : List Addr), PE (X.blk s H scope (compEnvC scope cl C X.env) fp) kx tk)
    (he : ∀ (s : Shared) (H : Hp) (C : Addr) (cl : List (Str × Addr)) (fp : List Addr), PE (X.blk s H scope (compEnvC scope cl C X.env) fp) vx tv) (hs : ∀ x, foldedSetIterable iter X.env x = pure x := by intro _; rfl) :
    PS X (.Assign [.Name y py] (.DictComp kx vx [⟨tg, iter, ifs, 0⟩] scope pos) spos) (tAsg (tDc wi g tt tk tv (own.map (·.2))) (gName i)) := by
  refine ⟨fun pins s σ H D I h => ?_⟩
  have h : tDc wi g tt tk tv (own.map (·.2)) σ H (fun x H1 => gName i x σ H1 D.nx) := h
  rw [exec_Assign_Name_used _ _ _ _ hsw]
  refine wpAny_bind (wpAny_standAt (wpAny_bind (wpAny_bind (thn (dc_core (Qf := fun _ s' => SP X pins D .next s') (use := some (assign (.Name y py) X.env)) hc hN I hi ok hg ht hk he hs h fun L C s' m H' I' q hn f => ?_) fun _ s' hq => wpAny_pure (wpAny_pure hq)))))
  obtain ⟨f0, f1, f2, f3, f4, f5⟩ := f
  refine wpAny_assign_Name (store_ok2 (v := V.ref L) I' hN hy (.inl hyl) rfl (fun s2 I2 ⟨a, sb, ha⟩ => ⟨m, hn.sameBut sb ?_, fun h3 sb3 => ⟨_, H', I2.turned (t' := s2.toks) (fun b o hb e => (sb3.2 b hb).trans e) f0 f1 f3 f4 f5, q⟩⟩) (.inr hyl))
  rcases ha with z | z
  · rw [z]; exact f1
  · exact fun e => f4 y a z e.symm
theorem sw_trueD {gs : List Comprehension} {py : Pos} {y : Str} {l : Nat} {env : PySem.Env} (hk : env.scope.kind = .function) (hy : env.scope.names.lookup y = some .local) (hl : (py.line == pos.line) = true)
    (ha : (scope.names.any fun (n, k) => n == y && (k == .local || k == .cell)) = false) : swapsWith (.DictComp kx vx gs scope pos) (some (.Name y py)) l env = pure true := by
  have ky : env.kindOf y = some .local := hy
  have kb : env.blockKind = .function := by unfold PySem.Env.blockKind; rw [hk]; rfl
  simp only [swapsWith, kb, ky, ha, Expr.pos, hl]
  rfl
variable {i : Nat} {y : Str} {py spos : Pos}
theorem ms_setDcO (hc : X.calm = true) (hN : X.N.Nodup) (hy : X.N[i]? = some y) (hyl : X.env.scope.names.lookup y = some .local)
    (hsw : swapsWith (.DictComp kx vx [⟨tg, iter, ifs, 0⟩] scope pos) (some (.Name y py)) spos.line X.env = pure true) (hi : PMI C ex X tg iter fi) (ok : BlkOk X.N X.env.scope scope own)
    (hg : ∀ (s : Shared) (H : Hp) (Ca : Addr) (cl : List (Str × Addr)) (fp : List Addr) B I0, PMG ⟨C.W, B, I0⟩ (X.blk s H scope (compEnvC scope cl Ca X.env) fp) tg tgt js) (ht : ∀ (s : Shared) (H : Hp) (Ca : Addr) (cl : List (Str × Addr)) (fp : List Addr) B I0, PMTs ⟨C.W, B, I0⟩ exNo (X.blk s H scope (compEnvC scope cl Ca X.env) fp) ifs ft)
    (hk : ∀ (s : Shared) (H : Hp) (Ca : Addr) (cl : List (Str × Addr)) (fp : List Addr) B I0, PM .val ⟨C.W, B, I0⟩ exNo (X.blk s H scope (compEnvC scope cl Ca X.env) fp) kx fk)
    (hv : ∀ (s : Shared) (H : Hp) (Ca : Addr) (cl : List (Str × Addr)) (fp : List Addr) B I0, PM .val ⟨C.W, B, I0⟩ exNo (X.blk s H scope (compEnvC scope cl Ca X.env) fp) vx fv) (hj : (js.all fun j => (own.map (·.2)).contains j) = true := by rfl) (hs : ∀ x, foldedSetIterable iter X.env x = pure x := by intro _; rfl) :
    PMS C ex X (.Assign [.Name y py] (.DictComp kx vx [⟨tg, iter, ifs, 0⟩] scope pos) spos) (sSetO i (eDComp (own.map (·.2)) fi tgt ft fk fv)) :=
  PS_imp (ps_setDc hc hN hy hyl hsw hi ok (fun s H Ca cl fp => pg_any (hg s H Ca cl fp)) (fun s H Ca cl fp => pts_any (ht s H Ca cl fp)) (fun s H Ca cl fp => pe_any (hk s H Ca cl fp)) (fun s H Ca cl fp => pe_any (hv s H Ca cl fp)) hs) fun Dn σ H q => tDc_of (fun j h => by simpa using List.all_eq_true.mp hj j h) (asgO q)
theorem ms_setDc (hc : X.calm = true) (hN : X.N.Nodup) (hy : X.N[i]? = some y) (hyl : X.env.scope.names.lookup y = some .local)
    (hsw : swapsWith (.DictComp kx vx [⟨tg, iter, ifs, 0⟩] scope pos) (some (.Name y py)) spos.line X.env = pure true) (hi : PMI C ex X tg iter fi) (ok : BlkOk X.N X.env.scope scope own)
    (hg : ∀ (s : Shared) (H : Hp) (Ca : Addr) (cl : List (Str × Addr)) (fp : List Addr) B I0, PMG ⟨C.W, B, I0⟩ (X.blk s H scope (compEnvC scope cl Ca X.env) fp) tg tgt js) (ht : ∀ (s : Shared) (H : Hp) (Ca : Addr) (cl : List (Str × Addr)) (fp : List Addr) B I0, PMTs ⟨C.W, B, I0⟩ exNo (X.blk s H scope (compEnvC scope cl Ca X.env) fp) ifs ft)
    (hk : ∀ (s : Shared) (H : Hp) (Ca : Addr) (cl : List (Str × Addr)) (fp : List Addr) B I0, PM .val ⟨C.W, B, I0⟩ exNo (X.blk s H scope (compEnvC scope cl Ca X.env) fp) kx fk)
    (hv : ∀ (s : Shared) (H : Hp) (Ca : Addr) (cl : List (Str × Addr)) (fp : List Addr) B I0, PM .val ⟨C.W, B, I0⟩ exNo (X.blk s H scope (compEnvC scope cl Ca X.env) fp) vx fv) (hj : (js.all fun j => (own.map (·.2)).contains j) = true := by rfl) (hs : ∀ x, foldedSetIterable iter X.env x = pure x := by intro _; rfl) :
    PMS C ex X (.Assign [.Name y py] (.DictComp kx vx [⟨tg, iter, ifs, 0⟩] scope pos) spos) (sSet i (eDComp (own.map (·.2)) fi tgt ft fk fv)) :=
  PS_imp (ps_setDc hc hN hy hyl hsw hi ok (fun s H Ca cl fp => pg_any (hg s H Ca cl fp)) (fun s H Ca cl fp => pts_any (ht s H Ca cl fp)) (fun s H Ca cl fp => pe_any (hk s H Ca cl fp)) (fun s H Ca cl fp => pe_any (hv s H Ca cl fp)) hs) fun Dn σ H q => tDc_of (fun j h => by simpa using List.all_eq_true.mp hj j h) (asgV q)
end
end
end PD

set_option Elab.async false
set_option linter.all false
set_option maxRecDepth 100000
set_option maxHeartbeats 4000000
/-! PDUse: what a printed text uses of methods and own operations. -/
namespace PD
open PySem PySem.Spec L2 PDL
/-- a block within a block -/
theorem lookup_rel {g : Str × NameKind → Str × NameKind} (hg : ∀ n k, g (n, k) = (n, k) ∨ (k = .free ∧ g (n, k) = (n, .cell))) {x : Str} : ∀ {names : List (Str × NameKind)}, names.lookup x = some .cell ∨ names.lookup x = some .free → (names.map g).lookup x = some .cell ∨ (names.map g).lookup x = some .free
  | [], h => by simp at h
  | (n, k) :: r, h => by
    have ih := @lookup_rel g hg x r
    rw [List.map_cons]
    rw [List.lookup_cons] at h
    by_cases e : x = n
    · subst e
      rw [beq_self_eq_true] at h
      have h : some k = some NameKind.cell ∨ some k = some NameKind.free := h
      rcases hg x k with e | ⟨_, e⟩ <;> rw [e, List.lookup_cons, beq_self_eq_true]
      · exact h
      · exact .inl rfl
    · have en : (x == n) = false := beq_false_of_ne e
      rw [en] at h
      rcases hg n k with e | ⟨_, e⟩ <;> rw [e, List.lookup_cons, en] <;> exact ih h
theorem blkOk_rel {N : List Str} {sc scope : Scope} {own : List (Str × Nat)} {env : PySem.Env} (h : blkC N sc scope own = true) : BlkOk N (relabel sc env) scope own := by
  have b := blkOk_by h
  refine ⟨b.kind, b.uniq, b.ix, fun y hy e => lookup_rel (fun n k => ?_) (b.free y hy e), b.own⟩
  by_cases c : (k == NameKind.free && env.scope.kind == .function && env.kindOf n == some .cell) = true
  · refine .inr ⟨?_, by simp only [c, if_true]⟩
    simp only [Bool.and_eq_true] at c
    have := c.1.1
    cases k <;> first | rfl | cases this
  · exact .inl (by simp only [c]; rfl)
theorem oneC {P : Nat → Prop} {c : Nat} (h : P c) : ∀ x ∈ [c], P x := fun x hx => by
  obtain rfl := List.mem_singleton.mp hx
  exact h
section
variable {P : Program} {w : World} {K : PySem.W.Frag} {mg : Str → Option Value} {base : Heap} {S : Option (Addr × Addr)} {me : Option Addr}
def kMethC (ns : Ns) (c : Nat) (m : Str) : Ck := fun K => kMeth ns c m K && clsB K (cAt ns K c)
theorem methOk {ns : Ns} {c : Nat} {m : Str} {ps : List Str} {k : Nat} {sp : Sp} {fd : FuncData} (h : kMethC ns c m K = true) (G : FnG P w K mg base (L2.CX P w) k (He.ma K (cAt ns K c) m) fd ps sp) (b : L2.Binds K fd ps []) : MethOk P w K mg base m ps k (cAt ns K c) sp := by
  obtain ⟨h1, h2⟩ := Bool.and_eq_true_iff.mp h
  exact ⟨_, fd, G, clsB_ok h2, kMeth_ok h1, b⟩
def kSelf (ns : Ns) (c : Nat) : Ck := fun K => PySem.W.selfFirst K (cAt ns K c)
def kNe (ns : Ns) (c : Nat) : Ck := fun K => He.eqO (PySem.W.findIn K (.ref (cAt ns K c)) "__ne__") (some (some (.builtin "object.__ne__"))) && decide (PySem.W.mroIn K (cAt ns K c) (.type "object") = some true)
theorem kNe_ok {ns : Ns} {c : Nat} (h : kNe ns c K = true) : PySem.W.findIn K (.ref (cAt ns K c)) "__ne__" = some (some (.builtin "object.__ne__")) ∧ PySem.W.mroIn K (cAt ns K c) (.type "object") = some true := by
  obtain ⟨h1, h2⟩ := Bool.and_eq_true_iff.mp h
  exact ⟨He.eqO_ok h1, of_decide_eq_true h2⟩
def kitNF (ns : Ns) (c : Nat) : PySem.W.Frag → Value → Option Bool := fun K t => some (!PySem.W.notFirst K (cAt ns K c) t)
end
end PD

set_option Elab.async false
set_option linter.all false
set_option maxRecDepth 100000
set_option maxHeartbeats 4000000
/-! PDLc2: comprehensions with two fors. -/
namespace PD
open PySem PySem.Spec L2 PDL
def vOf : Slot → Slot
  | .v d => .v d
  | _ => .no
/-- the slots js of the second, the others of the first -/
def mergeE (js : List Nat) : Nat → Env → Env → Env
  | k, s :: e, s' :: e' => (if js.contains k then vOf s' else s) :: mergeE js (k + 1) e e'
  | _, _, _ => []
def compM2 (js : List Nat) (tg : D → Env → Option Env) (ft : Env → M Bool) (fi1 : Env → M (List D)) (tg1 : D → Env → Option Env) (ft1 : Env → M Bool) (fe : Env → M D) (vs1 : List Nat) (e : Env) : List D → List D → M (List D)
  | [], acc => .ret acc
  | d :: ds, acc => match tg d e with
    | none => .bad
    | some e' => ft e' >>= fun b => if b then fi1 e' >>= fun ds1 => if acc.length + ds1.length ≤ line then compM tg1 ft1 fe (borE (wipeE (mergeE js 0 e e') vs1)) ds1 >>= fun ys => compM2 js tg ft fi1 tg1 ft1 fe vs1 e ds (acc ++ ys) else .bad else compM2 js tg ft fi1 tg1 ft1 fe vs1 e ds acc
def eComp2 (vs js vs1 : List Nat) (fi : Env → M (List D)) (tg : D → Env → Option Env) (ft : Env → M Bool) (fi1 : Env → M (List D)) (tg1 : D → Env → Option Env) (ft1 : Env → M Bool) (fe : Env → M D) : Env → M D := fun e =>
  fi e >>= fun ds => if (vs.any fun i => (e[i]?).any isOwn) = false then noR (compM2 js tg ft fi1 tg1 ft1 fe vs1 (borE (wipeE e vs)) ds []) >>= fun ys => .ret (.lst ys) else .bad
section
variable {J : It} {n : Nat} {G : Hp → Prop} {Y : Nat → Hp → V → Hp → Prop}
/-- a walk, by what holds ahead of each turn -/
theorem it_any (w : Walk J n G Y) {H0 : Hp} {Qd : Hp → Prop} (R : (Hp → Prop) → V → Hp → Prop) (Pv : Nat → Hp → Prop) (h0 : Pv 0 H0) (hG : ∀ i H, i ≤ n → Pv i H → G H)
    (hs : ∀ i x H H', i < n → Pv i H → Y i H x H' → R (Pv (i + 1)) x H') (hd : ∀ H, Pv n H → Qd H) :
    ∃ W : Nat → Nat → Hp → Prop, (∃ m, W 0 m H0) ∧ ∀ i m H, W i m H →
      (J.stop i H ∧ Qd H) ∨ (J.go i H ∧ ∃ Nx : Hp → Prop, (∀ H', Nx H' → ∃ m', m' < m ∧ W (i + 1) m' H') ∧ ∀ x H', J.yld i H x H' → R Nx x H') := by
  refine ⟨fun i m H => m = n - i ∧ i ≤ n ∧ Pv i H, ⟨n, by simp, Nat.zero_le _, h0⟩, ?_⟩
  rintro i m H ⟨rfl, hi, p⟩
  have q := hG i H hi p
  by_cases c : i < n
  · exact .inr ⟨w.goes i H c q, Pv (i + 1), fun H' p' => ⟨n - (i + 1), by omega, rfl, c, p'⟩, fun x H' y => hs i x H H' c p (w.yields i H x H' c q y)⟩
  · obtain rfl : i = n := by omega
    exact .inl ⟨w.stops H q, hd H p⟩
end
/-- a heap without the place D0 -/
def without (H : Hp) (D0 : Addr) : Hp := fun b => if b = D0 then none else H b
theorem without_ne {H : Hp} {D0 b : Addr} (h : b ≠ D0) : without H D0 b = H b := if_neg h
theorem without_same {H : Hp} {D0 : Addr} : without H D0 D0 = none := if_pos rfl
theorem without_some {H : Hp} {D0 b : Addr} {o : HO} (h : without H D0 b = some o) : b ≠ D0 ∧ H b = some o := by
  by_cases e : b = D0
  · subst e; rw [without_same] at h; cases h
  · rw [without_ne e] at h; exact ⟨e, h⟩
section
variable {C : Ctx} {ex : Ex} {X : Cx} {e : Expr} {f g : Env → M D} {pos : Pos}
/-- a frame within a frame, beside a list that is being made -/
theorem Sim.innerX {n : Nat} {env : Env} {ad : Nat → Addr} {σ : L2.St} {I H : Hp} {D0 : Addr} (S : Sim C n env ad σ I H) (hB : C.B D0 = none) (ho : ∀ (i : Nat) (d : D), env[i]? = some (Slot.own d) → ad i ≠ D0) : Sim ⟨C.W, without H D0, I⟩ n (borE env) ad σ I H := by
  have S0 := S.inner
  refine ⟨S0.sub, S0.i0, fun b o hb e => ?_, fun b o e => .inl e, S0.nos, S0.src, S0.len, S0.sv, fun j e h => ?_, fun j e h => ?_, S0.inj⟩
  · exact (without_some e).2
  · have get : ∀ {i : Nat} {x : Slot}, (borE env)[i]? = some x → ∃ y, env[i]? = some y ∧ x = borS y := fun {i x} h => by
      unfold borE at h
      rw [List.getElem?_map] at h
      cases e : env[i]? with
      | none => rw [e] at h; cases h
      | some y => rw [e] at h; cases h; exact ⟨y, rfl, rfl⟩
    obtain ⟨y, hy, z⟩ := get h
    cases y <;> cases z
    · obtain ⟨h1, h2, h3, h4, h5⟩ := S.so j e hy
      exact ⟨_, h1, .inr ⟨_, rfl, h5, h2.mono (Sub.refl _) (without_ne (ho j e hy))⟩⟩
    · obtain ⟨v, h1, h2⟩ := S.sb j e hy
      refine ⟨v, h1, ?_⟩
      rcases h2 with h2 | ⟨a, h2, h3, h4⟩
      · exact .inl h2
      · obtain ⟨u, hu⟩ := h4.there
        have ne : a ≠ D0 := fun z => by rw [z, hB] at hu; cases hu
        exact .inr ⟨a, h2, h3, h4.mono (Sub.refl _) ((without_ne ne).trans ((S.base a u h3 hu).trans hu.symm))⟩
  · obtain ⟨h1, _⟩ := S0.so j e h
    exfalso
    have : ∀ {i : Nat} {d : D}, (borE env)[i]? = some (Slot.own d) → False := fun {i d} h => by
      unfold borE at h
      rw [List.getElem?_map] at h
      cases e : env[i]? with
      | none => rw [e] at h; cases h
      | some y => rw [e] at h; cases y <;> cases h
    exact this h
theorem Sim.retX {n1 n2 : Nat} {env env2 : Env} {ad ad2 : Nat → Addr} {σ σ2 : L2.St} {I1 I2 H1 H2 : Hp} {D0 : Addr} (S1 : Sim C n1 env ad σ I1 H1) (S2 : Sim ⟨C.W, without H1 D0, I1⟩ n2 env2 ad2 σ2 I2 H2) (hB : C.B D0 = none) (ho : ∀ (i : Nat) (d : D), env[i]? = some (Slot.own d) → ad i ≠ D0) : Sim C n2 env ad σ I2 H2 := by
  have bs : ∀ b o, NotS C.W.S b → b ≠ D0 → H1 b = some o → H2 b = some o := fun b o hb ne e => S2.base b o hb ((without_ne ne).trans e)
  refine ⟨S2.sub, S1.i0.trans S2.i0, fun b o hb e => ?_, fun b u e => ?_, S2.nos, S2.src, S1.len, fun j e h => ?_, fun j e h => ?_, fun j e h => ?_, S1.inj⟩
  · have ne : b ≠ D0 := fun z => by rw [z, hB] at e; cases e
    exact bs b o hb ne (S1.base b o hb e)
  · rcases S2.fresh b u e with h | h
    · exact S1.fresh b u h
    · refine .inr ?_
      cases hb : C.B b with
      | none => rfl
      | some u' =>
        have ne : b ≠ D0 := fun z => by rw [z, hB] at hb; cases hb
        have h1 := S1.base b u' (S2.nos b u e) hb
        have h : without H1 D0 b = none := h
        rw [without_ne ne, h1] at h
        cases h
  · obtain ⟨v, h1, h2⟩ := S1.sv j e h
    exact ⟨v, h1, h2.mono S2.i0⟩
  · obtain ⟨v, h1, h2⟩ := S1.sb j e h
    refine ⟨v, h1, ?_⟩
    rcases h2 with h2 | ⟨a, h2, h3, h4⟩
    · exact .inl (h2.mono S2.i0)
    · exact .inr ⟨a, h2, h3, h4.mono S2.i0 rfl⟩
  · obtain ⟨h1, h2, h3, h4, h5⟩ := S1.so j e h
    obtain ⟨u, hu⟩ := h2.there
    refine ⟨h1, h2.mono S2.i0 ((bs _ _ h5 (ho j e h) hu).trans hu.symm), h3, ?_, h5⟩
    cases e : I2 (ad j) with
    | none => rfl
    | some u' =>
      rcases S2.fresh _ u' e with h' | h'
      · have h' : I1 (ad j) = some u' := h'
        rw [h4] at h'; cases h'
      · have h' : without H1 D0 (ad j) = none := h'
        rw [without_ne (ho j _ h), hu] at h'; cases h'
/-! ### sources that stay, in any frame -/
def itemsVM : D → M (List D)
  | .lst ds => .ret ds
  | .tup ds => .ret ds
  | _ => .bad
def iSeqV (f : Env → M D) : Env → M (List D) := fun e => f e >>= itemsVM
def PoIv (C : Ctx) (env : Env) (ad : Nat → Addr) (σ : L2.St) (I H : Hp) (R : It → Hp → Prop) : Nat → List D → Prop := fun n' ds => ∀ J I' H', Sim C n' env ad σ I' H' → Sub I I' → SameX C.W.S H H' → (∀ C' : Ctx, C'.W = C.W → WalkD C' I' J ds) → R J H'
def tIv (C : Ctx) (ex : Ex) (fi : Env → M (List D)) : TI := fun σ H R => ∃ n env ad I, Sim C n env ad σ I H ∧ AllB (fi env) n (PoIv C env ad σ I H R) (Pe C ex env ad σ I H)
abbrev PMIv (C : Ctx) (ex : Ex) (X : Cx) (tg iter : Expr) (fi : Env → M (List D)) : Prop := PI X tg iter (tIv C ex fi)
theorem mi_seqV {tg : Expr} (hK : C.W.K = X.K) (hl : PM .val C ex X e f) : PMIv C ex X tg e (iSeqV f) := by
  refine ⟨fun pins s σ H R Iv h => ?_⟩
  obtain ⟨n, env, ad, I, S, q⟩ := h
  have q : AllB (f env >>= itemsVM) n (PoIv C env ad σ I H R) (Pe C ex env ad σ I H) := q
  rw [allB_bind] at q
  refine thn (hl.run pins s σ H (fun x H1 => ∃ n1 d I1, Sim C n1 env ad σ I1 H1 ∧ Sub I I1 ∧ SameX C.W.S H H1 ∧ Rep C.W I1 x d ∧ AllB (itemsVM d) n1 (PoIv C env ad σ I H R) (Pe C ex env ad σ I H)) Iv ⟨n, env, ad, I, S, q.mono (fun n1 d q1 => ?_) fun _ _ _ k => k⟩) fun v s1 h1 => ?_
  · exact fun v I1 H1 S1 i1 x1 r1 => ⟨n1, d, I1, S1, i1, x1, r1, q1⟩
  · obtain ⟨x, H1, Iv1, rv, n1, d, I1, S1, i1, x1, r1, q1⟩ := h1
    cases d with
    | lst ds =>
      cases r1 with
      | lst q' rl =>
        rename_i a vs
        cases rv
        have hq : SqL X.K H1 a vs := SqL.of (S1.sub _ _ q')
        obtain ⟨its, rv, p, hz⟩ := Iv1.list hq
        refine wpAny_pyIter_list p.isList ?_
        refine ⟨s1.heap.objs.size, [s1.heap.objs.size], _, _, H1, rfl, Iv1.kept (t' := s1.toks) fun b o e => Heap.get?_push_of_some _ e, turn_list a _, ⟨_, Heap.get?_push_size _ rfl, rfl, rfl⟩, fun b hb => ?_, ?_⟩
        · have e : b = s1.heap.objs.size := by simpa using hb
          subst e
          exact Iv1.fpOk (Nat.le_refl _) (Iv1.hok.fresh (Nat.le_refl _))
        · exact (show PoIv C env ad σ I H R n1 ds from q1) _ I1 H1 S1 i1 x1 fun C' hC => WalkD.still (C := C') walk_list (by rw [hC]; exact rl) (fun n env ad σ I2 H2 S i => SqL.of (S.sub _ _ (i _ _ q'))) fun i H v H' y => y
    | tup ds =>
      cases r1 with
      | tup q' rl =>
        cases rv
        have q' := q'
        rw [hK] at q'
        have hq : SqT X.K H1 _ _ := S1.sub.sqT q'
        obtain ⟨its, rv, p, hz⟩ := Iv1.tuple hq
        refine wpAny_pyIter_tuple (show s1.heap.IsTuple _ its.toArray from p) ?_
        refine ⟨s1.heap.objs.size, [s1.heap.objs.size], _, _, H1, rfl, Iv1.kept (t' := s1.toks) fun b o e => Heap.get?_push_of_some _ e, turn_tuple _ _, ⟨_, Heap.get?_push_size _ rfl, rfl, rfl⟩, fun b hb => ?_, ?_⟩
        · have e : b = s1.heap.objs.size := by simpa using hb
          subst e
          exact Iv1.fpOk (Nat.le_refl _) (Iv1.hok.fresh (Nat.le_refl _))
        · exact (show PoIv C env ad σ I H R n1 ds from q1) _ I1 H1 S1 i1 x1 fun C' hC => WalkD.still (C := C') walk_tup (by rw [hC]; exact rl) (fun n env ad σ I2 H2 S i => (i.trans S.sub).sqT q') fun i H v H' y => y
    | _ => exact False.elim q1
theorem tIv_call {ms : List Md} {F : List D → M (List D)} {fs : Env → M (List D)} {σ : L2.St} {H : Hp} {R : It → Hp → Prop} (q : tIv C ex (iCall F fs) σ H R) : tA ms C ex fs σ H fun vs H1 => ∃ n env ad σ I ds, Sim C n env ad σ I H1 ∧ RepA C I H1 ms vs ds ∧ AllB (F ds) n (PoIv C env ad σ I H1 R) (Pe C ex env ad σ I H1) := by
  obtain ⟨n, env, ad, I, S, q⟩ := q
  have q : AllB (fs env >>= F) n (PoIv C env ad σ I H R) (Pe C ex env ad σ I H) := q
  rw [allB_bind] at q
  refine ⟨n, env, ad, I, S, q.mono (fun n1 ds q1 => ?_) fun _ _ _ k => k⟩
  exact fun vs I1 H1 S1 i1 x1 r1 => ⟨n1, env, ad, σ, I1, ds, S1, r1, q1.mono (fun n' zs z J I' H' a b c w => z J I' H' a (i1.trans b) (x1.trans c) w) fun _ _ _ k => k.mono i1 x1⟩
theorem mi_rng1V {m : Md} {tg a : Expr} {fs : Env → M (List D)} {p pos : Pos} (hg : Gl X "range") (hm : X.mg "range" = none) (ha : PMA [m] C ex X [a] fs) (hs : starEach [a] X.env = [(false, eval a X.env)] := by rfl) : PMIv C ex X tg (.Call (.Name "range" p) [a] [] pos) (iCall rng1M fs) :=
  PI_imp (pi_range1 hg hm ha hs) fun σ H R q => by
    obtain ⟨n, env, ad, I, S, q⟩ := tIv_call (ms := [m]) q
    refine ⟨n, env, ad, I, S, q.mono (fun n1 ds k vs I1 H1 S1 i1 x1 r1 => ?_) fun _ _ _ k => k⟩
    obtain ⟨n2, env2, ad2, σ2, I2, ds2, S2, r2, q2⟩ := k vs I1 H1 S1 i1 x1 r1
    obtain ⟨v, d, rfl, rfl, rd⟩ := r2.one
    cases d with
    | int j =>
      obtain ⟨hj, q2⟩ := allB_ite (show AllB (if _ then _ else .bad) _ _ _ from q2)
      replace hj := in62 hj
      obtain rfl := rd.int
      refine ⟨j, rfl, hj.1, hj.2, (show PoIv C env2 ad2 σ2 I2 H1 R n2 (rngM 0 j) from q2) _ I2 H1 S2 (Sub.refl _) (SameX.refl _) fun C' _ => ?_⟩
      have w := walkD_rng (C := C') (I := I2) (i := 0) (n := j.toNat)
      unfold rngM
      rw [Int.sub_zero]
      exact w
    | _ => exact False.elim q2
def aI (W : Wd) (fi : Env → M (List D)) : TI := fun σ H R => ∃ B I0, tIv ⟨W, B, I0⟩ exNo fi σ H R
theorem pi_any {W : Wd} {tg it : Expr} {fi : Env → M (List D)} (h : ∀ B I0, PMIv ⟨W, B, I0⟩ exNo X tg it fi) : PI X tg it (aI W fi) := ⟨fun pins s σ H R I ⟨B, I0, q⟩ => (h B I0).run pins s σ H R I q⟩
theorem mergeE_get {js : List Nat} : ∀ {e e' : Env} {k i : Nat} {s : Slot}, (mergeE js k e e')[i]? = some s → ∃ s0 s1, e[i]? = some s0 ∧ e'[i]? = some s1 ∧ s = if js.contains (k + i) then vOf s1 else s0
  | [], _, _, _, _, h => by simp [mergeE] at h
  | _ :: _, [], _, _, _, h => by simp [mergeE] at h
  | s0 :: e, s1 :: e', k, 0, s, h => by
    unfold mergeE at h
    rw [List.getElem?_cons_zero] at h
    exact ⟨s0, s1, rfl, rfl, (Option.some.inj h).symm⟩
  | s0 :: e, s1 :: e', k, i + 1, s, h => by
    unfold mergeE at h
    rw [List.getElem?_cons_succ] at h
    obtain ⟨a, b, h1, h2, h3⟩ := mergeE_get h
    exact ⟨a, b, by rw [List.getElem?_cons_succ]; exact h1, by rw [List.getElem?_cons_succ]; exact h2, by rw [h3, show k + 1 + i = k + (i + 1) by omega]⟩
theorem mergeE_len {js : List Nat} : ∀ {e e' : Env} {k : Nat}, e.length = e'.length → (mergeE js k e e').length = e.length
  | [], _, _, _ => by simp [mergeE]
  | _ :: _, [], _, h => by cases h
  | s0 :: e, s1 :: e', k, h => by
    unfold mergeE
    rw [List.length_cons, mergeE_len (by simpa using h), List.length_cons]
theorem Sim.merge {n : Nat} {e e' : Env} {ad : Nat → Addr} {σ σ' : L2.St} {I H : Hp} {js : List Nat} (S : Sim C n e ad σ I H) (b : But js σ σ') (hl : e.length = e'.length) (hs : ∀ (j : Nat) (d : D), e'[j]? = some (Slot.v d) → ∃ v, σ'[j]? = some (some v) ∧ Rep C.W I v d) (hno : ∀ (i : Nat) (d : D), e[i]? ≠ some (Slot.own d)) : Sim C n (mergeE js 0 e e') ad σ' I H := by
  have key : ∀ {i : Nat} {s : Slot}, (mergeE js 0 e e')[i]? = some s → (i ∈ js ∧ ∃ s1, e'[i]? = some s1 ∧ s = vOf s1) ∨ (i ∉ js ∧ e[i]? = some s) := fun {i s} h => by
    obtain ⟨s0, s1, h1, h2, h3⟩ := mergeE_get h
    rw [Nat.zero_add] at h3
    by_cases hi : i ∈ js
    · rw [if_pos (by simpa using hi)] at h3
      exact .inl ⟨hi, s1, h2, h3⟩
    · rw [if_neg (by simpa using hi)] at h3
      exact .inr ⟨hi, h3 ▸ h1⟩
  refine ⟨S.sub, S.i0, S.base, S.fresh, S.nos, S.src, by rw [mergeE_len hl, b.1]; exact S.len, fun i d h => ?_, fun i d h => ?_, fun i d h => ?_, fun i j d d' h h' hh => ?_⟩
  · rcases key h with ⟨_, s1, h1, h2⟩ | ⟨hi, h1⟩
    · cases s1 <;> cases h2
      exact hs i d h1
    · rw [b.2 i hi]; exact S.sv i d h1
  · rcases key h with ⟨_, s1, h1, h2⟩ | ⟨hi, h1⟩
    · cases s1 <;> cases h2
    · rw [b.2 i hi]; exact S.sb i d h1
  · rcases key h with ⟨_, s1, h1, h2⟩ | ⟨hi, h1⟩
    · cases s1 <;> cases h2
    · exact absurd h1 (hno i d)
  · rcases key h with ⟨_, s1, h1, h2⟩ | ⟨hi, h1⟩
    · cases s1 <;> cases h2
    · exact absurd h1 (hno i d)
theorem borE_no {e : Env} (i : Nat) (d : D) : (borE e)[i]? ≠ some (Slot.own d) := fun h => by
  unfold borE at h
  rw [List.getElem?_map] at h
  cases e : e[i]? with
  | none => rw [e] at h; cases h
  | some y => rw [e] at h; cases y <;> cases h
theorem wipeE_len {e : Env} : ∀ {vs : List Nat}, (wipeE e vs).length = e.length
  | [] => rfl
  | v :: vs => by
    unfold wipeE
    rw [List.length_set, wipeE_len]
theorem tLc2_of {fi fi1 : Env → M (List D)} {tgt tgt1 : D → Env → Option Env} {js js1 vs vs1 : List Nat} {ft ft1 : Env → M Bool} {fe : Env → M D} (hj : ∀ j ∈ js, j ∈ vs) (hj1 : ∀ j ∈ js1, j ∈ vs1) {σ : L2.St} {H : Hp} {Q : VK} (q : tM .fr C ex (eComp2 vs js vs1 fi tgt ft fi1 tgt1 ft1 fe) σ H Q) :
    tLc2 (tI C ex fi) (aG C.W tgt js) (aT C.W ft) (aI C.W fi1) (aG C.W tgt1 js1) (aT C.W ft1) (aE C.W .val fe) vs vs1 σ H Q := by
  obtain ⟨n, env, ad, I, S, q⟩ := q
  have q : AllB (fi env >>= fun ds => if (vs.any fun i => (env[i]?).any isOwn) = false then noR (compM2 js tgt ft fi1 tgt1 ft1 fe vs1 (borE (wipeE env vs)) ds []) >>= fun ys => .ret (D.lst ys) else .bad) n (Po .fr C env ad σ I H Q) (Pe C ex env ad σ I H) := q
  rw [allB_bind] at q
  refine ⟨n, env, ad, I, S, q.mono (fun n1 ds q1 => ?_) fun _ _ _ k => k⟩
  intro J I1 H1 S1 i1 x1 ⟨G, Y, w, hG, hY⟩ D0 hD
  obtain ⟨ho, q1⟩ := allB_ite q1
  rw [allB_bind] at q1
  have q1 := allB_noR (E' := noE) q1
  have hN0 := S1.src.none_ne hD
  have hI0 := S1.none_I hD
  have hB0 := S1.none_B hD
  have hown : ∀ (i : Nat) (d : D), env[i]? = some (Slot.own d) → ad i ≠ D0 := fun i d h => by
    obtain ⟨_, h2, _⟩ := S1.so i d h
    obtain ⟨u, hu⟩ := h2.there
    exact ne_of_none hu hD
  have hownW : ∀ (i : Nat) (d : D), (wipeE env vs)[i]? = some (Slot.own d) → ad i ≠ D0 := fun i d h => hown i d (wipeE_own h)
  have hnv : ∀ (i : Nat) (d : D), env[i]? = some (Slot.own d) → i ∉ vs := fun i d h hi => by
    have := List.any_eq_false.mp ho i hi
    rw [h] at this
    exact this rfl
  refine it_any w _ (fun i H2 => ∃ n2 I2 acc ys, Sim C n2 (wipeE env vs) ad (L2.wipe σ vs) I2 H2 ∧ Sub I1 I2 ∧ SameX C.W.S H1 H2 ∧ H2 D0 = some (.lst acc) ∧ RepL C.W I2 acc ys ∧ I2 D0 = none ∧
    AllB (compM2 js tgt ft fi1 tgt1 ft1 fe vs1 (borE (wipeE env vs)) (ds.drop i) ys) n2 (fun n' zs => Po .fr C env ad σ I H Q n' (.lst zs)) noE)
    ⟨n1, I1, [], [], (S1.wipe vs).write hI0 hB0 hN0 fun i d h => hown i d (wipeE_own h), Sub.refl _, SameX.upd hD, upd_same, .nil, hI0, by
      rw [List.drop_zero]
      exact q1⟩ (fun i H2 _ ⟨n2, I2, acc, ys, S2, i2, _⟩ => hG _ _ _ _ _ _ S2 i2) ?_ ?_
  · rintro i x H2 H2' hi ⟨n2, I2, acc, ys, S2, i2, x2, hD2, r2, hI2, q2⟩ y
    obtain ⟨I3, S3, i3, x3, nw3, d, hd, r⟩ := hY i H2 x H2' n2 _ ad _ I2 hi S2 i2 y
    have e : ds.drop i = d :: ds.drop (i + 1) := by
      rw [List.drop_eq_getElem_cons hi]
      congr 1
      rw [List.getElem?_eq_getElem hi] at hd
      exact Option.some.inj hd
    rw [e] at q2
    have q2 : AllB (match tgt d (borE (wipeE env vs)) with | none => M.bad | some e' => ft e' >>= fun b => if b then fi1 e' >>= fun ds1 => (if ys.length + ds1.length ≤ line then compM tgt1 ft1 fe (borE (wipeE (mergeE js 0 (borE (wipeE env vs)) e') vs1)) ds1 >>= fun ys1 => compM2 js tgt ft fi1 tgt1 ft1 fe vs1 (borE (wipeE env vs)) (ds.drop (i + 1)) (ys ++ ys1) else .bad) else compM2 js tgt ft fi1 tgt1 ft1 fe vs1 (borE (wipeE env vs)) (ds.drop (i + 1)) ys) n2 (fun n' zs => Po .fr C env ad σ I H Q n' (.lst zs)) noE := q2
    have hI3 : I3 D0 = none := by
      cases e : I3 D0 with
      | none => rfl
      | some u =>
        rcases nw3 _ _ e with h | h
        · rw [hI2] at h; cases h
        · rw [hD2] at h; cases h
    cases ht : tgt d (borE (wipeE env vs)) with
    | none => rw [ht] at q2; exact False.elim q2
    | some env3 =>
      rw [ht] at q2
      have q2 : AllB (ft env3 >>= fun b => if b then fi1 env3 >>= fun ds1 => (if ys.length + ds1.length ≤ line then compM tgt1 ft1 fe (borE (wipeE (mergeE js 0 (borE (wipeE env vs)) env3) vs1)) ds1 >>= fun ys1 => compM2 js tgt ft fi1 tgt1 ft1 fe vs1 (borE (wipeE env vs)) (ds.drop (i + 1)) (ys ++ ys1) else .bad) else compM2 js tgt ft fi1 tgt1 ft1 fe vs1 (borE (wipeE env vs)) (ds.drop (i + 1)) ys) n2 (fun n' zs => Po .fr C env ad σ I H Q n' (.lst zs)) noE := q2
      rw [allB_bind] at q2
      have hD3 : H2' D0 = some (.lst acc) := x3 _ _ hN0 hD2
      refine ⟨H2', I3, n2, _, ad, I3, d, env3, S3.inner, r, ht, fun σ4 S4 b4 => ⟨wipe_but hj b4, H2', I3, n2, env3, ad, I3, S4, q2.mono (fun n5 b q5 => ?_) fun _ _ _ z => z.elim⟩⟩
      intro I5 H5 S5 i5 x5
      have i15 : Sub I1 I5 := (i2.trans i3).trans i5
      have x15 : SameX C.W.S H1 H5 := (x2.trans x3).trans x5
      have hD5 : H5 D0 = some (.lst acc) := x5 _ _ hN0 hD3
      cases b with
      | false =>
        rw [if_neg Bool.false_ne_true] at q5 ⊢
        exact ⟨n5, I5, acc, ys, S3.ret S5, i15, x15, hD5, r2.mono (i3.trans i5), S5.none_in (n1 := 0) hI3 hD3, q5⟩
      | true =>
        rw [if_pos rfl] at q5 ⊢
        rw [allB_bind] at q5
        refine ⟨H2', I3, n5, env3, ad, I5, S5, q5.mono (fun n6 ds1 q6 => ?_) fun _ _ _ z => z.elim⟩
        intro J1 I6 H6 S6 i6 x6 hW
        obtain ⟨hl6, q6⟩ := allB_ite q6
        have hI6 : I6 D0 = none := S6.none_in (n1 := 0) hI3 hD3
        have hD6 : H6 D0 = some (.lst acc) := x6 _ _ hN0 hD5
        have So6 := S3.ret S6
        have i16 : Sub I1 I6 := i15.trans i6
        have x16 : SameX C.W.S H1 H6 := x15.trans x6
        rw [allB_bind] at q6
        -- the frame of the inner turns: beside the list that is made
        obtain ⟨G1, Y1, w1, hG1, hY1⟩ := hW ⟨C.W, without H6 D0, I6⟩ rfl
        have hlen : (borE (wipeE env vs)).length = env3.length := by
          rw [S6.len, b4.1, ← S3.len]
          unfold borE
          rw [List.length_map]
        have Sm : Sim ⟨C.W, without H6 D0, I6⟩ n6 (mergeE js 0 (borE (wipeE env vs)) env3) ad σ4 I6 H6 := Sim.merge (So6.innerX (D0 := D0) hB0 hownW) b4 hlen (fun j d h => S6.sv j d h) borE_no
        generalize hE1 : wipeE (mergeE js 0 (borE (wipeE env vs)) env3) vs1 = E1 at q6
        have S7 : Sim ⟨C.W, without H6 D0, I6⟩ n6 E1 ad (L2.wipe σ4 vs1) I6 H6 := hE1 ▸ Sm.wipe vs1
        have hE1o : ∀ (i : Nat) (d : D), E1[i]? = some (Slot.own d) → False := fun i d h => by
          rw [← hE1] at h
          obtain ⟨s0, s1, h1, h2, h3⟩ := mergeE_get (wipeE_own h)
          split at h3
          · cases s1 <;> cases h3
          · exact borE_no i d (h3 ▸ h1)
        have hrl : acc.length = ys.length := RepL.length r2
        refine it_any w1 _ (fun j H7 => ∃ n7 I7 acc7 ys7, Sim ⟨C.W, without H6 D0, I6⟩ n7 E1 ad (L2.wipe σ4 vs1) I7 H7 ∧ SameX C.W.S H1 H7 ∧ H7 D0 = some (.lst acc7) ∧ acc7.length ≤ acc.length + j ∧ RepL C.W I7 acc7 ys7 ∧ I7 D0 = none ∧
          AllB (compM tgt1 ft1 fe (borE E1) (ds1.drop j)) n7 (fun n' zs => AllB (compM2 js tgt ft fi1 tgt1 ft1 fe vs1 (borE (wipeE env vs)) (ds.drop (i + 1)) (ys7 ++ zs)) n' (fun n' zs => Po .fr C env ad σ I H Q n' (.lst zs)) noE) noE)
          ⟨n6, I6, acc, ys, S7, x16, hD6, Nat.le_refl _, r2.mono (i3.trans (i5.trans i6)), hI6, by rw [List.drop_zero]; exact q6⟩ (fun j H7 _ ⟨n7, I7, acc7, ys7, S7, _⟩ => hG1 _ _ _ _ _ _ S7 S7.i0) ?_ ?_
        · rintro j x1' H7 H7' hj' ⟨n7, I7, acc7, ys7, S7, x7, hD7, hl7, r7, hI7, q7⟩ y1
          obtain ⟨I8, S8, i8, x8, nw8, d1, hd1, rd1⟩ := hY1 j H7 x1' H7' n7 _ ad _ I7 hj' S7 S7.i0 y1
          have e1 : ds1.drop j = d1 :: ds1.drop (j + 1) := by
            rw [List.drop_eq_getElem_cons hj']
            congr 1
            rw [List.getElem?_eq_getElem hj'] at hd1
            exact Option.some.inj hd1
          rw [e1] at q7
          have q7 : AllB (match tgt1 d1 (borE E1) with | none => M.bad | some e' => ft1 e' >>= fun b => if b then fe e' >>= fun y => compM tgt1 ft1 fe (borE E1) (ds1.drop (j + 1)) >>= fun ys => .ret (y :: ys) else compM tgt1 ft1 fe (borE E1) (ds1.drop (j + 1))) n7 (fun n' zs => AllB (compM2 js tgt ft fi1 tgt1 ft1 fe vs1 (borE (wipeE env vs)) (ds.drop (i + 1)) (ys7 ++ zs)) n' (fun n' zs => Po .fr C env ad σ I H Q n' (.lst zs)) noE) noE := q7
          have hI8 : I8 D0 = none := by
            cases e : I8 D0 with
            | none => rfl
            | some u =>
              rcases nw8 _ _ e with h | h
              · rw [hI7] at h; cases h
              · rw [hD7] at h; cases h
          have hD8 : H7' D0 = some (.lst acc7) := x8 _ _ hN0 hD7
          cases ht1 : tgt1 d1 (borE E1) with
          | none => rw [ht1] at q7; exact False.elim q7
          | some env9 =>
            rw [ht1] at q7
            have q7 : AllB (ft1 env9 >>= fun b => if b then fe env9 >>= fun y => compM tgt1 ft1 fe (borE E1) (ds1.drop (j + 1)) >>= fun ys => .ret (y :: ys) else compM tgt1 ft1 fe (borE E1) (ds1.drop (j + 1))) n7 (fun n' zs => AllB (compM2 js tgt ft fi1 tgt1 ft1 fe vs1 (borE (wipeE env vs)) (ds.drop (i + 1)) (ys7 ++ zs)) n' (fun n' zs => Po .fr C env ad σ I H Q n' (.lst zs)) noE) noE := q7
            rw [allB_bind] at q7
            refine ⟨H7', I8, n7, _, ad, I8, d1, env9, S8.inner, rd1, ht1, fun σ9 S9 b9 => ⟨wipe_but hj1 b9, H7', I8, n7, env9, ad, I8, S9, q7.mono (fun n10 b q10 => ?_) fun _ _ _ z => z.elim⟩⟩
            intro I10 H10 S10 i10 x10
            have hD10 : H10 D0 = some (.lst acc7) := x10 _ _ hN0 hD8
            have x110 : SameX C.W.S H1 H10 := (x7.trans x8).trans x10
            cases b with
            | false =>
              rw [if_neg Bool.false_ne_true] at q10 ⊢
              exact ⟨n10, I10, acc7, ys7, S8.ret S10, x110, hD10, by omega, r7.mono (i8.trans i10), S10.none_in (n1 := 0) hI8 hD8, q10⟩
            | true =>
              rw [if_pos rfl] at q10 ⊢
              rw [allB_bind] at q10
              refine ⟨H7', I8, n10, env9, ad, I10, S10, q10.mono (fun n11 yd q11 => ?_) fun _ _ _ z => z.elim⟩
              intro v11 I11 H11 S11 i11 x11 r11
              rw [allB_bind] at q11
              have hD11 : H11 D0 = some (.lst acc7) := x11 _ _ hN0 hD10
              have hI11 : I11 D0 = none := S11.none_in (n1 := 0) hI8 hD8
              refine ⟨acc7, hD11, by rw [sizeLine_eq]; have : line = 16777216 := rfl; omega, n11, I11, acc7 ++ [v11], ys7 ++ [yd], (S8.ret S11).write hI11 without_same hN0 fun i d h => (hE1o i d h).elim, fun b u hb e => ?_, upd_same, by rw [List.length_append, List.length_singleton]; omega, ((r7.mono (i8.trans (i10.trans i11))).append (.cons r11 .nil)), hI11, q11.mono (fun n7 zs z => by rw [List.append_assoc]; exact z) fun _ _ _ z => z⟩
              rw [upd_ne (ne_of_none e hD)]
              exact (x110.trans x11) b u hb e
        · rintro H7 ⟨n7, I7, acc7, ys7, S7, x7, hD7, hl7, r7, hI7, q7⟩
          rw [List.drop_length] at q7
          have q7 : AllB (compM2 js tgt ft fi1 tgt1 ft1 fe vs1 (borE (wipeE env vs)) (ds.drop (i + 1)) (ys7 ++ [])) n7 (fun n' zs => Po .fr C env ad σ I H Q n' (.lst zs)) noE := q7
          rw [List.append_nil] at q7
          exact ⟨n7, I7, acc7, ys7, So6.retX S7 hB0 hownW, i16.trans S7.i0, x7, hD7, r7, hI7, q7⟩
  · rintro H2 ⟨n2, I2, acc, ys, S2, i2, x2, hD2, r2, hI2, q2⟩
    rw [List.drop_length] at q2
    have q2 : Po .fr C env ad σ I H Q n2 (.lst ys) := q2
    have Sb := S1.back S2 i2 x2 fun i d h => by
      have h' : (wipeE env vs)[i]? = some (Slot.own d) := by rw [wipeE_out (hnv i d h)]; exact h
      exact (S2.so i d h').2.2.2.1
    exact q2 _ I2 H2 Sb (i1.trans i2) (x1.trans x2) ⟨D0, rfl, hN0, ⟨acc, hD2, r2⟩, hI2, hB0, hown⟩
section
variable {elt tg iter tg1 iter1 : Expr} {ifs ifs1 : List Expr} {scope : Scope} {own : List (Str × Nat)} {fi fi1 : Env → M (List D)} {tgt tgt1 : D → Env → Option Env} {js js1 vs1 : List Nat} {ft ft1 : Env → M Bool} {fe : Env → M D}
theorem pm_lc2 (hc : X.calm = true) (hN : X.N.Nodup) (hi : PMI C ex X tg iter fi) (ok : BlkOk X.N X.env.scope scope own) (hv : (vs1.all fun j => (own.map (·.2)).contains j) = true)
    (hg : ∀ (s : Shared) (H : Hp) (Ca : Addr) (cl : List (Str × Addr)) (fp : List Addr) B I0, PMG ⟨C.W, B, I0⟩ (X.blk s H scope (compEnvC scope cl Ca X.env) fp) tg tgt js) (ht : ∀ (s : Shared) (H : Hp) (Ca : Addr) (cl : List (Str × Addr)) (fp : List Addr) B I0, PMTs ⟨C.W, B, I0⟩ exNo (X.blk s H scope (compEnvC scope cl Ca X.env) fp) ifs ft)
    (hi1 : ∀ (s : Shared) (H : Hp) (Ca : Addr) (cl : List (Str × Addr)) (fp : List Addr) B I0, PMIv ⟨C.W, B, I0⟩ exNo (X.blk s H scope (compEnvC scope cl Ca X.env) fp) tg1 iter1 fi1)
    (hg1 : ∀ (s : Shared) (H : Hp) (Ca : Addr) (cl : List (Str × Addr)) (fp : List Addr) B I0, PMG ⟨C.W, B, I0⟩ (X.blk s H scope (compEnvC scope cl Ca X.env) fp) tg1 tgt1 js1) (ht1 : ∀ (s : Shared) (H : Hp) (Ca : Addr) (cl : List (Str × Addr)) (fp : List Addr) B I0, PMTs ⟨C.W, B, I0⟩ exNo (X.blk s H scope (compEnvC scope cl Ca X.env) fp) ifs1 ft1)
    (he : ∀ (s : Shared) (H : Hp) (Ca : Addr) (cl : List (Str × Addr)) (fp : List Addr) B I0, PM .val ⟨C.W, B, I0⟩ exNo (X.blk s H scope (compEnvC scope cl Ca X.env) fp) elt fe) (hj : (js.all fun j => (own.map (·.2)).contains j) = true := by rfl) (hj1 : (js1.all fun j => vs1.contains j) = true := by rfl) (hs : ∀ x, foldedSetIterable iter X.env x = pure x := by intro _; rfl) (hs1 : ∀ env x, foldedSetIterable iter1 env x = pure x := by intro _ _; rfl) :
    PM .fr C ex X (.ListComp elt [⟨tg, iter, ifs, 0⟩, ⟨tg1, iter1, ifs1, 0⟩] scope pos) (eComp2 (own.map (·.2)) js vs1 fi tgt ft fi1 tgt1 ft1 fe) :=
  PE_imp (pe_lc2 (vs1 := vs1) hc hN hi ok (fun j h => by simpa using List.all_eq_true.mp hv j h) (fun s H Ca cl fp => pg_any (hg s H Ca cl fp)) (fun s H Ca cl fp => pts_any (ht s H Ca cl fp)) (fun s H Ca cl fp => pi_any (hi1 s H Ca cl fp)) (fun s H Ca cl fp => pg_any (hg1 s H Ca cl fp)) (fun s H Ca cl fp => pts_any (ht1 s H Ca cl fp)) (fun s H Ca cl fp => pe_any (he s H Ca cl fp)) hs hs1) fun σ H Q q => tLc2_of (fun j h => by simpa using List.all_eq_true.mp hj j h) (fun j h => by simpa using List.all_eq_true.mp hj1 j h) q
theorem ms_setLc2 {i : Nat} {y : Str} {py spos : Pos} (hc : X.calm = true) (hN : X.N.Nodup) (hy : X.N[i]? = some y) (hyl : X.env.scope.names.lookup y = some .local)
    (hsw : swapsWith (.ListComp elt [⟨tg, iter, ifs, 0⟩, ⟨tg1, iter1, ifs1, 0⟩] scope pos) (some (.Name y py)) spos.line X.env = pure true) (hi : PMI C ex X tg iter fi) (ok : BlkOk X.N X.env.scope scope own) (hv : (vs1.all fun j => (own.map (·.2)).contains j) = true)
    (hg : ∀ (s : Shared) (H : Hp) (Ca : Addr) (cl : List (Str × Addr)) (fp : List Addr) B I0, PMG ⟨C.W, B, I0⟩ (X.blk s H scope (compEnvC scope cl Ca X.env) fp) tg tgt js) (ht : ∀ (s : Shared) (H : Hp) (Ca : Addr) (cl : List (Str × Addr)) (fp : List Addr) B I0, PMTs ⟨C.W, B, I0⟩ exNo (X.blk s H scope (compEnvC scope cl Ca X.env) fp) ifs ft)
    (hi1 : ∀ (s : Shared) (H : Hp) (Ca : Addr) (cl : List (Str × Addr)) (fp : List Addr) B I0, PMIv ⟨C.W, B, I0⟩ exNo (X.blk s H scope (compEnvC scope cl Ca X.env) fp) tg1 iter1 fi1)
    (hg1 : ∀ (s : Shared) (H : Hp) (Ca : Addr) (cl : List (Str × Addr)) (fp : List Addr) B I0, PMG ⟨C.W, B, I0⟩ (X.blk s H scope (compEnvC scope cl Ca X.env) fp) tg1 tgt1 js1) (ht1 : ∀ (s : Shared) (H : Hp) (Ca : Addr) (cl : List (Str × Addr)) (fp : List Addr) B I0, PMTs ⟨C.W, B, I0⟩ exNo (X.blk s H scope (compEnvC scope cl Ca X.env) fp) ifs1 ft1)
    (he : ∀ (s : Shared) (H : Hp) (Ca : Addr) (cl : List (Str × Addr)) (fp : List Addr) B I0, PM .val ⟨C.W, B, I0⟩ exNo (X.blk s H scope (compEnvC scope cl Ca X.env) fp) elt fe) (hj : (js.all fun j => (own.map (·.2)).contains j) = true := by rfl) (hj1 : (js1.all fun j => vs1.contains j) = true := by rfl) (hs : ∀ x, foldedSetIterable iter X.env x = pure x := by intro _; rfl) (hs1 : ∀ env x, foldedSetIterable iter1 env x = pure x := by intro _ _; rfl) :
    PMS C ex X (.Assign [.Name y py] (.ListComp elt [⟨tg, iter, ifs, 0⟩, ⟨tg1, iter1, ifs1, 0⟩] scope pos) spos) (sSet i (eComp2 (own.map (·.2)) js vs1 fi tgt ft fi1 tgt1 ft1 fe)) :=
  PS_imp (ps_setLc2 (vs1 := vs1) hc hN hy hyl hsw hi ok (fun j h => by simpa using List.all_eq_true.mp hv j h) (fun s H Ca cl fp => pg_any (hg s H Ca cl fp)) (fun s H Ca cl fp => pts_any (ht s H Ca cl fp)) (fun s H Ca cl fp => pi_any (hi1 s H Ca cl fp)) (fun s H Ca cl fp => pg_any (hg1 s H Ca cl fp)) (fun s H Ca cl fp => pts_any (ht1 s H Ca cl fp)) (fun s H Ca cl fp => pe_any (he s H Ca cl fp)) hs hs1) fun Dn σ H q => tLc2_of (fun j h => by simpa using List.all_eq_true.mp hj j h) (fun j h => by simpa using List.all_eq_true.mp hj1 j h) (asgV q)
end
end
end PD

set_option Elab.async false
set_option linter.all false
set_option maxRecDepth 100000
set_option maxHeartbeats 4000000
/-! PDMin: min(xs), max(xs) of data of one kind; stars in displays. -/
namespace PD
open PySem PySem.Spec L2 PDL
def ltD (d e : D) : Bool := PySem.W.dataLt (toPz d) (toPz e)
def isNon : D → Bool
  | .non => true
  | _ => false
def cmpOk (ds : List D) : Bool := okRs 60 ds && (ds.all fun d => ds.all fun e => PySem.W.alike (toPz d) (toPz e)) && ds.all fun d => !isNon d
def minL : List D → M D
  | [] => .bad
  | d :: ds => if cmpOk (d :: ds) = true then .ret (ds.foldl (fun a y => if ltD y a then y else a) d) else .bad
def maxL : List D → M D
  | [] => .bad
  | d :: ds => if cmpOk (d :: ds) = true then .ret (ds.foldl (fun a y => if ltD a y then y else a) d) else .bad
def minDM : D → M D
  | .lst ds => minL ds
  | .tup ds => minL ds
  | _ => .bad
def maxDM : D → M D
  | .lst ds => maxL ds
  | .tup ds => maxL ds
  | _ => .bad
theorem toPzs_map : ∀ ds : List D, toPzs ds = ds.map toPz
  | [] => rfl
  | d :: ds => by simp [toPzs, toPzs_map ds]
theorem depthAll_le : ∀ {ds : List D} {k : Nat}, okRs k ds = true → PyData.depthAll (toPzs ds) ≤ k + 1
  | [], _, _ => by simp [toPzs, PyData.depthAll]
  | d :: ds, k, h => by
    obtain ⟨h1, h2⟩ := Bool.and_eq_true_iff.mp (show (okR k d && okRs k ds) = true from h)
    have a := depth_z h1
    have b := depthAll_le h2
    show max (toPz d).depth (PyData.depthAll (toPzs ds)) ≤ k + 1
    omega
theorem alikeAll_of {ds : List D} (h : cmpOk ds = true) : okRs 60 ds = true ∧ PySem.W.AlikeAll (toPzs ds) := by
  unfold cmpOk at h
  rw [Bool.and_eq_true, Bool.and_eq_true] at h
  obtain ⟨⟨h1, h2⟩, h3⟩ := h
  refine ⟨h1, fun x hx y hy => ?_, fun x hx e => ?_⟩
  · rw [toPzs_map] at hx hy
    obtain ⟨d, hd, rfl⟩ := List.mem_map.mp hx
    obtain ⟨d', hd', rfl⟩ := List.mem_map.mp hy
    exact List.all_eq_true.mp (List.all_eq_true.mp h2 d hd) d' hd'
  · rw [toPzs_map] at hx
    obtain ⟨d, hd, rfl⟩ := List.mem_map.mp hx
    have h4 := List.all_eq_true.mp h3 d hd
    have h5 := okRs_mem h1 hd
    cases d <;> first | (cases h4; done) | (cases h5; done) | (unfold toPz at e; cases e)
theorem getD_z (ds : List D) (i : Nat) : (toPzs ds).getD i .none = toPz (ds.getD i .non) := by
  rw [toPzs_map]
  rw [List.getD_eq_getElem?_getD, List.getD_eq_getElem?_getD, List.getElem?_map]
  cases ds[i]? <;> simp [toPz]
section
variable {C : Ctx} {ex : Ex} {X : Cx} {n : Nat} {env : Env} {ad : Nat → Addr} {σ : L2.St} {I H : Hp}
theorem readsAll_of (hK : C.W.K = X.K) (hs : (X.K.lookup sysModules).isSome = true) {pins : List (Addr × Obj)} {σ0 : L2.St} {s : Shared} (Iv : Inv X pins σ0 H s) (S : Sub I H) : ∀ {vs : List V} {ds : List D} {us : List Value}, RepL C.W I vs ds → okRs 60 ds = true → Vals vs us → ∃ as, ReadsAll s.heap us (toPzs ds) as
  | _, _, _, .nil, _, r => by cases r; exact ⟨_, .nil⟩
  | _, _, _, .cons a b, h, r => by
    cases r with
    | cons r1 r2 =>
      obtain ⟨h1, h2⟩ := Bool.and_eq_true_iff.mp (show (okR 60 _ && okRs 60 _) = true from h)
      obtain ⟨as, q1, _⟩ := Rep.reads hK hs Iv S a h1 r1
      obtain ⟨bs, q2⟩ := readsAll_of hK hs Iv S b h2 r2
      exact ⟨_, .cons q1 q2⟩
section
variable {prog : Program} {w : World} {A : Around} {E : Value → Shared → Prop} {s : Shared}
theorem call_minS {l : Addr} {vs : Array Value} {xs : List PyData} {as : List Addr} {Q : Value → Shared → Prop} (hh : A.handled = none) (hl : s.heap.IsList l vs ∨ s.heap.IsTuple l vs) (hr : ReadsAll s.heap vs.toList xs as) (h0 : 0 < vs.size) (ha : PySem.W.AlikeAll xs) (hu : A.units + 1 + PyData.depthAll xs < cLine)
    (h : ∀ v h' tk, vs[argBest (fun i j => PySem.W.dataLt (xs.getD i .none) (xs.getD j .none)) (vs.size - 1)]? = some v → (∀ b o, s.heap.get? b = some o → h'.get? b = some o) → Q v { s with heap := h', toks := tk }) :
    wpAny (model prog w) A (call (.builtin "min") [.ref l]) Q E s := by
  rcases hl with hl | hl
  · refine call_min_walkH (PySem.W.iter_listW (A := A.in1) hh hl fun s₂ e W st hfp hw hk => ?_)
    refine ⟨_, _, _, _, _, _, _, s.heap, _, rfl, W, st, hfp, h0, hw, hk, PySem.W.cmpIn_lt (A := A.in1) hr ha (by show A.units + 1 + _ < _; exact hu), fun v s' hP m => ?_⟩
    obtain ⟨h', tk, rfl, hk'⟩ := PySem.W.moved_old e rfl m
    exact h v h' tk hP hk'
  · refine call_min_walkH (PySem.W.iter_tupleW (A := A.in1) hh hl fun s₂ e W st hfp hw hk => ?_)
    refine ⟨_, _, _, _, _, _, _, s.heap, _, rfl, W, st, hfp, h0, hw, hk, PySem.W.cmpIn_lt (A := A.in1) hr ha (by show A.units + 1 + _ < _; exact hu), fun v s' hP m => ?_⟩
    obtain ⟨h', tk, rfl, hk'⟩ := PySem.W.moved_old e rfl m
    exact h v h' tk hP hk'
theorem call_maxS {l : Addr} {vs : Array Value} {xs : List PyData} {as : List Addr} {Q : Value → Shared → Prop} (hh : A.handled = none) (hl : s.heap.IsList l vs ∨ s.heap.IsTuple l vs) (hr : ReadsAll s.heap vs.toList xs as) (h0 : 0 < vs.size) (ha : PySem.W.AlikeAll xs) (hu : A.units + 1 + PyData.depthAll xs < cLine)
    (h : ∀ v h' tk, vs[argBest (fun i j => PySem.W.dataLt (xs.getD j .none) (xs.getD i .none)) (vs.size - 1)]? = some v → (∀ b o, s.heap.get? b = some o → h'.get? b = some o) → Q v { s with heap := h', toks := tk }) :
    wpAny (model prog w) A (call (.builtin "max") [.ref l]) Q E s := by
  rcases hl with hl | hl
  · refine call_max_walkH (PySem.W.iter_listW (A := A.in1) hh hl fun s₂ e W st hfp hw hk => ?_)
    refine ⟨_, _, _, _, _, _, _, s.heap, _, rfl, W, st, hfp, h0, hw, hk, PySem.W.cmpIn_gt (A := A.in1) hr ha (by show A.units + 1 + _ < _; exact hu), fun v s' hP m => ?_⟩
    obtain ⟨h', tk, rfl, hk'⟩ := PySem.W.moved_old e rfl m
    exact h v h' tk hP hk'
  · refine call_max_walkH (PySem.W.iter_tupleW (A := A.in1) hh hl fun s₂ e W st hfp hw hk => ?_)
    refine ⟨_, _, _, _, _, _, _, s.heap, _, rfl, W, st, hfp, h0, hw, hk, PySem.W.cmpIn_gt (A := A.in1) hr ha (by show A.units + 1 + _ < _; exact hu), fun v s' hP m => ?_⟩
    obtain ⟨h', tk, rfl, hk'⟩ := PySem.W.moved_old e rfl m
    exact h v h' tk hP hk'
end
theorem best_fold (f : D → D → Bool) (d : D) (ds : List D) : (d :: ds).getD (argBest (fun i j => f ((d :: ds).getD i .non) ((d :: ds).getD j .non)) ds.length) .non = ds.foldl (fun a y => if f y a then y else a) d := by
  have := (PySem.W.argBest_fold f D.non d ds ds.length (Nat.le_refl _)).2
  rwa [List.take_length] at this
theorem vals_at {vs : List V} {us : List Value} (r : Vals vs us) : ∀ {i : Nat} {u : Value}, us[i]? = some u → ∃ v, vs[i]? = some v ∧ RelV v u := by
  induction r with
  | nil => intro i u h; simp at h
  | cons a b ih =>
    intro i u h
    cases i with
    | zero => simp at h; subst h; exact ⟨_, rfl, a⟩
    | succ i => simpa using ih (by simpa using h)
theorem best_core {pins : List (Addr × Obj)} {σ0 : L2.St} {s : Shared} (f : PyData → PyData → Bool) {vs : List V} {us : List Value} {d : D} {ds : List D} (rl : RepL C.W I vs (d :: ds)) (rv : Vals vs us) {u : Value} (h : us.toArray[argBest (fun i j => f ((toPzs (d :: ds)).getD i .none) ((toPzs (d :: ds)).getD j .none)) (us.toArray.size - 1)]? = some u) :
    ∃ v, RelV v u ∧ Rep C.W I v (ds.foldl (fun a y => if f (toPz y) (toPz a) then y else a) d) := by
  have hz : us.toArray.size - 1 = ds.length := by
    have h1 := rv.length
    have h2 := rl.length
    simp at h2
    simp
    omega
  have hf : (fun i j => f ((toPzs (d :: ds)).getD i .none) ((toPzs (d :: ds)).getD j .none)) = fun i j => (fun a b => f (toPz a) (toPz b)) ((d :: ds).getD i .non) ((d :: ds).getD j .non) := by
    funext i j
    rw [getD_z, getD_z]
  rw [hz, hf] at h
  generalize hb : argBest (fun i j => (fun a b => f (toPz a) (toPz b)) ((d :: ds).getD i .non) ((d :: ds).getD j .non)) ds.length = b at h
  rw [List.getElem?_toArray] at h
  obtain ⟨v, h1, h2⟩ := vals_at rv h
  obtain ⟨d', h3, h4⟩ := rl.getV h1
  refine ⟨v, h2, ?_⟩
  have e := best_fold (fun a b => f (toPz a) (toPz b)) d ds
  rw [hb, List.getD_eq_getElem?_getD, h3] at e
  rw [← e]
  exact h4
theorem c_minD (hK : C.W.K = X.K) (hs : (X.K.lookup sysModules).isSome = true) (hu : X.A.units + 62 < cLine) (hh : X.A.handled = none) : CallR X (.builtin "min") (rC [.rd] .val C ex (arg1 minDM)) := by
  intro pins s σ0 H vs us Q Iv r h
  obtain ⟨n, env, ad, σ, I, ds, S, ra, q⟩ := h
  obtain ⟨v, d, rfl, rfl, r1⟩ := ra.one
  obtain ⟨u, rfl, ru⟩ := vals1 r
  have main : ∀ ds, (RepM .rd C env ad I H v (.lst ds) ∨ RepM .rd C env ad I H v (.tup ds)) → AllB (minL ds) n (Po .val C env ad σ I H Q) (Pe C ex env ad σ I H) → wpAny (model X.prog X.w) X.A (call (.builtin "min") [u]) (fun v s' => ∃ x H', Inv X pins σ0 H' s' ∧ RelV x v ∧ Q x H') X.xe s := fun ds r2 q => by
    cases ds with
    | nil => exact False.elim q
    | cons d ds =>
      obtain ⟨hc, q⟩ := allB_ite (show AllB (if _ then _ else .bad) _ _ _ from q)
      obtain ⟨h1, h2⟩ := alikeAll_of hc
      obtain ⟨a, xs, its, rfl, rl, rv, hl, hz⟩ := RepM.seq hK Iv S r2
      obtain rfl : u = Value.ref a := ru
      obtain ⟨as, hr⟩ := readsAll_of hK hs Iv S.sub rl h1 rv
      have hd := depth_zs h1
      refine call_minS hh hl (by simpa using hr) (by have := rv.length; have := rl.length; simp at *; omega) h2 (by omega) fun v' h' tk hv hk => ?_
      obtain ⟨x, hx, rx⟩ := best_core (pins := pins) (σ0 := σ0) (s := s) PySem.W.dataLt rl rv hv
      exact ⟨x, H, Iv.kept (t' := tk) hk, hx, (show Po .val C env ad σ I H Q n _ from q) x I H S (Sub.refl _) (SameX.refl _) rx⟩
  cases d <;> first | exact False.elim q | skip
  · exact main _ (.inr (r1.any (env' := env) (ad' := ad) (by decide))) q
  · exact main _ (.inl (r1.any (env' := env) (ad' := ad) (by decide))) q
theorem c_maxD (hK : C.W.K = X.K) (hs : (X.K.lookup sysModules).isSome = true) (hu : X.A.units + 62 < cLine) (hh : X.A.handled = none) : CallR X (.builtin "max") (rC [.rd] .val C ex (arg1 maxDM)) := by
  intro pins s σ0 H vs us Q Iv r h
  obtain ⟨n, env, ad, σ, I, ds, S, ra, q⟩ := h
  obtain ⟨v, d, rfl, rfl, r1⟩ := ra.one
  obtain ⟨u, rfl, ru⟩ := vals1 r
  have main : ∀ ds, (RepM .rd C env ad I H v (.lst ds) ∨ RepM .rd C env ad I H v (.tup ds)) → AllB (maxL ds) n (Po .val C env ad σ I H Q) (Pe C ex env ad σ I H) → wpAny (model X.prog X.w) X.A (call (.builtin "max") [u]) (fun v s' => ∃ x H', Inv X pins σ0 H' s' ∧ RelV x v ∧ Q x H') X.xe s := fun ds r2 q => by
    cases ds with
    | nil => exact False.elim q
    | cons d ds =>
      obtain ⟨hc, q⟩ := allB_ite (show AllB (if _ then _ else .bad) _ _ _ from q)
      obtain ⟨h1, h2⟩ := alikeAll_of hc
      obtain ⟨a, xs, its, rfl, rl, rv, hl, hz⟩ := RepM.seq hK Iv S r2
      obtain rfl : u = Value.ref a := ru
      obtain ⟨as, hr⟩ := readsAll_of hK hs Iv S.sub rl h1 rv
      have hd := depth_zs h1
      refine call_maxS hh hl (by simpa using hr) (by have := rv.length; have := rl.length; simp at *; omega) h2 (by omega) fun v' h' tk hv hk => ?_
      obtain ⟨x, hx, rx⟩ := best_core (pins := pins) (σ0 := σ0) (s := s) (fun a b => PySem.W.dataLt b a) rl rv hv
      exact ⟨x, H, Iv.kept (t' := tk) hk, hx, (show Po .val C env ad σ I H Q n _ from q) x I H S (Sub.refl _) (SameX.refl _) rx⟩
  cases d <;> first | exact False.elim q | skip
  · exact main _ (.inr (r1.any (env' := env) (ad' := ad) (by decide))) q
  · exact main _ (.inl (r1.any (env' := env) (ad' := ad) (by decide))) q
/-! ### displays with stars -/
def eStar (f : Env → M D) (g : Env → M (List D)) : Env → M (List D) := fun e => f e >>= itemsVM >>= fun xs => g e >>= fun ys => .ret (xs ++ ys)
def PoAV (C : Ctx) (env : Env) (ad : Nat → Addr) (σ : L2.St) (I H : Hp) (Q : List V → Hp → Prop) : Nat → List D → Prop := fun n' ds => ∀ vs I' H', Sim C n' env ad σ I' H' → Sub I I' → SameX C.W.S H H' → RepL C.W I' vs ds → Q vs H'
def tAV (C : Ctx) (ex : Ex) (f : Env → M (List D)) : TA := fun σ H Q => ∃ n env ad I, Sim C n env ad σ I H ∧ AllB (f env) n (PoAV C env ad σ I H Q) (Pe C ex env ad σ I H)
abbrev PMAV (C : Ctx) (ex : Ex) (X : Cx) (es : List Expr) (f : Env → M (List D)) : Prop := PA X es (tAV C ex f)
variable {e : Expr} {es : List Expr} {f g : Env → M D} {fs : Env → M (List D)} {pos : Pos}
theorem pmav_nil : PMAV C ex X [] eNil := PA_imp pa_nil fun σ H Q ⟨n, env, ad, I, S, q⟩ => (show PoAV C env ad σ I H Q n [] from q) [] I H S (Sub.refl _) (SameX.refl _) .nil
theorem pmav_cons (ha : PM .val C ex X e f) (hr : PMAV C ex X es fs) (hs : starEach (e :: es) X.env = (false, eval e X.env) :: starEach es X.env := by rfl) : PMAV C ex X (e :: es) (eCons f fs) :=
  PA_imp (pa_cons ha hr hs) fun σ H Q q => by
    obtain ⟨n, env, ad, I, S, q⟩ := q
    have q : AllB (f env >>= fun x => fs env >>= fun xs => .ret (x :: xs)) n (PoAV C env ad σ I H Q) (Pe C ex env ad σ I H) := q
    rw [allB_bind] at q
    refine ⟨n, env, ad, I, S, q.mono (fun n1 d q1 => ?_) (fun _ _ _ k => k)⟩
    intro v1 I1 H1 s1 i1 x1 r1
    rw [allB_bind] at q1
    refine ⟨n1, env, ad, I1, s1, q1.mono (fun n2 ds q2 => ?_) (fun n' c d k => k.mono i1 x1)⟩
    intro vs I2 H2 s2 i2 x2 r2
    have r1 : Rep C.W I1 v1 d := r1
    exact (show PoAV C env ad σ I H Q n2 (d :: ds) from q2) (v1 :: vs) I2 H2 s2 (i1.trans i2) (x1.trans x2) (.cons (r1.mono i2) r2)
theorem pmav_star {p : Pos} (hK : C.W.K = X.K) (ha : PM .rd C ex X e f) (hr : PMAV C ex X es fs) (hs : starEach (.Starred e p :: es) X.env = (true, eval e X.env) :: starEach es X.env := by rfl) : PMAV C ex X (.Starred e p :: es) (eStar f fs) :=
  PA_imp (StX.pa_star ha hr hs) fun σ H Q q => by
    obtain ⟨n, env, ad, I, S, q⟩ := q
    have q : AllB (f env >>= itemsVM >>= fun xs => fs env >>= fun ys => .ret (xs ++ ys)) n (PoAV C env ad σ I H Q) (Pe C ex env ad σ I H) := q
    rw [bind_assoc', allB_bind] at q
    refine ⟨n, env, ad, I, S, q.mono (fun n1 d q1 => ?_) (fun _ _ _ k => k)⟩
    intro v1 I1 H1 s1 i1 x1 r1
    have fin : ∀ ds (ws : List V), RepL C.W I1 ws ds → AllB (fs env >>= fun ys => .ret (ds ++ ys)) n1 (PoAV C env ad σ I H Q) (Pe C ex env ad σ I H) → tAV C ex fs σ H1 fun ys H2 => Q (ws ++ ys) H2 := fun ds ws rl q1 => by
      rw [allB_bind] at q1
      refine ⟨n1, env, ad, I1, s1, q1.mono (fun n2 es q2 => ?_) (fun n' c d k => k.mono i1 x1)⟩
      intro vs I2 H2 s2 i2 x2 r2
      exact (show PoAV C env ad σ I H Q n2 (ds ++ es) from q2) (ws ++ vs) I2 H2 s2 (i1.trans i2) (x1.trans x2) ((rl.mono i2).append r2)
    cases d <;> first | exact False.elim q1 | skip
    · obtain ⟨a, ws, rfl, hq, rl, _⟩ := r1.tup s1
      rw [hK] at hq
      exact ⟨a, ws, rfl, .inl hq, fin _ ws rl q1⟩
    · obtain ⟨a, ws, rfl, hq, rl⟩ := r1.lst s1
      exact ⟨a, ws, rfl, .inr (SqL.of hq), fin _ ws rl q1⟩
theorem pm_tupV {x1} (ha : PMAV C ex X es fs) : PM .val C ex X (.Tuple es x1 pos) (eTup fs) :=
  PE_imp (pe_tup ha) fun σ H Q q => by
    obtain ⟨n, env, ad, I, S, q⟩ := q
    have q : AllB (fs env >>= fun xs => if xs.length ≤ line then .ret (D.tup xs) else .bad) n (Po .val C env ad σ I H Q) (Pe C ex env ad σ I H) := q
    rw [allB_bind] at q
    refine ⟨n, env, ad, I, S, q.mono (fun n1 ds q1 => ?_) (fun _ _ _ k => k)⟩
    intro vs I1 H1 s1 i1 x1 rl
    obtain ⟨hz, q1⟩ := allB_ite q1
    refine ⟨by rw [rl.length, ← line_eq]; exact hz, fun p hp => ?_⟩
    exact q1 _ (upd I1 p _) (upd H1 p _) (s1.laid hp) (i1.trans (sub_upd (s1.none_I hp))) (x1.trans (SameX.upd hp)) (Rep.tup (SqT.of upd_same) (rl.mono (sub_upd (s1.none_I hp))))
theorem pm_lstV (ha : PMAV C ex X es fs) : PM .fr C ex X (.List es pos) (eLst fs) :=
  PE_imp (pe_lst ha) fun σ H Q q => by
    obtain ⟨n, env, ad, I, S, q⟩ := q
    have q : AllB (fs env >>= fun xs => if xs.length ≤ line then .ret (D.lst xs) else .bad) n (Po .fr C env ad σ I H Q) (Pe C ex env ad σ I H) := q
    rw [allB_bind] at q
    refine ⟨n, env, ad, I, S, q.mono (fun n1 ds q1 => ?_) (fun _ _ _ k => k)⟩
    intro vs I1 H1 s1 i1 x1 rl
    obtain ⟨hz, q1⟩ := allB_ite q1
    refine ⟨by rw [rl.length, ← line_eq]; exact hz, fun p hp => ?_⟩
    exact q1 _ I1 (upd H1 p _) (s1.laid' hp) i1 (x1.trans (SameX.upd hp)) (s1.new hp rl)
/-! ### xs * k -/
def repLM : D → D → M D
  | .lst xs, .int k => if k.natAbs < 1000000000 ∧ xs.length * k.toNat ≤ line then .ret (.lst (List.replicate k.toNat xs).flatten) else .bad
  | _, _ => .bad
def repTM : D → D → M D
  | .tup xs, .int k => if xs.isEmpty = false ∧ 2 ≤ k ∧ k ≤ 1000 ∧ xs.length ≤ 1000 then .ret (.tup (List.replicate k.toNat xs).flatten) else .bad
  | _, _ => .bad
theorem RepL.rep {W : Wd} {J : Hp} {vs : List V} {ds : List D} (r : RepL W J vs ds) : ∀ k : Nat, RepL W J (List.replicate k vs).flatten (List.replicate k ds).flatten
  | 0 => .nil
  | k + 1 => by
    rw [List.replicate_succ, List.replicate_succ, List.flatten_cons, List.flatten_cons]
    exact r.append (RepL.rep r k)
theorem d_rep : OpR X (binaryOp .Mult) (rP .rd .rd .fr C ex repLM) := by
  intro pins s σ0 H x y v u Q Iv rx ry h
  obtain ⟨n, env, ad, σ, I, d, e, S, r1, r2, q⟩ := h
  cases d <;> cases e <;> first | exact False.elim q | skip
  obtain ⟨⟨hk, hz⟩, q⟩ := allB_ite (show AllB (if _ then _ else .bad) _ _ _ from q)
  obtain ⟨p1, v1, rfl, h1, l1⟩ := r1.lst S
  obtain rfl := r2.int
  exact op_rep pins s σ0 H _ _ v u Q Iv rx ry ⟨p1, _, v1, rfl, rfl, h1, by omega, by omega, by rw [l1.length, ← line_eq]; exact hz, fun p hp =>
    q _ I (upd H p _) (S.laid' hp) (Sub.refl _) (SameX.upd hp) (S.new hp (l1.rep _))⟩
theorem d_repT (hK : C.W.K = X.K) : OpR X (binaryOp .Mult) (rP .rd .rd .val C ex repTM) := by
  intro pins s σ0 H x y v u Q Iv rx ry h
  obtain ⟨n, env, ad, σ, I, d, e, S, r1, r2, q⟩ := h
  cases d <;> cases e <;> first | exact False.elim q | skip
  obtain ⟨⟨he, hk, hk2, hz⟩, q⟩ := allB_ite (show AllB (if _ then _ else .bad) _ _ _ from q)
  obtain ⟨p1, v1, rfl, h1, l1, _⟩ := r1.tup S
  rw [hK] at h1
  obtain rfl := r2.int
  refine op_repT pins s σ0 H _ _ v u Q Iv rx ry ⟨p1, _, v1, rfl, rfl, h1, fun z => ?_, hk, hk2, by rw [l1.length]; exact hz, fun p hp =>
    q _ (upd I p _) (upd H p _) (S.laid hp) (sub_upd (S.none_I hp)) (SameX.upd hp) (Rep.tup (SqT.of upd_same) ((l1.rep _).mono (sub_upd (S.none_I hp))))⟩
  subst z
  cases l1
  cases he
end
end PD

set_option Elab.async false
set_option linter.all false
set_option maxRecDepth 100000
set_option maxHeartbeats 4000000
/-! PDSort1: sorted(xs) of data of one kind, or of at most one thing. -/
namespace PySem.W
open PySem PySem.SeqAt PyProof.Rows
section
variable {prog : Program} {w : World} {A : Around} {E : Value → Shared → Prop} {s : Shared} {β : Type} {vs : List Value} {bs : List β} {enc : β → PyData} {R : Value → β → Prop}
theorem sortsAt_few {vs : List Value} {ds : List PyData} (e : EachIs (fun v d => ∃ as, Reads s.heap v d as) vs ds) (hal : AllAlike ds) (h1 : vs.length ≤ 1) (hn : ∀ d, d ∈ ds → d ≠ .none) (hu : ∀ d, d ∈ ds → A.units + d.depth < cLine) : SortsAt prog w A s (dataKind s.heap ds) vs := by
  refine ⟨fun v hv => ?_, general', fun E x y a b Q ha hb hq => ?_, fun h2 => by omega⟩
  · obtain ⟨d, hd, as, r⟩ := e.left v hv
    exact ⟨_, dataKind_some hal hd r⟩
  · obtain ⟨d, as, hd, ra, rfl⟩ := dataKind_inv ha
    obtain ⟨d', as', hd', rb, rfl⟩ := dataKind_inv hb
    have k : keyLt' general' x y = oneLt' false x y := rfl
    rw [k]
    exact oneLt_alike (fun z => by cases z) ra rb (hal d hd d' hd') (hn d hd) (Nat.lt_of_le_of_lt (Nat.add_le_add_left (Nat.min_le_left _ _) _) (hu d hd)) hq
theorem sorted_few {l : Addr} {Q : Value → Shared → Prop} (hl : s.heap.IsList l vs.toArray) (e : EachIs R vs bs) (er : EachIs (fun v b => ∃ as, Reads s.heap v (enc b) as) vs bs) (hal : AllAlike (bs.map enc)) (h1 : bs.length ≤ 1) (hn : ∀ b, b ∈ bs → enc b ≠ .none)
    (hu : ∀ b, b ∈ bs → A.units + 2 + (enc b).depth < cLine) (h : ∀ out, out.length = bs.length → EachIs R out (bs.mergeSort (dataLe false enc)) → Q (.ref (s.heap.objs.size + 1)) { s with heap := sortedAll s.heap vs (List.toArray out) }) :
    wpAny (model prog w) A (call (.builtin "sorted") [.ref l]) Q E s := by
  have er' : EachIs (fun v b => ∃ as, Reads (sortingHeap (copyHeap s.heap vs) (s.heap.objs.size + 1) vs) v (enc b) as) vs bs := er.mono fun _ _ ⟨as, r⟩ => ⟨as, PyProof.Rows.Reads.keeps (fun _ _ => sorting_copy_old) r⟩
  have hvl : vs.length = bs.length := e.length
  exact sorted_vals hl (sortsAt_few (s := { s with heap := sortingHeap (copyHeap s.heap vs) (s.heap.objs.size + 1) vs }) (each_map (R := fun v d => ∃ as, Reads (sortingHeap (copyHeap s.heap vs) (s.heap.objs.size + 1) vs) v d as) enc er') hal (by omega) (fun d hd => by
    obtain ⟨b, hb, rfl⟩ := List.mem_map.mp hd
    exact hn b hb) (bound_map hu)) (by rw [hvl]; exact Nat.le_trans h1 (by decide))
    (h _ (by rw [sortVals_length false rfl]; exact hvl) (sortVals_data false e er' hal))
end
end PySem.W
namespace PD
open PySem PySem.Spec L2 PDL
def sortHL (ds : List D) : M D := if ds.length ≤ 1 ∧ okRs 60 ds = true ∧ (ds.all fun d => ds.all fun e => PySem.W.alike (toPz d) (toPz e)) = true ∧ (ds.all fun d => !isNon d) = true then .ret (.lst ds) else sortGL ds
/-- sorted(xs), xs a list -/
def sortedHM : D → M D
  | .lst ds => sortHL ds
  | _ => .bad
section
variable {C : Ctx} {ex : Ex} {X : Cx} {n : Nat} {env : Env} {ad : Nat → Addr} {σ : L2.St} {I H : Hp}
theorem c_sortedH (hK : C.W.K = X.K) (hs : (X.K.lookup sysModules).isSome = true) (hu : X.A.units + 62 < cLine) : CallR X (.builtin "sorted") (rC [.rd] .fr C ex (arg1 sortedHM)) := by
  intro pins s σ0 H vs us Q Iv r h
  obtain ⟨n, env, ad, σ, I, ds, S, ra, q⟩ := h
  obtain ⟨v, d, rfl, rfl, r1⟩ := ra.one
  cases d <;> first | exact False.elim q | skip
  rename_i ds
  have q : AllB (sortHL ds) n (Po .fr C env ad σ I H Q) (Pe C ex env ad σ I H) := q
  unfold sortHL at q
  by_cases hc : ds.length ≤ 1 ∧ okRs 60 ds = true ∧ (ds.all fun d => ds.all fun e => PySem.W.alike (toPz d) (toPz e)) = true ∧ (ds.all fun d => !isNon d) = true
  · rw [if_pos hc] at q
    obtain ⟨h1, hok, hal, hnn⟩ := hc
    obtain ⟨u, rfl, ru⟩ := vals1 r
    obtain ⟨p, ws, rfl, hp, rl⟩ := (r1.any (env' := env) (ad' := ad) (by decide)).lst S
    obtain rfl : u = Value.ref p := ru
    obtain ⟨its, rv, hli, hz⟩ := Iv.list (SqL.of hp)
    obtain ⟨e1, e2⟩ := each_of hK hs Iv S.sub rl hok rv
    refine PySem.W.sorted_few (R := fun u d => ∃ v, RelV v u ∧ Rep C.W I v d) (enc := toPz) (bs := ds) hli.isList e1 e2 (fun d hd d' hd' => ?_) h1 (fun b hb e => ?_) (fun b hb => ?_) fun out hout eo => ?_
    · obtain ⟨b, hb, rfl⟩ := List.mem_map.mp hd
      obtain ⟨b', hb', rfl⟩ := List.mem_map.mp hd'
      exact List.all_eq_true.mp (List.all_eq_true.mp hal b hb) b' hb'
    · have h4 := List.all_eq_true.mp hnn b hb
      have h5 := okRs_mem hok hb
      cases b <;> first | (cases h4; done) | (cases h5; done) | (unfold toPz at e; cases e)
    · have := depth_z (okRs_mem hok hb)
      omega
    · have hms : ds.mergeSort (PySem.W.dataLe false toPz) = ds := by
        match ds, h1 with
        | [], _ => simp
        | [d], _ => simp
      rw [hms] at eo
      obtain ⟨ys, hv, hr⟩ := each_back eo
      have hd0 : H (s.heap.objs.size + 1) = none := Iv.hok.fresh (Nat.le_succ _)
      obtain ⟨c, hc⟩ := PyProof.Rows.sortedAll_at s.heap its out.toArray
      refine ⟨.ref _, upd H (s.heap.objs.size + 1) (.lst ys), Iv.laid (t' := s.toks) (fun b o e => PyProof.Rows.sortedAll_old e) (Nat.le_succ _) ⟨?_, out, c, hv, hc⟩, rfl, (show Po .fr C env ad σ I H Q n (.lst ds) from q) _ I _ (S.laid' hd0) (Sub.refl _) (SameX.upd hd0) (S.new hd0 hr)⟩
      rw [hv.length, hout]
      exact Nat.le_trans h1 (by rw [sizeLine_eq]; decide)
  · rw [if_neg hc] at q
    exact c_sortedG hK hs hu pins s σ0 H [v] us Q Iv r ⟨n, env, ad, σ, I, [.lst ds], S, ra, q⟩
end
end PD

set_option Elab.async false
set_option linter.all false
set_option maxRecDepth 100000
set_option maxHeartbeats 4000000
/-! PDSort2: sorted of tuples some of which are empty, from a list or a tuple; the sort by insertion. -/
namespace PDL
open PySem PySem.Calls PySem.W PyProof.Rows PySem.SeqAt
section
variable {prog : Program} {w : World} {A : Around} {s : Shared}
/-- one tuple before another, by the tuples' own < -/
theorem tup_one {xs ys : List PyData} {a b : Value} {as bs : List Addr} {E : Value → Shared → Prop} {Q : Bool → Shared → Prop} (ra : Reads s.heap a (.tuple xs) as) (rb : Reads s.heap b (.tuple ys) bs) (h : alike (.tuple xs) (.tuple ys) = true)
    (hu : A.units + min (PyData.tuple xs).depth (PyData.tuple ys).depth < cLine) (hq : Q (dataLt (.tuple xs) (.tuple ys)) s) : wpAny (model prog w) A (oneLt' true a b) Q E s := by
  have hal : alikeAll xs ys = true := by simpa [alike] using h
  cases ra with
  | @tuple l o vs n _ as₁ h1 h2 h3 h4 =>
    cases rb with
    | @tuple l' o' vs' n' _ bs₁ k1 k2 k3 k4 =>
      have m1 : vs.size = xs.length := by simpa using ReadsAll.length _ _ _ h4
      have m2 : vs'.size = ys.length := by simpa using ReadsAll.length _ _ _ k4
      rw [dataLt_tuple, ← firstLt_toks xs ys hal, ← m1, ← m2] at hq
      rw [oneLt'_eq]
      simp only [if_true]
      obtain ⟨oc, od, dat, osl⟩ := o
      obtain ⟨oc', od', dat', osl'⟩ := o'
      simp only at h2 h3 k2 k3
      subst h2 h3 k2 k3
      refine wpAny_bind (wpAny_cRoomFor (room_here hu) (wpAny_bind (wpAny_callSpecialIfBound?_slot (T := "tuple") ⟨_, h1, rfl⟩ F.slot_tuple_lt
        (call_meets F.slot_tuple_lt ⟨_, h1, rfl⟩ F.entry_tuple_lt (F.args_tuple_lt_2 _ _) (tuple_ltAt l l' vs vs' n n' od od' osl osl' (pairEq xs ys) fun j => dataLt (xs.getD j .none) (ys.getD j .none))
          ⟨h1, k1, fun j j1 j2 => ?_, fun j j1 j2 hj => ?_, wpAny_truthy_bool hq⟩))))
      · have := eqAt_alikeAll xs ys A.in1 s vs.toList vs'.toList _ _ h4 k4 hal (room_in hu) j (by simpa using j1) (by simpa using j2)
        simpa using this
      · have := rcLt_alikeAll xs ys A.in1 s vs.toList vs'.toList _ _ h4 k4 hal (room_in hu) j (by simpa using j1) (by simpa using j2) hj
        simpa using this

/-- a tuple with an item -/
def fullT : PyData → Bool
  | .tuple (_ :: _) => true
  | _ => false
def tupT : PyData → Bool
  | .tuple _ => true
  | _ => false
theorem firsts_at {M : Model} {E : Value → Shared → Prop} : ∀ {vs : List Value} {ds : List PyData}, EachIs (fun v d => ∃ as, Reads s.heap v d as) vs ds → (∀ d ∈ ds, tupT d = true) → ∃ os : List (Option Value), os.map (·.isSome) = ds.map fullT ∧ ∀ {Q : List (Option Value) → Shared → Prop}, Q os s → wpAny M A (vs.mapM firstOfTuple') Q E s
  | _, _, .nil, _ => ⟨[], rfl, fun h => by rw [List.mapM_nil]; exact wpAny_pure h⟩
  | v :: vs, d :: ds, .cons ⟨as, r⟩ t, ht => by
    obtain ⟨os, h1, h2⟩ := firsts_at (M := M) (E := E) t fun d hd => ht d (List.mem_cons_of_mem _ hd)
    have hd := ht d List.mem_cons_self
    cases d <;> first | cases hd | skip
    rename_i ys
    cases r with
    | @tuple a o xs n _ _ ho hc hdd hr =>
      have hl : xs.size = ys.length := by simpa using ReadsAll.length _ _ _ hr
      refine ⟨xs[0]? :: os, ?_, fun {Q} hq => ?_⟩
      · rw [List.map_cons, List.map_cons, h1]
        congr 1
        cases ys with
        | nil => simp [fullT]; simpa using hl
        | cons y ys => simp [fullT]; rw [hl, List.length_cons]; omega
      · rw [List.mapM_cons]
        refine wpAny_bind ?_
        rw [kas_first_eq]
        refine wpAny_bind (wpAny_typeOf (T := "tuple") ⟨o, ho, hc⟩ ?_)
        rw [if_neg (by decide)]
        refine wpAny_bind (listItems_at ho hdd (wpAny_pure ?_))
        exact wpAny_bind (h2 (Q := fun os s' => wpAny M A (pure (xs[0]? :: os)) Q E s') (wpAny_pure hq))
/-- tuples that are not all with an item can be sorted -/
theorem sortsAt_tups {vs : List Value} {ds : List PyData} (e : EachIs (fun v d => ∃ as, Reads s.heap v d as) vs ds) (hal : AllAlike ds) (ht : ∀ d ∈ ds, tupT d = true) (he : (ds.all fullT) = false) (hu : ∀ d, d ∈ ds → A.units + d.depth < cLine) : SortsAt prog w A s (dataKind s.heap ds) vs := by
  have room : ∀ {d d' : PyData}, d ∈ ds → A.units + min d.depth d'.depth < cLine := fun {d d'} hd => Nat.lt_of_le_of_lt (Nat.add_le_add_left (Nat.min_le_left _ _) _) (hu d hd)
  refine ⟨fun v hv => ?_, ?_⟩
  · obtain ⟨d, hd, as, r⟩ := e.left v hv
    exact ⟨_, dataKind_some hal hd r⟩
  · have ltG : H.LtAt prog w A s (dataKind s.heap ds) general' := by
      intro E x y a b Q ha hb hq
      obtain ⟨d, as, hd, ra, rfl⟩ := dataKind_inv ha
      obtain ⟨d', as', hd', rb, rfl⟩ := dataKind_inv hb
      have h1 := ht d hd
      show wpAny (model prog w) A (oneLt' false x y) Q E s
      exact oneLt_alike (f := false) (fun z => nomatch z) ra rb (hal d hd d' hd') (by rintro rfl; cases h1) (room hd) hq
    have ltO : H.LtAt prog w A s (dataKind s.heap ds) oneType' := by
      intro E x y a b Q ha hb hq
      obtain ⟨d, as, hd, ra, rfl⟩ := dataKind_inv ha
      obtain ⟨d', as', hd', rb, rfl⟩ := dataKind_inv hb
      have h1 := ht d hd
      have h2 := ht d' hd'
      have h3 := hal d hd d' hd'
      have h4 := room (d' := d') hd
      cases d <;> first | cases h1 | skip
      cases d' <;> first | cases h2 | skip
      rw [keyLt'_oneType]
      exact tup_one ra rb h3 h4 hq
    -- which of the two: by the first
    have kinds : ∀ (E : Value → Shared → Prop) {Q : SortKind → Shared → Prop}, 2 ≤ vs.length → Q (if (ds.head?.map fullT) = some true then general' else oneType') s → wpAny (model prog w) A (keyKind' vs.toArray) Q E s := fun E Q h2 hq => by
      obtain ⟨os, o1, o2⟩ := firsts_at (M := model prog w) (A := A) (E := E) e ht
      rw [keyKind'_eq, List.mapM_toArray, map_eq_pure_bind]
      refine wpAny_bind (wpAny_bind (o2 (wpAny_pure ?_)))
      have hall : (os.toArray.all fun x => x.isSome) = false := by
        rw [List.all_toArray]
        have : os.all (fun x => x.isSome) = ds.all fullT := by
          have z := congrArg (fun l : List Bool => l.all id) o1
          simpa [List.all_map] using z
        rw [this, he]
      rw [if_neg (by rw [hall]; exact Bool.false_ne_true)]
      have hh : (os.toArray[0]?.bind id).isSome = decide (ds.head?.map fullT = some true) := by
        cases os with
        | nil => cases ds with
          | nil => rfl
          | cons d ds => cases o1
        | cons o os => cases ds with
          | nil => cases o1
          | cons d ds =>
            rw [List.map_cons, List.map_cons] at o1
            injection o1 with o1 _
            simp [o1]
      rw [hh]
      by_cases hd : ds.head?.map fullT = some true
      · rw [if_pos hd] at hq
        rw [if_pos (decide_eq_true hd)]
        exact wpAny_pure hq
      · rw [if_neg hd] at hq
        rw [if_neg (by rw [decide_eq_false hd]; exact Bool.false_ne_true)]
        rw [oneTypeOnly'_eq, List.mapM_toArray, map_eq_pure_bind]
        have hT : ∀ v ∈ vs, Looks (model prog w) s.heap (typeOf v) (.type "tuple") := fun v hv => by
          obtain ⟨d, hd, as, r⟩ := e.left v hv
          have h1 := ht d hd
          have := looks_reads (M := model prog w) r
          cases d with
          | tuple ys => exact this
          | _ => cases h1
        refine wpAny_bind (wpAny_bind (wpAny_bind (kas_mapM (r := Value.type "tuple") _ (fun v hv Q' hq => (hT v hv).here hq) (wpAny_pure ?_))))
        obtain ⟨v1, vs', rfl⟩ : ∃ v1 vs', vs = v1 :: vs' := by
          cases vs with
          | nil => simp at h2
          | cons a b => exact ⟨a, b, rfl⟩
        have hall2 : ((List.map (fun _ => Value.type "tuple") (v1 :: vs')).toArray.all fun x => x == Value.type "tuple") = true := by
          simp only [List.all_toArray, List.all_map, List.all_eq_true]
          intro _ _
          exact beq_self_eq_true _
        have h0 : (List.map (fun _ => Value.type "tuple") (v1 :: vs')).toArray[0]? = some (Value.type "tuple") := by simp
        rw [h0]
        simp only [hall2, if_true]
        exact wpAny_pure (wpAny_pure hq)
    by_cases hd : ds.head?.map fullT = some true
    · exact ⟨general', ltG, fun h2 E Q hq => kinds E h2 (by rw [if_pos hd]; exact hq)⟩
    · exact ⟨oneType', ltO, fun h2 E Q hq => kinds E h2 (by rw [if_neg hd]; exact hq)⟩
/-- sorted(l) of a list or a tuple, whatever its values are sorted by -/
theorem sorted_by {l : Addr} {vs : List Value} {κ : PyProof.Rows.KeyKind} {E : Value → Shared → Prop} {Q : Value → Shared → Prop} (hl : s.heap.IsList l vs.toArray ∨ s.heap.IsTuple l vs.toArray) (S : SortsAt prog w A.in1.in1 { s with heap := sortingHeap (copyHeap s.heap vs) (s.heap.objs.size + 1) vs } κ vs) (hL : vs.length ≤ sizeLine)
    (h : Q (.ref (s.heap.objs.size + 1)) { s with heap := sortedAll s.heap vs (sortVals κ false vs vs).toArray }) : wpAny (model prog w) A (call (.builtin "sorted") [.ref l]) Q E s := by
  refine Calls.call_function_entry kind_sorted plain_sorted entry_sorted (args_sorted1 _) ?_
  unfold Builtin.«sorted»
  refine wpAny_bind (m := checkCount "sorted" 1 1 _) (wpAny_pure ?_)
  refine wpAny_bind (hl.elim (fun hl => collect_list hl ?_ hL) (fun hl => PD.collect_tup hl ?_ hL))
  all_goals
    refine wpAny_bind (wpAny_newList ?_ hL)
    have hsz : ((s.heap.push (seqObj "list" #[] 0)).update s.heap.objs.size (Obj.mapSeq (· ++ vs.toArray))).objs.size = s.heap.objs.size + 1 := by
      rw [Heap.size_update, size_push']
    show wpAny _ _ _ _ _ { s with heap := copyHeap s.heap vs }
    rw [hsz]
    refine wpAny_bind (wpAny_holding (wpAny_call_entry slot_list_sort ⟨_, copyHeap_at s.heap vs, rfl⟩ entry_list_sort (list_sort_vals (s := { s with heap := copyHeap s.heap vs }) (copyHeap_at s.heap vs) S hL ⟨_, rfl, ?_⟩) (args_list_sort _)))
    exact wpAny_pure ⟨_, rfl, h⟩
end
end PDL

set_option Elab.async false
set_option linter.all false
set_option maxRecDepth 100000
set_option maxHeartbeats 4000000
/-! PDSort3: sorted by insertion: one operation for lists and tuples of data. -/
namespace PD
open PySem PySem.Spec L2 PDL
section
variable {α : Type} (le : α → α → Bool)
def insS (a : α) : List α → List α
  | [] => [a]
  | b :: l => if le a b = true then a :: b :: l else b :: insS a l
def isort : List α → List α
  | [] => []
  | a :: l => insS le a (isort l)
variable {le}
theorem insS_skip (a : α) : ∀ (l1 l2 : List α), (∀ b ∈ l1, le a b = false) → insS le a (l1 ++ l2) = l1 ++ insS le a l2
  | [], _, _ => rfl
  | b :: l1, l2, h => by
    rw [List.cons_append, insS, if_neg (by rw [h b List.mem_cons_self]; exact Bool.false_ne_true), insS_skip a l1 l2 fun c hc => h c (List.mem_cons_of_mem _ hc)]
    rfl
theorem isort_eq (trans : ∀ a b c : α, le a b = true → le b c = true → le a c = true) (total : ∀ a b : α, (le a b || le b a) = true) : ∀ l : List α, l.mergeSort le = isort le l
  | [] => List.mergeSort_nil
  | a :: l => by
    obtain ⟨l1, l2, h1, h2, h3⟩ := List.mergeSort_cons trans total a l
    have hs := List.pairwise_mergeSort trans total (a :: l)
    rw [h1] at hs ⊢
    rw [isort, ← isort_eq trans total l, h2, insS_skip a l1 l2 fun b hb => by simpa using h3 b hb]
    congr 1
    cases l2 with
    | nil => rfl
    | cons c l2 =>
      have : le a c = true := List.rel_of_pairwise_cons (List.pairwise_append.mp hs).2.1 List.mem_cons_self
      rw [insS, if_pos this]
end
theorem leD_trans (a b c : D) (h1 : leD a b = true) (h2 : leD b c = true) : leD a c = true := by
  unfold leD at *
  rw [PySem.W.dataLe_eq] at *
  simp only [cond_false, Bool.not_eq_true'] at *
  exact PyProof.Rows.KeyOrd.kle_trans (O := PyProof.Rows.listOrd PyProof.Rows.itemOrd) h1 h2
theorem leD_total (a b : D) : (leD a b || leD b a) = true := by
  unfold leD
  rw [PySem.W.dataLe_eq]
  simp only [cond_false]
  cases h : PySem.W.dataLt (toPz b) (toPz a) with
  | false => rfl
  | true =>
    have : PySem.W.dataLt (toPz a) (toPz b) = false := PyProof.Rows.KeyOrd.kle_of_klt (O := PyProof.Rows.listOrd PyProof.Rows.itemOrd) h
    rw [this]
    rfl
def isTup : D → Bool
  | .tup _ => true
  | _ => false
def sortTL (ds : List D) : M D := if ds.length ≤ line ∧ okRs 60 ds = true ∧ (ds.all fun d => ds.all fun e => PySem.W.alike (toPz d) (toPz e)) = true ∧ (ds.all hasItem || ds.all noTup || ds.all isTup && !ds.all hasItem) = true then .ret (.lst (isort leD ds)) else .bad
/-- sorted(xs), xs a list or a tuple -/
def sortedTM : D → M D
  | .lst ds => sortTL ds
  | .tup ds => sortTL ds
  | _ => .bad
theorem fullT_z : ∀ d : D, fullT (toPz d) = hasItem d := fun d => by
  cases d <;> first | rfl | skip
  · rename_i xs
    cases xs <;> simp [toPz, toPzs, fullT, hasItem]
  all_goals simp [toPz, fullT, hasItem]
section
variable {C : Ctx} {ex : Ex} {X : Cx} {n : Nat} {env : Env} {ad : Nat → Addr} {σ : L2.St} {I H : Hp}
theorem c_sortedT (hK : C.W.K = X.K) (hs : (X.K.lookup sysModules).isSome = true) (hu : X.A.units + 62 < cLine) : CallR X (.builtin "sorted") (rC [.rd] .fr C ex (arg1 sortedTM)) := by
  intro pins s σ0 H vs us Q Iv r h
  obtain ⟨n, env, ad, σ, I, ds, S, ra, q⟩ := h
  obtain ⟨v, d, rfl, rfl, r1⟩ := ra.one
  obtain ⟨u, rfl, ru⟩ := vals1 r
  have r1 := r1.any (env' := env) (ad' := ad) (by decide)
  have key : ∀ xs : List D, RepM .rd C env ad I H v (.lst xs) ∨ RepM .rd C env ad I H v (.tup xs) → AllB (sortTL xs) n (Po .fr C env ad σ I H Q) (Pe C ex env ad σ I H) → wpAny (model X.prog X.w) X.A (call (.builtin "sorted") [u]) (EP X pins σ0 Q) X.xe s := fun ds r1 q => by
    obtain ⟨a, ws, its, rfl, rl, rv, hl, hz⟩ := RepM.seq (X := X) hK Iv S r1
    obtain rfl : u = Value.ref a := ru
    obtain ⟨⟨hline, hok, hal, hk⟩, q⟩ := allB_ite (show AllB (if _ then _ else .bad) _ _ _ from q)
    obtain ⟨e1, e2⟩ := each_of hK hs Iv S.sub rl hok rv
    have e3 : PySem.W.EachIs (fun v b => ∃ as, Reads (PySem.W.sortingHeap (PySem.W.copyHeap s.heap its) (s.heap.objs.size + 1) its) v (toPz b) as) its ds := e2.mono fun _ _ ⟨as, r⟩ => ⟨as, PyProof.Rows.Reads.keeps (fun _ _ => PySem.W.sorting_copy_old) r⟩
    have e4 := PySem.W.each_map (R := fun v d => ∃ as, Reads (PySem.W.sortingHeap (PySem.W.copyHeap s.heap its) (s.heap.objs.size + 1) its) v d as) toPz e3
    have al : PySem.W.AllAlike (ds.map toPz) := fun d hd d' hd' => by
      obtain ⟨b, hb, rfl⟩ := List.mem_map.mp hd
      obtain ⟨b', hb', rfl⟩ := List.mem_map.mp hd'
      exact List.all_eq_true.mp (List.all_eq_true.mp hal b hb) b' hb'
    have hun : ∀ d, d ∈ ds.map toPz → X.A.in1.in1.units + d.depth < cLine := fun d hd => by
      obtain ⟨b, hb, rfl⟩ := List.mem_map.mp hd
      have := depth_z (okRs_mem hok hb)
      show X.A.units + 1 + 1 + _ < _
      omega
    have SA : PySem.W.SortsAt X.prog X.w X.A.in1.in1 { s with heap := PySem.W.sortingHeap (PySem.W.copyHeap s.heap its) (s.heap.objs.size + 1) its } (PySem.W.dataKind (PySem.W.sortingHeap (PySem.W.copyHeap s.heap its) (s.heap.objs.size + 1) its) (ds.map toPz)) its := by
      rcases Bool.or_eq_true_iff.mp hk with hk | hk
      · refine PySem.W.SortsAt.data (s := { s with heap := PySem.W.sortingHeap (PySem.W.copyHeap s.heap its) (s.heap.objs.size + 1) its }) e4 al ?_ hun
        rcases Bool.or_eq_true_iff.mp hk with hk | hk
        · refine .inl fun d hd => ?_
          obtain ⟨b, hb, rfl⟩ := List.mem_map.mp hd
          have := List.all_eq_true.mp hk b hb
          cases b <;> first | (cases this; done) | skip
          rename_i xs
          cases xs with
          | nil => cases this
          | cons x xs => exact ⟨toPz x, toPzs xs, by simp only [toPz, toPzs]⟩
        · refine .inr fun d hd => ?_
          obtain ⟨b, hb, rfl⟩ := List.mem_map.mp hd
          have h1 := List.all_eq_true.mp hk b hb
          have h2 := okRs_mem hok hb
          cases b <;> first | (cases h1; done) | (cases h2; done) | (unfold toPz; exact ⟨by simp, fun xs => by simp⟩)
      · obtain ⟨k1, k2⟩ := Bool.and_eq_true_iff.mp hk
        refine sortsAt_tups (s := { s with heap := PySem.W.sortingHeap (PySem.W.copyHeap s.heap its) (s.heap.objs.size + 1) its }) e4 al (fun d hd => ?_) ?_ hun
        · obtain ⟨b, hb, rfl⟩ := List.mem_map.mp hd
          have := List.all_eq_true.mp k1 b hb
          cases b <;> first | (cases this; done) | (unfold toPz; rfl)
        · rw [List.all_map]
          have : (ds.all (fullT ∘ toPz)) = ds.all hasItem := by
            congr 1
            funext d
            exact fullT_z d
          rw [this]
          simpa using k2
    refine sorted_by hl SA (by rw [e1.length, ← line_eq]; exact hline) ?_
    have eo := PySem.W.sortVals_data (h' := PySem.W.sortingHeap (PySem.W.copyHeap s.heap its) (s.heap.objs.size + 1) its) false e1 e3 al
    have hms : ds.mergeSort (PySem.W.dataLe false toPz) = isort leD ds := isort_eq leD_trans leD_total ds
    rw [hms] at eo
    generalize PySem.W.sortVals _ false its its = out at eo ⊢
    obtain ⟨ys, hv, hr⟩ := each_back eo
    have hd0 : H (s.heap.objs.size + 1) = none := Iv.hok.fresh (Nat.le_succ _)
    obtain ⟨c, hc⟩ := PyProof.Rows.sortedAll_at s.heap its out.toArray
    refine ⟨.ref _, upd H (s.heap.objs.size + 1) (.lst ys), Iv.laid (t' := s.toks) (fun b o e => PyProof.Rows.sortedAll_old e) (Nat.le_succ _) ⟨?_, out, c, hv, hc⟩, rfl, (show Po .fr C env ad σ I H Q n (.lst (isort leD ds)) from q) _ I _ (S.laid' hd0) (Sub.refl _) (SameX.upd hd0) (S.new hd0 hr)⟩
    have hlen : (isort leD ds).length = ds.length := by rw [← isort_eq leD_trans leD_total, List.length_mergeSort]
    rw [hr.length, hlen, ← line_eq]
    exact hline
  cases d <;> first | exact False.elim q | skip
  · exact key _ (.inr r1) q
  · exact key _ (.inl r1) q
end
end PD

set_option Elab.async false
set_option linter.all false
set_option maxRecDepth 100000
set_option maxHeartbeats 4000000
/-! PDArith: -x, x += e of ints, three stores at once. -/
namespace PD
open PySem PySem.Spec L2 PDL
def negM : D → M D
  | .int i => .ret (.int (-i))
  | _ => .bad
/-- x op= e, both ints -/
def sAug (op : Int → Int → Int) (i : Nat) (f : Env → M D) : Env → M (Fl × Env) := fun e => match e[i]? with
  | some (.v (.int a)) => tryB (f e) e fun d => match d with
    | .int b => .ret (.nx, e.set i (.v (.int (op a b))))
    | _ => .bad
  | _ => .bad
def sPar3 (i j l : Nat) (f g h : Env → M D) : Env → M (Fl × Env) := fun e => tryB (f e) e fun d => tryB (g e) e fun d' => tryB (h e) e fun d2 => .ret (.nx, ((e.set i (.v d)).set j (.v d')).set l (.v d2))
section
variable {C : Ctx} {ex : Ex} {X : Cx} {a b c e : Expr} {f g h : Env → M D} {pos : Pos} {m : Md}
theorem pm_neg (ha : PM .rd C ex X a f) : PM .val C ex X (.UnaryOp .USub a pos) (e1 negM f) :=
  PE_imp (pe_un un_neg ha) fun σ H Q q => by
    obtain ⟨n, env, ad, I, S, q⟩ := q
    have q : AllB (f env >>= negM) n (Po .val C env ad σ I H Q) (Pe C ex env ad σ I H) := q
    rw [allB_bind] at q
    refine ⟨n, env, ad, I, S, q.mono (fun n1 d q1 => ?_) fun _ _ _ k => k⟩
    intro v I1 H1 s1 i1 x1 r1
    cases d <;> first | exact False.elim q1 | skip
    obtain rfl := r1.int
    exact ⟨_, rfl, (show Po .val C env ad σ I H Q n1 _ from q1) _ I1 H1 s1 i1 x1 (Rep.int _)⟩
theorem ms_aug {op : Operator} {o : Int → Int → Int} {i : Nat} {x : Str} {pos' : Pos} (ho : PIp X op (ipI o)) (hN : X.N.Nodup) (hi : X.N[i]? = some x) (hx : Loc X.env.scope x) (he : PM .rd C ex X e f) (hf : X.fn x = true ∨ X.env.scope.names.lookup x = some .local := by first | exact .inl rfl | exact .inr rfl | assumption) :
    PMS C ex X (.AugAssign (.Name x pos') op e pos) (sAug o i f) := PS_imp (ps_aug hN hi hx he ho hf) fun Dn σ H ⟨n, env, ad, I, S, q⟩ => by
  have q : AllB (match env[i]? with
    | some (.v (.int a)) => tryB (f env) env fun d => match d with
      | .int b => M.ret (Fl.nx, env.set i (.v (.int (o a b))))
      | _ => .bad
    | _ => .bad) n (PoS C ex Dn I) noE := q
  split at q
  · rename_i a hs
    obtain ⟨v, h1, h2⟩ := S.sv i _ hs
    cases h2
    refine ⟨_, h1, n, env, ad, I, S, tM_S S q fun n' d v I' H' S' _ x r q' => ?_⟩
    cases d <;> first | exact False.elim q' | skip
    obtain rfl := r.int
    exact ⟨a, _, rfl, rfl, (show PoS C ex Dn I' n' (.nx, env.set i (.v (.int (o a _)))) from q') ad (σ.set i (some (.int (o a _)))) I' H' (S'.setV (Rep.int _)) (Sub.refl _)⟩
  · exact False.elim q
theorem ms_par3 {i j l : Nat} {x y z : Str} {px py pz pt : Pos} {kt k2 pt2} (hc : X.calm = true) (hN : X.N.Nodup) (hi : X.N[i]? = some x) (hj : X.N[j]? = some y) (hl : X.N[l]? = some z) (hij : i ≠ j) (hil : i ≠ l) (hjl : j ≠ l) (hx : X.env.scope.names.lookup x = some .local) (hy : X.env.scope.names.lookup y = some .local) (hz : X.env.scope.names.lookup z = some .local) (ha : PM .val C ex X a f) (hb : PM .val C ex X b g) (hcc : PM .val C ex X c h)
    (hw : swappedStores [.Tuple [.Name x px, .Name y py, .Name z pz] kt pt] (.Tuple [a, b, c] k2 pt2) X.env = pure (some [x, y, z])) (hs : swapsWithSole [.Tuple [.Name x px, .Name y py, .Name z pz] kt pt] (.Tuple [a, b, c] k2 pt2) pos.line X.env = pure false := by rfl)
    (na : starEach [a, b, c] X.env = (false, eval a X.env) :: starEach [b, c] X.env := by rfl) (nb : starEach [b, c] X.env = (false, eval b X.env) :: starEach [c] X.env := by rfl) (nc : starEach [c] X.env = (false, eval c X.env) :: starEach [] X.env := by rfl) : PMS C ex X (.Assign [.Tuple [.Name x px, .Name y py, .Name z pz] kt pt] (.Tuple [a, b, c] k2 pt2) pos) (sPar3 i j l f g h) :=
  PS_imp (ps_par3 hc hN hi hj hl hij hil hjl hx hy hz (pa_cons ha (pa_cons hb (pa_cons hcc pa_nil nc) nb) na) hw hs) fun Dn σ H q => by
    obtain ⟨n, env, ad, I, S, q⟩ := q
    refine ⟨n, env, ad, I, S, tM_S S (show AllB (tryB (f env) env fun d => tryB (g env) env fun d' => tryB (h env) env fun d2 => .ret (.nx, ((env.set i (.v d)).set j (.v d')).set l (.v d2))) n (PoS C ex Dn I) noE from q) fun n1 d v I1 H1 S1 i1 x1 r1 q1 => ?_⟩
    refine ⟨n1, env, ad, I1, S1, tM_S S1 q1 fun n2 d' w I2 H2 S2 i2 x2 r2 q2 => ?_⟩
    refine ⟨n2, env, ad, I2, S2, tM_S S2 q2 fun n3 d2 u I3 H3 S3 i3 x3 r3 q3 => ?_⟩
    exact ⟨v, w, u, rfl, (show PoS C ex Dn I3 n3 (.nx, ((env.set i (.v d)).set j (.v d')).set l (.v d2)) from q3) ad _ I3 H3 (((S3.setV (Rep.mono i3 (Rep.mono i2 r1))).setV (Rep.mono i3 r2)).setV r3) (Sub.refl _)⟩
end
end PD

set_option Elab.async false
set_option linter.all false
set_option maxRecDepth 100000
set_option maxHeartbeats 4000000
/-! PDMkX: an error object made as a value (not raised). -/
namespace PDL
open PySem PySem.Spec PyProof.Rows L2
section
variable {X : Cx} {e : Expr}
/-- an expression that makes an exception gives it as a value: tracked as XcO -/
theorem pe_mk {t : L2.St → Hp → XK → Prop} (he : PMk X e t) : PE X e (fun σ H Q => t σ H fun cls d H' => ∀ a, H' a = none → Q (.ref a) (upd H' a (XcO cls d a))) := by
  refine ⟨fun pins s σ H Q I h => ?_⟩
  refine wpAny_mono (he pins s σ H _ I h) (fun u s1 hu => ?_) fun _ _ x => x
  obtain ⟨a, oe, vs, sI, H', cls, d, rfl, J, k, hne, ha, hz, hd, h1, na, os, ag, r, q⟩ := hu
  have J2 : Inv X pins σ (upd H' a (XcO cls d a)) { sI with heap := s1.heap, toks := sI.toks } :=
    J.laidN k hne na ⟨⟨oe, vs, ha, hz, hd⟩, ⟨oe, ha⟩, fun _ _ ⟨o, v, q, r⟩ k => ⟨o, v, k o q, r⟩⟩
  exact ⟨.ref a, _, ⟨J2.ok, os.trans J2.os, ag, J2.base, J2.loc, J2.cell, J2.free, J2.freeC, J2.pin, J2.hok, J2.len⟩, rfl, q a na⟩
end
/-- X(), X an own exception class without own __init__ -/
theorem pmk_own0 {C : Addr} {bmB : List Value} {B newId initId : String} {x : Str} {p pos : Pos} (F : ExcBaseFacts B newId initId bmB) (q : PySem.W.excIn X.K C bmB newId = true) (gC : X.mg x = some (.ref C))
    (kC : PySem.W.keepIn X.K (.ref C) = true) (r : Raises X (.ref C)) (hg : Gl X x) (hdb : (x == ("__debug__" : Str)) = false := by decide) :
    PMk X (.Call (.Name x p) [] [] pos) (fun _ H Q => Q (.ref C) none H) := by
  intro pins s σ H Q I h
  refine wpAny_Call_Name_kw (ld_glob I hg gC ?_ hdb)
  refine PySem.W.callWith_K0 (K := X.K) I.kIn kC ?_
  show wpAny _ _ (call (.ref C) []) _ _ _
  obtain ⟨bm, N, nm, qn, bs, hdct, sn, sub, ab, col, dd, k0, k1, k2, k3, k5, mN, hC, hN, hni, T⟩ := exc_obj I.kIn q
  refine wpAny_call_exc_subT F T hC hN hni (fun h' e hm => ?_) (Nat.zero_le _)
  exact mk_of I hm r h (I.hok.gone hm.new)
end PDL
namespace PD
open PySem PySem.Spec PyProof.Rows L2 PDL
/-- C(x) / C('..') as a value: the object -/
def eMkX (c : Nat) (g : Str) (f : Env → M D) : Env → M D := fun e => f e >>= fun d => .ret (.obj c [(g, d)])
section
variable {C : Ctx} {ex : Ex} {X : Cx} {e : Expr} {f : Env → M D} {pos : Pos} {m : Md}
theorem pm_mk0 {c : Nat} {x mt : Str} {j : Nat} {p p2 : Pos} {bmB : List Value} {B newId initId : String} (F : ExcBaseFacts B newId initId bmB) (q : PySem.W.excIn X.K (C.W.cls c) bmB newId = true) (gC : X.mg x = some (.ref (C.W.cls c))) (kC : PySem.W.keepIn X.K (.ref (C.W.cls c)) = true) (r : Raises X (.ref (C.W.cls c))) (hX : C.W.isX c = true)
    (hg : Gl X x) (hdb : (x == ("__debug__" : Str)) = false := by decide) : PM .val C ex X (.Call (.Name x p) [.Constant (.str mt) j p2] [] pos) (fun _ => .ret (.obj c [])) :=
  PE_imp (pe_mk (pmk_own F q gC kC r hg hdb)) fun σ H Q ⟨n, env, ad, I, S, q⟩ => by
    intro a ha
    have q : Po .val C env ad σ I H Q n (.obj c []) := q
    exact q (.ref a) _ _ (S.laid ha) (sub_upd (S.none_I ha)) (SameX.upd ha) (.exc hX upd_same (.inl ⟨rfl, rfl⟩) .nil)
theorem pm_mk1 {c k : Nat} {x y : Str} {fI : Addr} {fd : FuncData} {p : Pos} (T : OexC X.K (C.W.cls c)) (iC : PySem.W.findIn X.K (.ref (C.W.cls c)) "__init__" = some (some (.ref fI))) (tI : PySem.W.typeIn X.K (.ref fI) = some (.type "function"))
    (F1 : FnOk X.prog X.w X.K X.mg X.base (L2.CX X.prog X.w) k fI fd ["self", y] (SpX X.K (C.W.cls c) (C.W.fld c))) (hX : C.W.isX c = true) (hr : Room (k + 1) X.A) (hb : L2.Binds X.K fd ["self", y] []) (hx : Passes (L2.CX X.prog X.w) X (fun _ _ _ => False)) (hg : Gl X x) (hm : X.mg x = some (.ref (C.W.cls c))) (ha : PM .val C ex X e f)
    (hdb : (x == ("__debug__" : Str)) = false := by decide) (he : starEach [e] X.env = (false, eval e X.env) :: starEach [] X.env := by rfl) (hpl : (backTo pos (starEach [] X.env)).any (·.1) = false := by rfl) : PM .val C ex X (.Call (.Name x p) [e] [] pos) (eMkX c (C.W.fld c) f) :=
  PE_imp (pe_mk (pmk_oex (dvs := []) T iC tI F1 hr hb .nil hx hg hm (pa_cons ha pa_nil he) hdb he hpl)) fun σ H Q ⟨n, env, ad, I, S, q⟩ => by
    refine ⟨n, env, ad, I, S, ?_⟩
    have q := allB_bind.mp q
    refine q.mono (fun n' d q1 v I' H' S' i x r => ⟨by show 1 ≤ 1000; decide, fun a ha => ?_⟩) fun _ _ _ z => z
    refine ⟨a, v, rfl, upd_same, fun dx h1 h2 => ?_⟩
    have h1' : H' dx = none := by rw [upd_ne h2] at h1; exact h1
    refine ⟨rfl, dx, [(C.W.fld c, v)], upd_same, ?_, h1', ?_⟩
    · rw [upd_ne h2, upd_same]
    · rw [del_laid ha h2]
      intro b hb
      have S2 := S'.laid (o := .xd [(C.W.fld c, v)]) h1'
      have S3 := S2.laid (o := XcO (.ref (C.W.cls c)) (some dx) b) hb
      have i1 : Sub I' (upd I' dx (.xd [(C.W.fld c, v)])) := sub_upd (S'.none_I h1')
      have i2 := i.trans i1
      have hI := S2.none_I hb
      have i3 : Sub (upd I' dx (.xd [(C.W.fld c, v)])) (upd (upd I' dx (.xd [(C.W.fld c, v)])) b (XcO (.ref (C.W.cls c)) (some dx) b)) := sub_upd hI
      have r2 : Rep C.W I' v d := r
      have r3 : RepF C.W (upd (upd I' dx (.xd [(C.W.fld c, v)])) b (XcO (.ref (C.W.cls c)) (some dx) b)) [(C.W.fld c, v)] [(C.W.fld c, d)] := .cons ((r2.mono i1).mono i3) .nil
      have q1 : Po .val C env ad σ I H Q n' (.obj c [(C.W.fld c, d)]) := q1
      exact q1 (.ref b) _ _ S3 (i2.trans i3) ((x.trans (SameX.upd h1')).trans (SameX.upd hb)) (.exc hX upd_same (.inr ⟨dx, rfl, i3 _ _ upd_same⟩) r3)
theorem pm_mkN {c : Nat} {x : Str} {p : Pos} (D0 : ErOk X.K X.mg x (C.W.cls c)) (hX : C.W.isX c = true) (hg : Gl X x) (hdb : (x == ("__debug__" : Str)) = false := by decide) : PM .val C ex X (.Call (.Name x p) [] [] pos) (fun _ => .ret (.obj c [])) :=
  PE_imp (pe_mk (pmk_own0 F.excBase_ValueError D0.ex D0.mg D0.kp (raises_own D0.sb D0.ty) hg hdb)) fun σ H Q ⟨n, env, ad, I, S, q⟩ => by
    intro a ha
    have q : Po .val C env ad σ I H Q n (.obj c []) := q
    exact q (.ref a) _ _ (S.laid ha) (sub_upd (S.none_I ha)) (SameX.upd ha) (.exc hX upd_same (.inl ⟨rfl, rfl⟩) .nil)
/-- C(e) of a class without a field: e is worked out, the object holds nothing of it -/
theorem pm_mkA {c : Nat} {x : Str} {p : Pos} (D0 : ErOk X.K X.mg x (C.W.cls c)) (hX : C.W.isX c = true) (hg : Gl X x) (ha : PM .val C ex X e f) (hdb : (x == ("__debug__" : Str)) = false := by decide)
    (he : starEach [e] X.env = (false, eval e X.env) :: starEach [] X.env := by rfl) (hpl : (backTo pos (starEach [] X.env)).any (·.1) = false := by rfl) : PM .val C ex X (.Call (.Name x p) [e] [] pos) (fun v => f v >>= fun _ => .ret (.obj c [])) :=
  PE_imp (pe_mk (pmk_ownA F.excBase_ValueError D0.ex D0.mg D0.kp (raises_own D0.sb D0.ty) hg (pa_cons ha pa_nil he) hdb he hpl)) fun σ H Q ⟨n, env, ad, I, S, q⟩ => by
    refine ⟨n, env, ad, I, S, ?_⟩
    have q := allB_bind.mp q
    refine q.mono (fun n' d q1 v I' H' S' i x r => ⟨by show 1 ≤ sizeLine; rw [sizeLine_eq]; omega, fun a ha => ?_⟩) fun _ _ _ z => z
    have q1 : Po .val C env ad σ I H Q n' (.obj c []) := q1
    exact q1 (.ref a) _ _ (S'.laid ha) (i.trans (sub_upd (S'.none_I ha))) (x.trans (SameX.upd ha)) (.exc hX upd_same (.inl ⟨rfl, rfl⟩) .nil)
theorem pm_mk1D {c k : Nat} {x : Str} {p : Pos} (D0 : ExOk X.prog X.w X.K X.mg X.base x k (C.W.cls c) (C.W.fld c)) (hX : C.W.isX c = true) (hr : Room (k + 1) X.A) (hg : Gl X x) (ha : PM .val C ex X e f) (hx : Passes (L2.CX X.prog X.w) X (fun _ _ _ => False))
    (hdb : (x == ("__debug__" : Str)) = false := by decide) (he : starEach [e] X.env = (false, eval e X.env) :: starEach [] X.env := by rfl) (hpl : (backTo pos (starEach [] X.env)).any (·.1) = false := by rfl) : PM .val C ex X (.Call (.Name x p) [e] [] pos) (eMkX c (C.W.fld c) f) := by
  obtain ⟨f, fd, y, T, h1, h2, F1, h3, h4⟩ := D0.ex
  exact pm_mk1 T h1 h2 F1 hX hr h4 hx hg h3 ha hdb he hpl
theorem pm_mk0D {c : Nat} {x mt : Str} {j : Nat} {p p2 : Pos} (D0 : ErOk X.K X.mg x (C.W.cls c)) (hX : C.W.isX c = true) (hg : Gl X x) (hdb : (x == ("__debug__" : Str)) = false := by decide) : PM .val C ex X (.Call (.Name x p) [.Constant (.str mt) j p2] [] pos) (fun _ => .ret (.obj c [])) :=
  pm_mk0 F.excBase_ValueError D0.ex D0.mg D0.kp (raises_own D0.sb D0.ty) hX hg hdb
end
end PD

set_option Elab.async false
set_option linter.all false
set_option maxRecDepth 100000
set_option maxHeartbeats 4000000
/-! PDSup: super().m(..) in a method of an own class: at the code of the def itself. -/
namespace PDL
open PySem PySem.Spec L2 PyProof.Rows NdefX ClX PySem.Calls
/-! ### judgements at the code of a body -/
abbrev atC {α : Type} (X : Cx) (b : List Stmt) (t : Sem α) (Q : α → Shared → Prop) (s : Shared) : Prop := _root_.PySem.wpAt (model X.prog X.w) X.A (.func b X.env) t Q X.xe s
structure AtE (X : Cx) (b : List Stmt) (e : Expr) (t : TE) : Prop where
  run : ∀ (pins : List (Addr × Obj)) (s : Shared) (σ : L2.St) (H : Hp) (Q : VK), Inv X pins σ H s → t σ H Q → atC X b (eval e X.env) (EP X pins σ Q) s
structure AtT (X : Cx) (b : List Stmt) (e : Expr) (t : TT) : Prop where
  run : ∀ (pins : List (Addr × Obj)) (s : Shared) (σ : L2.St) (H : Hp) (Q : Bool → Hp → Prop), Inv X pins σ H s → t σ H Q → atC X b (isTrue e X.env (eval e X.env)) (TP X pins σ Q) s
structure AtS (X : Cx) (b : List Stmt) (st : Stmt) (t : TS) : Prop where
  run : ∀ (pins : List (Addr × Obj)) (s : Shared) (σ : L2.St) (H : Hp) (D : Ends), Inv X pins σ H s → t D σ H → atC X b (exec st X.env) (SP X pins D) s
structure AtB (X : Cx) (b : List Stmt) (st : List Stmt) (t : TS) : Prop where
  run : ∀ (pins : List (Addr × Obj)) (s : Shared) (σ : L2.St) (H : Hp) (D : Ends), Inv X pins σ H s → t D σ H → atC X b (execs st X.env) (SP X pins D) s
section
variable {X : Cx} {b : List Stmt} {e a a2 : Expr} {es : List Expr} {st : Stmt} {rest b1 b2 : List Stmt} {te ta tb : TE} {tt tu : TT} {ts tr t1 t2 : TS} {pos : Pos}
theorem wat_mono {α : Type} {t : Sem α} {Q Q' : α → Shared → Prop} {s : Shared} (h : atC X b t Q s) (hq : ∀ a s', Q a s' → Q' a s') : atC X b t Q' s := fun Γ p hc hΓ => Sem.wp_mono _ Γ t (fun a _ s => hq a s) (fun _ _ _ h => h) p s (h Γ p hc hΓ)
theorem AtS.of (h : PS X st ts) : AtS X b st ts := ⟨fun pins s σ H D I q => _root_.PySem.wpAt_of_wpAny (h.run pins s σ H D I q)⟩
theorem AtB.of (h : PSs X rest tr) : AtB X b rest tr := ⟨fun pins s σ H D I q => _root_.PySem.wpAt_of_wpAny (h.run pins s σ H D I q)⟩
theorem AtE.imp {t t' : TE} (h : AtE X b e t) (k : ∀ σ H Q, t' σ H Q → t σ H Q) : AtE X b e t' := ⟨fun pins s σ H Q I q => h.run pins s σ H Q I (k σ H Q q)⟩
theorem AtT.imp {t t' : TT} (h : AtT X b e t) (k : ∀ σ H Q, t' σ H Q → t σ H Q) : AtT X b e t' := ⟨fun pins s σ H Q I q => h.run pins s σ H Q I (k σ H Q q)⟩
theorem AtS.imp {t t' : TS} (h : AtS X b st t) (k : ∀ D σ H, t' D σ H → t D σ H) : AtS X b st t' := ⟨fun pins s σ H D I q => h.run pins s σ H D I (k D σ H q)⟩
theorem AtB.imp {t t' : TS} (h : AtB X b rest t) (k : ∀ D σ H, t' D σ H → t D σ H) : AtB X b rest t' := ⟨fun pins s σ H D I q => h.run pins s σ H D I (k D σ H q)⟩
theorem ab_cons (h1 : AtS X b st ts) (h2 : AtB X b rest tr) : AtB X b (st :: rest) (tSeq ts tr) := by
  refine ⟨fun pins s σ H D I h => ?_⟩
  refine _root_.PySem.ks_wpAt_execs_cons (wat_mono (h1.run pins s σ H { D with nx := tr D } I h) fun f s1 q => ?_)
  cases f with
  | next =>
    obtain ⟨σ', H', I', q⟩ := q
    exact h2.run pins s1 σ' H' D I' q
  | ret v => exact q
  | brk => exact q
  | cont => exact q
theorem ab_one (h1 : AtS X b st ts) : AtB X b [st] ts := by
  refine ⟨fun pins s σ H D I h => ?_⟩
  refine _root_.PySem.ks_wpAt_execs_cons (wat_mono (h1.run pins s σ H D I h) fun f s1 q => ?_)
  cases f with
  | next => exact _root_.PySem.wpAt_of_wpAny (wpAny_execs_nil q)
  | ret v => exact q
  | brk => exact q
  | cont => exact q
theorem as_ret (he : AtE X b e te) : AtS X b (.Return (some e) pos) (tRet te) := by
  refine ⟨fun pins s σ H D I h => ?_⟩
  exact _root_.PySem.ks_wpAt_Return_some (wat_mono (he.run pins s σ H _ I h) fun v s1 ⟨x, H1, I1, r1, q1⟩ => ⟨x, σ, H1, I1, r1, q1⟩)
theorem as_expr (he : AtE X b e te) (hs : swapsWith e none pos.line X.env = pure false := by rfl) : AtS X b (.Expr e pos) (tDrop te) := by
  refine ⟨fun pins s σ H D I h => ?_⟩
  exact _root_.PySem.ks_wpAt_Expr_any (wat_mono (he.run pins s σ H _ I h) fun v s1 ⟨x, H1, I1, r1, q1⟩ => ⟨σ, H1, I1, q1⟩) I.quiet hs
theorem as_if (hc : AtT X b e tt) (ha : PSs X b1 t1) (hb : PSs X b2 t2) : AtS X b (.If e b1 b2 pos) (tIfS tt t1 t2) := by
  refine ⟨fun pins s σ H D I h => ?_⟩
  refine _root_.PySem.ks_wpAt_If (wat_mono (hc.run pins s σ H _ I h) fun d s1 ⟨H1, I1, q1⟩ => ?_)
  cases d with
  | true => exact _root_.PySem.wpAt_of_wpAny (ha.run pins s1 σ H1 D I1 q1)
  | false => exact _root_.PySem.wpAt_of_wpAny (hb.run pins s1 σ H1 D I1 q1)
theorem ae_and (ha : AtE X b a ta) (hb : PE X (.BoolOp .And (a2 :: es) pos) tb) : AtE X b (.BoolOp .And (a :: a2 :: es) pos) (tAndV ta tb) := by
  refine ⟨fun pins s σ H Q I h => ?_⟩
  show atC X b (do
    let v ← eval a X.env
    standAt pos
    let c ← holding [v] (truthy v)
    match BoolOp.And, c with
    | .And, false | .Or, true => pure v
    | _, _ => boolOp pos .And (eval a2 X.env :: evalEach es X.env)) _ _
  refine _root_.PySem.wpAt_bind (wat_mono (ha.run pins s σ H _ I h) fun v s1 ⟨x, H1, I1, r1, q1⟩ => ?_)
  obtain ⟨c, rfl, q1⟩ := q1
  cases r1
  refine _root_.PySem.wpAt_of_wpAny (wpAny_bind (wpAny_standAt (wpAny_bind (wpAny_holding (wpAny_truthy_bool ?_)))))
  cases c with
  | true => exact hb.run pins s1 σ H1 Q I1 q1
  | false => exact wpAny_pure ⟨.bl false, H1, I1, rfl, q1⟩
theorem at_val (h : AtE X b e te) (he : ∀ whole, isTrue e X.env whole = (do let v ← whole; standAt e.pos; holding [v] (truthy v)) := by intro _; rfl) : AtT X b e (tB te) := by
  refine ⟨fun pins s σ H Q I hw => ?_⟩
  rw [he]
  refine _root_.PySem.wpAt_bind (wat_mono (h.run pins s σ H _ I hw) fun v s1 ⟨x, H1, I1, r1, q1⟩ => ?_)
  obtain ⟨d, rfl, q⟩ := q1
  cases r1
  exact _root_.PySem.wpAt_of_wpAny (wpAny_bind (wpAny_standAt (wpAny_holding (wpAny_truthy_bool ⟨H1, I1, q⟩))))
theorem at_not (ha : AtT X b a tt) : AtT X b (.UnaryOp .Not a pos) (tNot tt) := by
  refine ⟨fun pins s σ H Q I h => ?_⟩
  show atC X b (do return !(← isTrue a X.env (eval a X.env))) _ _
  exact _root_.PySem.wpAt_bind (wat_mono (ha.run pins s σ H (fun c H1 => Q (!c) H1) I h) fun c s1 q => _root_.PySem.wpAt_of_wpAny (wpAny_pure q))
theorem at_or (ha : AtT X b a tt) (hb : PW X (.BoolOp .Or (a2 :: es) pos) tu) : AtT X b (.BoolOp .Or (a :: a2 :: es) pos) (tOr tt tu) := by
  refine ⟨fun pins s σ H Q I h => ?_⟩
  show atC X b (do
    match BoolOp.Or, ← isTrue a X.env (eval a X.env) with
    | .And, false => pure false
    | .Or, true => pure true
    | _, _ => allTrue .Or (a2 :: es) X.env) _ _
  refine _root_.PySem.wpAt_bind (wat_mono (ha.run pins s σ H _ I h) fun c s1 ⟨H1, I1, q1⟩ => ?_)
  cases c with
  | true => exact _root_.PySem.wpAt_of_wpAny (wpAny_pure ⟨H1, I1, q1⟩)
  | false => exact _root_.PySem.wpAt_of_wpAny (hb.run (pure .none) pins s1 σ H1 Q I1 q1)
end
/-! ### super() -/
/-- what of the text a def that says super() must have: itself at f, the class cell at cc, its class D, its code object at cd -/
structure SupAt (prog : Program) (K : PySem.W.Frag) (f cc D cd : Addr) (fd : FuncData) : Prop where
  fn : ∃ oc od osl, K.lookup f = some ⟨oc, od, .func fd, osl⟩
  hd : ∃ ar : Arg, (fd.params.posonlyargs ++ fd.params.args).head? = some ar ∧ ar.arg = ("self" : Str)
  code : ∃ oc od vs osl file tf, K.lookup cd = some ⟨oc, od, .fields vs, osl⟩ ∧ vs[2]? = some (.str file tf) ∧ ((prog.main.file : Str) == file) = true
  cell : ∃ oc od osl, K.lookup cc = some ⟨oc, od, .cell (some (.ref D)), osl⟩
  cls : (PySem.W.clsIn K D).isSome = true
  free : PySem.W.nsIn K mainGlobals "super" = some none
  thirdparty : PySem.W.nsIn K cStatics "thirdparty.any" = some none
  top : (prog.main.scope.names.lookup ("super" : Str)).isSome = false
/-- .. and the method that super() finds, m of an object of the class C: at f2 -/
structure SupTo (K : PySem.W.Frag) (C D : Addr) (m : Str) (f2 : Addr) : Prop where
  sub : PySem.W.mroIn K C (.ref D) = some true
  to : PySem.W.ks_superIn K C D m = some (some (.ref f2))
  ty : PySem.W.typeIn K (.ref f2) = some (.type "function")
  fi : PySem.W.fnIn K f2 = true
section
variable {X : Cx} {b : List Stmt} {e : Expr} {es : List Expr} {pins : List (Addr × Obj)} {σ : L2.St} {H : Hp} {s : Shared} {q : Str} {sc : Scope} {L f cc cd D C f2 x dx : Addr} {fd : FuncData} {m : Str} {p0 p1 apos pos : Pos} {fs : List (Str × V)}
theorem super_base {whole : Sem Value} {Q : Value → Shared → Prop} (hX : X.env = PySem.W.ksEnv q sc L f (.ref cd) cc) (hN : X.N[0]? = some ("self" : Str)) (hv : sc.names.lookup ("self" : Str) = some .local) (hks : sc.names.lookup ("super" : Str) = some .globalImplicit) (hkc : sc.names.lookup ("__class__" : Str) = some .free)
    (hk : sc.kind = .function) (S : SupAt X.prog X.K f cc D cd fd) (T : SupTo X.K C D m f2) (hat : (m == ("__class__" : Str)) = false) (I : Inv X pins σ H s) (hσ : σ[0]? = some (some (V.ref x))) (hx : H x = some (.ins C dx fs))
    (h : ∀ so h', Inv X ((so, PySem.W.ks_superObj D x C) :: pins) σ H { s with heap := h' } → Q (.ref so) { s with heap := h' }) :
    atC X b (attributeBase (.Call (.Name "super" p0) [] [] p1) m X.env whole) Q s := by
  obtain ⟨oc1, od1, os1, lf⟩ := S.fn
  obtain ⟨ar, ha1, ha2⟩ := S.hd
  obtain ⟨oc2, od2, vs, os2, file, tf, lc, hvs, hfile⟩ := S.code
  obtain ⟨oc3, od3, os3, lcc⟩ := S.cell
  obtain ⟨cdD, hD⟩ := Option.isSome_iff_exists.mp S.cls
  have KX := I.kIn
  obtain ⟨oD, hD1, hD2⟩ : ∃ oD, s.heap.get? D = some oD ∧ oD.data = .cls cdD := by
    unfold PySem.W.clsIn at hD
    split at hD
    · rename_i c d cd' sl ho
      cases hD
      exact ⟨_, KX _ _ ho, rfl⟩
    · cases hD
  obtain ⟨mA, O, _, _, _, _⟩ := ins_get I.hok hx
  obtain ⟨od, J, _⟩ := O.look
  obtain ⟨mL, hns, hloc⟩ := I.loc
  obtain ⟨u, ru, hlk⟩ := hloc 0 "self" _ hN hσ (.inl (by rw [hX]; exact hv))
  cases ru
  have hself : mL "self" = some (.ref x) := by
    rcases hlk with ⟨_, h⟩ | ⟨h, _⟩
    · exact h
    · have e : X.env.kindOf "self" = some .local := by rw [hX]; exact hv
      rw [e] at h
      rcases h with h | h <;> cases h
  obtain ⟨mb, hmb, hbb⟩ := I.mod.blt
  show _root_.PySem.wpAt (model X.prog X.w) X.A (.func b X.env) _ Q X.xe s
  rw [hX] at hns ⊢
  refine _root_.PySem.ks_wpAt_super_base (env := PySem.W.ksEnv q sc L f (.ref cd) cc) hks hkc hat rfl (KX _ _ lf) rfl ha1 rfl (KX _ _ lc) rfl hvs hfile S.top ?_
  refine PySem.W.ks_loadName_global hk hks (loadGlobal_builtin (env := PySem.W.ksEnv q sc L f (.ref cd) cc) (I.mod.glob.keeps I.bk) (PySem.W.mg_none_of I.mod.kin I.mod.glob S.free) (hmb.keeps I.bk) ((hbb _ (by decide +kernel)).trans (by decide +kernel : bootBuiltins "super" = some (.type "super"))) ⟨rfl, ?_⟩)
  refine wpAny_loadName_free hk hkc rfl ⟨_, KX _ _ lcc, rfl⟩ ?_
  rw [ha2]
  refine wpAny_loadName_local hk hv hns hself ?_
  refine _root_.PySem.ks_wpAny_isType_cls hD1 hD2 ⟨rfl, ?_⟩
  obtain ⟨hh, g, d, t, os⟩ := s
  refine _root_.PySem.ks_wpAny_call_super hD1 hD2 J.at_ J.cls (fun c e => ?_) (PySem.W.looks_mroIn KX T.sub) (fun h' e k => ?_)
  · have := J.no
    unfold PySem.W.notCls at this
    rw [e] at this
    exact Bool.noConfusion this
  · exact h _ _ (pin_new (t' := t) I k (Nat.le_refl _) e (fun v z => nomatch z))

theorem at_method {pl : Sem Bool} {so : Addr} {Q : Value × List Value → Shared → Prop} (I : Inv X ((so, PySem.W.ks_superObj D x C) :: pins) σ H s) (hx : H x = some (.ins C dx fs)) (T : SupTo X.K C D m f2) (S : SupAt X.prog X.K f cc D cd fd) (hat : (m == ("__class__" : Str)) = false)
    (h : ∀ s', Inv X ((s.heap.objs.size, PySem.W.methodObj (.ref f2) (.ref x)) :: pins) σ H s' → Q (.ref s.heap.objs.size, []) s') : wpAny (model X.prog X.w) X.A (getMethod (.ref so) m pl) Q X.xe s := by
  obtain ⟨mA, O, _, _, _, _⟩ := ins_get I.hok hx
  obtain ⟨od, J, _⟩ := O.look
  have KX := I.kIn
  have hm := T.to
  cases hc : PySem.W.clsIn X.K C with
  | none => unfold PySem.W.ks_superIn at hm; rw [hc] at hm; cases hm
  | some cd' =>
    unfold PySem.W.ks_superIn at hm
    rw [hc] at hm
    obtain ⟨of, hof, hofc⟩ : ∃ of, s.heap.get? f2 = some of ∧ of.cls = .type "function" := by
      have ht' : (X.K.lookup f2).map (·.cls) = some (.type "function") := T.ty
      cases z : X.K.lookup f2 with
      | none => rw [z] at ht'; cases ht'
      | some of => rw [z] at ht'; exact ⟨of, KX _ _ z, Option.some.inj ht'⟩
    have hso := pin_at I
    have hne := PySem.W.ks_ne KX J hc
    obtain ⟨hh, g, d, t, os⟩ := s
    refine _root_.PySem.ks_wpAny_getMethod_super hso (PySem.W.looks_opaque KX S.thirdparty) (l₀ := cd'.mro) ?_ rfl KX hm hof hofc hne hat ?_
    · exact fun A Q E s k q => wpAny_bind ((PySem.W.looks_clsIn KX hc) A _ E s k (wpAny_pure q))
    · exact h _ (pin_new (t' := t + 1) (unpin I) (fun b u z => Heap.get?_push_of_some _ z) (Nat.le_refl _) (Heap.get?_push_size hh rfl) (fun v z => nomatch z))
variable {k : Nat} {fd2 : FuncData} {ps : List Str} {sp : Sp} {t : TA} {E : L2.St → XK}
theorem run_sup {q' : Addr} {us : List Value} {vs : List V} {Q : VK} (G : FnG X.prog X.w X.K X.mg X.base (L2.CX X.prog X.w) k f2 fd2 ps sp) (hg : X.A.guards = some []) (hr : Room k X.A) (hb : L2.Binds X.K fd2 ps []) (hxx : PassesAt (L2.CX X.prog X.w) X σ (E σ))
    (I : Inv X ((q', PySem.W.methodObj (.ref f2) (.ref x)) :: pins) σ H s) (r : Vals vs us) (h : sp (.ref x :: vs) H Q (E σ)) : wpAny (model X.prog X.w) X.A (call (.ref q') us) (EP X pins σ Q) X.xe s := by
  have r2 : Vals (V.ref x :: vs) (Value.ref x :: us) := .cons rfl r
  have hl : (Value.ref x :: us).length = ps.length := by rw [← r2.length]; exact G.len _ _ _ _ h
  refine thn (Q := EP X ((q', PySem.W.methodObj (.ref f2) (.ref x)) :: pins) σ Q) ?_ fun _ _ y => unpinE y
  refine wpAny_call (PySem.W.method_call (pin_at I) (codeAny_mono (G.run X.A X.stack s H ⟨Value.ref x :: us, []⟩ (Value.ref x :: us) (V.ref x :: vs) Q (E σ) hg hr I.env0 (by have := hb s (Value.ref x :: us) I.kIn (by rw [List.append_nil]; exact hl); rw [List.append_nil] at this; exact this) r2 h) fun r s' hq => ?_))
  match r, hq with
  | .error e, hq => exact hxx _ H s e s' I hq
  | .ok (.ret u), hq => exact I.after hq
def tSup (C : Addr) (sp : Sp) (E : L2.St → XK) (t : TA) : TE := fun σ H Q => ∃ x dx fs, σ[0]? = some (some (V.ref x)) ∧ H x = some (.ins C dx fs) ∧ t σ H fun vs H2 => sp (.ref x :: vs) H2 Q (E σ)
variable {P : Addr → Prop} {spP : Sp}
theorem ae_sup {pl : Sem Bool} (hX : X.env = PySem.W.ksEnv q sc L f (.ref cd) cc) (hN : X.N[0]? = some ("self" : Str)) (hv : sc.names.lookup ("self" : Str) = some .local) (hks : sc.names.lookup ("super" : Str) = some .globalImplicit) (hkc : sc.names.lookup ("__class__" : Str) = some .free) (hk : sc.kind = .function)
    (S : SupAt X.prog X.K f cc D cd fd) (T : SupTo X.K C D m f2) (hat : (m == ("__class__" : Str)) = false) (G : FnG X.prog X.w X.K X.mg X.base (L2.CX X.prog X.w) k f2 fd2 ps sp) (hg : X.A.guards = some []) (hr : Room k X.A) (hb : L2.Binds X.K fd2 ps []) (hxx : ∀ σ, PassesAt (L2.CX X.prog X.w) X σ (E σ)) (ha : PA X (e :: es) t)
    (hst : starEach (e :: es) X.env = (false, eval e X.env) :: starEach es X.env := by rfl) (hpl : (backTo pos (starEach es X.env)).any (·.1) = false := by rfl)
    (he : eval (.Call (.Attribute (.Call (.Name "super" p0) [] [] p1) m apos) (e :: es) [] pos) X.env = (do
      let ov ← attributeBase (.Call (.Name "super" p0) [] [] p1) m X.env (eval (.Call (.Name "super" p0) [] [] p1) X.env)
      standAt apos.atName
      let (f, first) ← holding [ov] (getMethod ov m pl)
      callWith pos f first (backTo pos (starEach (e :: es) X.env)) []) := by rfl) : AtE X b (.Call (.Attribute (.Call (.Name "super" p0) [] [] p1) m apos) (e :: es) [] pos) (tSup C sp E t) := by
  refine ⟨fun pins s σ H Q I h => ?_⟩
  obtain ⟨x, dx, fs, h1, h2, h3⟩ := h
  refine _root_.PySem.ks_wpAt_MethodCall (pl := pl) (super_base hX hN hv hks hkc hk S T hat I h1 h2 fun so h' I1 => ?_) he
  refine at_method I1 h2 T S hat fun s2 I2 => ?_
  have hL : _ ≠ X.env.locals := (I2.pin (_, PySem.W.methodObj (.ref f2) (.ref x)) (List.mem_append_right _ List.mem_cons_self)).2.2.1
  refine PySem.W.callWith_M (K := X.K) (h₀ := X.base) (first := []) (self := .ref x) I2.ok.mod.kin (news_at hL (base_none (unpin I1) (Nat.le_refl _)) (pin_at I2)) List.mem_cons_self T.fi (thn (ha.run pos _ s2 σ H _ I2 h3) fun us s3 ⟨vs, H2, I3, rv, q2⟩ => ⟨⟨pin_at I3, I3.kIn⟩, ?_⟩) hst hpl
  exact run_sup G hg hr hb (hxx σ) I3 rv q2
theorem ae_sup0 {pl : Sem Bool} (hX : X.env = PySem.W.ksEnv q sc L f (.ref cd) cc) (hN : X.N[0]? = some ("self" : Str)) (hv : sc.names.lookup ("self" : Str) = some .local) (hks : sc.names.lookup ("super" : Str) = some .globalImplicit) (hkc : sc.names.lookup ("__class__" : Str) = some .free) (hk : sc.kind = .function)
    (S : SupAt X.prog X.K f cc D cd fd) (T : SupTo X.K C D m f2) (hat : (m == ("__class__" : Str)) = false) (G : FnG X.prog X.w X.K X.mg X.base (L2.CX X.prog X.w) k f2 fd2 ps sp) (hg : X.A.guards = some []) (hr : Room k X.A) (hb : L2.Binds X.K fd2 ps []) (hxx : ∀ σ, PassesAt (L2.CX X.prog X.w) X σ (E σ))
    (he : eval (.Call (.Attribute (.Call (.Name "super" p0) [] [] p1) m apos) [] [] pos) X.env = (do
      let ov ← attributeBase (.Call (.Name "super" p0) [] [] p1) m X.env (eval (.Call (.Name "super" p0) [] [] p1) X.env)
      standAt apos.atName
      let (f, first) ← holding [ov] (getMethod ov m pl)
      callWith pos f first (backTo pos (starEach [] X.env)) []) := by rfl) : AtE X b (.Call (.Attribute (.Call (.Name "super" p0) [] [] p1) m apos) [] [] pos) (tSup C sp E tNil) := by
  refine ⟨fun pins s σ H Q I h => ?_⟩
  obtain ⟨x, dx, fs, h1, h2, h3⟩ := h
  refine _root_.PySem.ks_wpAt_MethodCall (pl := pl) (super_base hX hN hv hks hkc hk S T hat I h1 h2 fun so h' I1 => ?_) he
  refine at_method I1 h2 T S hat fun s2 I2 => ?_
  exact PySem.W.callWith_M0 (first := []) (self := .ref x) ⟨pin_at I2, I2.kIn⟩ T.fi (run_sup (us := []) (vs := []) G hg hr hb (hxx σ) I2 .nil h3)

/-! ### a def that captures __class__ -/
theorem startF_none {N : List Str} {vs : List V} (h : vs.length + 1 ≤ N.length) : startF N vs [none] = L2.start N vs := by
  unfold startF L2.start
  congr 1
  rw [show N.length - vs.length = (N.length - vs.length - 1) + 1 by omega, List.replicate_succ]
  rfl
/-- it stands at f -/
structure FunS (prog : Program) (K : PySem.W.Frag) (x qual : Str) (st : Stmt) (f cc D cd : Addr) (fd : FuncData) : Prop where
  ex : ∃ (oc : Value) (od an : Option Addr) (dV kV doc pm ct : Value) (osl : Array (Option Value)),
    fd = PySem.W.fnX x qual (defArgs st) (defBody st) (defScope st) [("__class__", cc)] dV kV doc pm an (.ref cd) ct ∧ K.lookup f = some ⟨oc, od, .func fd, osl⟩ ∧ PySem.W.codeIn K (.ref cd) qual = true
  sup : SupAt prog K f cc D cd fd
abbrev nfS (x qual : Str) (st : Stmt) (cc cd : Addr) : NF := ⟨x, qual, defArgs st, defBody st, defScope st, [("__class__", cc)], cd⟩
theorem funS {P : Program} {w : World} {K : PySem.W.Frag} {mg : Str → Option Value} {base : Heap} {CX : CXT} {k : Nat} {f cc D cd : Addr} {fd : FuncData} {ps : List Str} {sp : Sp} {x qual : Str} {st : Stmt} {N : List Str} (F : FunS P K x qual st f cc D cd fd) (S : NScope N ps ["__class__"] (defScope st)) (len : ∀ vs H Q E, sp vs H Q E → vs.length = ps.length)
    (hbody : ∀ (A : Around) (outer : List Env) (s : Shared) (H : Hp) (vs : List V) (Q : VK) (E : XK), A.guards = some [] → Room k (A.deeper (envF (nfS x qual st cc cd) f s.heap.objs.size)) → sp vs H Q E →
      ∃ t, AtB (ncx CX P w K mg base N (nfS x qual st cc cd) f A outer s H E) (defBody st) (defBody st) t ∧ t { nx := fun _ H' => Q .non H', rt := Q } (L2.start N vs) H) : FnG P w K mg base CX (k + 1) f fd ps sp := by
  obtain ⟨oc, od, an, dV, kV, doc, pm, ct, osl, rfl, lk, hcd⟩ := F.ex
  obtain ⟨oc3, od3, osl3, lcc⟩ := F.sup.cell
  refine ⟨len, fun A outer s H args us vs Q E hg hr e0 hb r hsp => ?_⟩
  have hl := len _ _ _ _ hsp
  have KX : K.In s.heap := e0.mod.kin.keeps fun b o e => (e0.bs b o e).1
  have lim : s.heap.NoLimit := e0.mod.nolimit.keeps fun b o e => (e0.bs b o e).1
  have hpl : ps.length + 1 ≤ N.length := by
    have q := congrArg List.length S.pre
    rw [List.length_take, List.length_append] at q
    simp only [List.length_cons, List.length_nil] at q
    omega
  have C : CellsAt (nfS x qual st cc cd).cl ["__class__"] [none] s.heap H := by
    refine ⟨rfl, fun y c e => ?_, fun y z c e1 e2 => ?_, fun i y e => ?_⟩
    · have ec : c = cc := by
        have e : ([(("__class__" : Str), cc)] : List (Str × Addr)).lookup y = some c := e
        rw [List.lookup_cons] at e
        split at e
        · cases e; rfl
        · cases e
      subst ec
      exact ⟨(e0.bs c _ (e0.mod.kin c _ lcc)).2, _, _, KX _ _ lcc, rfl⟩
    · have e1 : ([(("__class__" : Str), cc)] : List (Str × Addr)).lookup y = some c := e1
      have e2 : ([(("__class__" : Str), cc)] : List (Str × Addr)).lookup z = some c := e2
      rw [List.lookup_cons] at e1 e2
      split at e1
      · rename_i h1
        split at e2
        · rename_i h2
          rw [eq_of_beq h1, eq_of_beq h2]
        · cases e2
      · cases e1
    · cases i with
      | zero =>
        simp at e
        subst e
        exact ⟨cc, by simp [nfS], fun v hv => by simp at hv⟩
      | succ i => simp at e
  refine codeAny_call_function hr.depth (KX _ _ lk) rfl S.co S.gen rfl (PySem.W.codeRec_of KX hcd) (hb _ _ _ _ ?_)
  refine wpAny_newFunctionEnv S.nocell (fun ⟨n, _⟩ hy => S.par n (List.of_mem_zip hy).1) (fun h₁ hns hsb => ⟨lim.fresh _ hsb, ?_⟩) S.kind
  show codeAny _ _ (.func (defBody st) (envF (nfS x qual st cc cd) f s.heap.objs.size)) _ _
  have kp : ∀ b o, s.heap.get? b = some o → h₁.get? b = some o := fun b o e => hsb.extBut b o (Nat.ne_of_lt (Heap.lt_size e)) (Heap.get?_push_of_some _ e)
  obtain ⟨t, ht, hq⟩ := hbody A outer s H vs Q E hg (hr.deeper _) hsp
  have I : Inv (ncx CX P w K mg base N (nfS x qual st cc cd) f A outer s H E) [] (startF N vs [none]) H { s with heap := h₁, toks := s.toks + (ps.zip us).length } := inv_startN S hr.hd e0 hl r C hns kp
  rw [startF_none (by rw [hl]; exact hpl)] at I
  have fin : ∀ {σ' : L2.St} {H' : Hp} {v : V} {u : Value} {s' : Shared}, Inv (ncx CX P w K mg base N (nfS x qual st cc cd) f A outer s H E) [] σ' H' s' → L2.RelV v u → Q v H' → CE outer P w H s Q u s' :=
    fun {σ' H' v u s'} J rv q => ⟨v, H', J.os, J.bare, J.base, J.hok, rv, q⟩
  refine _root_.PySem.ks_codeAny_funcAt (_root_.PySem.ks_wpAt_mono (ht.run [] _ (L2.start N vs) H _ I hq) (fun fl s' hs => ?_) fun e s' hs => hs)
  cases fl with
  | ret u =>
    obtain ⟨v, σ', H', J, rv, q⟩ := hs
    exact fin J rv q
  | next =>
    obtain ⟨σ', H', J, q⟩ := hs
    exact fin (v := V.non) (u := Value.none) J rfl q
  | brk =>
    obtain ⟨_, _, _, q⟩ := hs
    exact False.elim q
  | cont =>
    obtain ⟨_, _, _, q⟩ := hs
    exact False.elim q
end
end PDL

set_option Elab.async false
set_option linter.all false
set_option maxRecDepth 100000
set_option maxHeartbeats 4000000
/-! PDSupD: super().m(..) over plain data. -/
namespace PD
open PySem PySem.Spec L2 PDL NdefX
abbrev MAE (m : Md) (C : Ctx) (ex : Ex) (X : Cx) (b : List Stmt) (e : Expr) (f : Env → M D) : Prop := AtE X b e (tM m C ex f)
abbrev MAT (C : Ctx) (ex : Ex) (X : Cx) (b : List Stmt) (e : Expr) (f : Env → M Bool) : Prop := AtT X b e (tT C ex f)
abbrev MAS (C : Ctx) (ex : Ex) (X : Cx) (b : List Stmt) (st : Stmt) (s : Env → M (Fl × Env)) : Prop := AtS X b st (tS C ex s)
abbrev MAB (C : Ctx) (ex : Ex) (X : Cx) (b : List Stmt) (st : List Stmt) (s : Env → M (Fl × Env)) : Prop := AtB X b st (tS C ex s)
/-- super().m(..) of self, an object of the class c -/
def eSup (c : Nat) (F : List D → M D) (fs : Env → M (List D)) : Env → M D := fun e => getV e 0 >>= fun o => clsM [c] ("" : Str) o >>= fun _ => fs e >>= fun ds => F (o :: ds)
/-- super().__init__(), self an object without fields -/
def sSupI (c : Nat) (F : List D → M D) : Env → M (Fl × Env) := fun e => match (e[0]? : Option Slot) with
  | some (.own (.obj c' [])) => if c' = c then noR (F []) >>= fun d => .ret (.nx, e.set 0 (.own d)) else .bad
  | _ => .bad
section
variable {C : Ctx} {ex : Ex} {X : Cx} {b : List Stmt} {e a a2 : Expr} {es : List Expr} {st : Stmt} {rest b1 b2 : List Stmt} {f g : Env → M D} {fs : Env → M (List D)} {t u : Env → M Bool} {s s1 s2 : Env → M (Fl × Env)} {pos : Pos} {m : Md}
theorem ma_of (h : PMS C ex X st s) : MAS C ex X b st s := .of h
theorem mab_of (h : PMB C ex X rest s) : MAB C ex X b rest s := .of h
theorem ma_cons (h1 : MAS C ex X b st s1) (h2 : MAB C ex X b rest s2) : MAB C ex X b (st :: rest) (sSeq s1 s2) := (ab_cons h1 h2).imp fun Dn σ H q => by
  obtain ⟨n, env, ad, I, S, q⟩ := q
  have q : AllB (s1 env >>= fun r => match r with | (.nx, e') => s2 e' | r => .ret r) n (PoS C ex Dn I) noE := q
  rw [allB_bind] at q
  refine ⟨n, env, ad, I, S, q.mono (fun n1 r q1 => ?_) fun _ _ _ k => k⟩
  obtain ⟨fl, env'⟩ := r
  cases fl with
  | nx => exact fun ad' σ' I' H' S' i => ⟨n1, env', ad', I', S', q1.mono (fun _ _ z => z.mono i) fun _ _ _ z => z⟩
  | brk => exact q1
  | cnt => exact q1
  | rt d => exact q1
  | rtF d => exact q1
  | exc c d => exact q1
theorem ma_one (h1 : MAS C ex X b st s) : MAB C ex X b [st] s := ab_one h1
theorem ma_ret (he : MAE .val C ex X b e f) : MAS C ex X b (.Return (some e) pos) (sRet f) := (as_ret he).imp fun Dn σ H ⟨n, env, ad, I, S, q⟩ =>
  ⟨n, env, ad, I, S, tM_S S q fun n' d v I' H' S' i x r q' => (show PoS C ex Dn I' n' (.rt d, env) from q') ad σ I' H' v S' (Sub.refl _) r⟩
theorem ma_if (hc : MAT C ex X b e t) (ha : PMB C ex X b1 s1) (hb : PMB C ex X b2 s2) : MAS C ex X b (.If e b1 b2 pos) (sIf t s1 s2) := (as_if hc ha hb).imp fun Dn σ H ⟨n, env, ad, I, S, q⟩ =>
  ⟨n, env, ad, I, S, tT_S S q fun n' b I' H' S' i x q' => by
    cases b with
    | true => exact ⟨n', env, ad, I', S', q'⟩
    | false => exact ⟨n', env, ad, I', S', q'⟩⟩
theorem mae_and (ha : MAE .val C ex X b a f) (hb : PM .val C ex X (.BoolOp .And (a2 :: es) pos) g) : MAE .val C ex X b (.BoolOp .And (a :: a2 :: es) pos) (eAndV f g) :=
  (ae_and ha hb).imp fun σ H Q q => by
    obtain ⟨n, env, ad, I, S, q⟩ := q
    have q : AllB ((f env >>= boolM) >>= fun b => if b then g env else .ret (.bl false)) n _ _ := q
    rw [allB_bind, allB_bind] at q
    refine ⟨n, env, ad, I, S, q.mono (fun n1 d q1 => ?_) (fun _ _ _ k => k)⟩
    intro v1 I1 H1 s1 i1 x1 r1
    cases d with
    | bl b =>
      refine ⟨b, by cases r1; rfl, ?_⟩
      have q1 : AllB (if b then g env else .ret (.bl false)) n1 _ _ := q1
      cases b with
      | true =>
        rw [if_pos rfl] at q1 ⊢
        exact ⟨n1, env, ad, I1, s1, q1.mono (fun _ _ k => k.mono i1 x1) fun _ _ _ k => k.mono i1 x1⟩
      | false =>
        rw [if_neg Bool.false_ne_true] at q1 ⊢
        exact q1 _ I1 H1 s1 i1 x1 (Rep.bl _)
    | _ => exact False.elim q1
theorem mat_of (h : MAE .val C ex X b e f) (he : ∀ whole, isTrue e X.env whole = (do let v ← whole; standAt e.pos; holding [v] (truthy v)) := by intro _; rfl) : MAT C ex X b e (eTest f) :=
  (at_val h he).imp fun σ H Q q => by
    obtain ⟨n, env, ad, I, S, q⟩ := q
    have q : AllB (f env >>= boolM) n _ _ := q
    rw [allB_bind] at q
    refine ⟨n, env, ad, I, S, q.mono (fun n1 d q1 => ?_) (fun _ _ _ k => k)⟩
    intro v1 I1 H1 s1 i1 x1 r1
    cases d with
    | bl b => exact ⟨b, by cases r1; rfl, q1 I1 H1 s1 i1 x1⟩
    | _ => exact False.elim q1
theorem mat_not (ha : MAT C ex X b a t) : MAT C ex X b (.UnaryOp .Not a pos) (eNot t) :=
  (at_not ha).imp fun σ H Q q => by
    obtain ⟨n, env, ad, I, S, q⟩ := q
    have q : AllB (t env >>= fun b => .ret (!b)) n _ _ := q
    rw [allB_bind] at q
    exact ⟨n, env, ad, I, S, q.mono (fun n1 d q1 => fun I1 H1 s1 i1 x1 => q1 I1 H1 s1 i1 x1) (fun _ _ _ k => k)⟩
theorem mat_or (ha : MAT C ex X b a t) (hb : PMW C ex X (.BoolOp .Or (a2 :: es) pos) u) : MAT C ex X b (.BoolOp .Or (a :: a2 :: es) pos) (eOr t u) :=
  (at_or ha hb).imp fun σ H Q q => by
    obtain ⟨n, env, ad, I, S, q⟩ := q
    have q : AllB (t env >>= fun b => if b then .ret true else u env) n _ _ := q
    rw [allB_bind] at q
    refine ⟨n, env, ad, I, S, q.mono (fun n1 d q1 => ?_) (fun _ _ _ k => k)⟩
    intro I1 H1 s1 i1 x1
    cases d with
    | true =>
      rw [if_pos rfl] at q1 ⊢
      exact q1 I1 H1 s1 i1 x1
    | false =>
      rw [if_neg Bool.false_ne_true] at q1 ⊢
      exact ⟨n1, env, ad, I1, s1, q1.mono (fun _ _ k => k.mono i1 x1) fun _ _ _ k => k.mono i1 x1⟩
end
section
variable {C : Ctx} {ex : Ex} {X : Cx} {b : List Stmt} {e : Expr} {es : List Expr} {fs : Env → M (List D)} {q : Str} {sc : Scope} {L f cc cd D0 f2 : Addr} {fd fd2 : FuncData} {m : Str} {p0 p1 apos pos : Pos} {W : Wd} {ms : List Md} {F : List D → M D} {c k : Nat} {ps : List Str}
/-- self is a value -/
theorem sup_read {σ : L2.St} {H : Hp} {Q : VK} (hX : C.W.isX c = false) (hms : (ms.all fun m => decide (m = .val ∨ m = .rd)) = true) (h : tM .val C ex (eSup c F fs) σ H Q) : tSup (C.W.cls c) (SpD C.W (.val :: ms) F) (WE (wxOf C ex)) (tA ms C ex fs) σ H Q := by
  obtain ⟨n, env, ad, I, S, q⟩ := h
  have q : AllB (getV env 0 >>= fun o => clsM [c] ("" : Str) o >>= fun _ => fs env >>= fun ds => F (o :: ds)) n (Po .val C env ad σ I H Q) (Pe C ex env ad σ I H) := q
  unfold getV at q
  split at q
  · rename_i d hd
    obtain ⟨v, h1, h2⟩ := S.sv 0 d hd
    rw [ret_bind] at q
    obtain ⟨c', fl, rfl, hc, _, q2⟩ := clsM_in q
    obtain rfl : c' = c := List.mem_singleton.mp hc
    obtain ⟨p, rfl, ⟨_, dx, vs, hp, r⟩ | ⟨hx', _⟩⟩ := (RepM.val_of (C := C) (env := env) (ad := ad) (H := H) h2).obj S
    · refine ⟨p, dx, vs, h1, hp, n, env, ad, I, S, ?_⟩
      rw [allB_bind] at q2
      refine q2.mono (fun n2 ds q3 => ?_) fun _ _ _ k => k
      intro ws I2 H2 s2 i2 x2 r2
      exact call_in (F := F) (ms := .val :: ms) (ds := .obj c' fl :: ds) (by rw [List.all_cons, hms]; rfl) s2 ⟨by decide, (RepM.later (m := .val) (by decide) h2 i2 x2).any (env := env) (ad := ad) (by decide), r2⟩ (q3.mono (fun _ _ k => k.mono i2 x2) fun _ _ _ k => k.mono i2 x2)
    · rw [hX] at hx'
      cases hx'
  · exact False.elim q
theorem mae_sup {pl : Sem Bool} (hX : X.env = PySem.W.ksEnv q sc L f (.ref cd) cc) (hN : X.N[0]? = some ("self" : Str)) (hv : sc.names.lookup ("self" : Str) = some .local) (hks : sc.names.lookup ("super" : Str) = some .globalImplicit) (hkc : sc.names.lookup ("__class__" : Str) = some .free) (hk : sc.kind = .function)
    (S : SupAt X.prog X.K f cc D0 cd fd) (T : SupTo X.K (W.cls c) D0 m f2) (hat : (m == ("__class__" : Str)) = false) (hW : C.W = W) (hcx : W.isX c = false) (G : FnG X.prog X.w X.K X.mg X.base (L2.CX X.prog X.w) k f2 fd2 ps (SpD W (.val :: ms) F)) (tk : Takes X (wxOf C ex)) (hg : X.A.guards = some []) (hr : Room k X.A) (hb : L2.Binds X.K fd2 ps [])
    (ha : PMA ms C ex X (e :: es) fs) (hms : (ms.all fun m => decide (m = .val ∨ m = .rd)) = true := by rfl)
    (hst : starEach (e :: es) X.env = (false, eval e X.env) :: starEach es X.env := by rfl) (hpl : (backTo pos (starEach es X.env)).any (·.1) = false := by rfl)
    (he : eval (.Call (.Attribute (.Call (.Name "super" p0) [] [] p1) m apos) (e :: es) [] pos) X.env = (do
      let ov ← attributeBase (.Call (.Name "super" p0) [] [] p1) m X.env (eval (.Call (.Name "super" p0) [] [] p1) X.env)
      standAt apos.atName
      let (f, first) ← holding [ov] (getMethod ov m pl)
      callWith pos f first (backTo pos (starEach (e :: es) X.env)) []) := by rfl) : MAE .val C ex X b (.Call (.Attribute (.Call (.Name "super" p0) [] [] p1) m apos) (e :: es) [] pos) (eSup c F fs) := by
  subst hW
  exact (ae_sup hX hN hv hks hkc hk S T hat G hg hr hb (fun σ => passAt tk σ) ha hst hpl he).imp fun σ H Q h => sup_read hcx hms h
/-- self is being made -/
theorem supI_read {σ : L2.St} {H : Hp} {Dn : Ends} (h : tS C ex (sSupI c F) Dn σ H) : tDrop (tSup (C.W.cls c) (SpI C.W c [] F) (fun _ _ _ _ => False) tNil) Dn σ H := by
  obtain ⟨n, env, ad, I, S, q⟩ := h
  have q : AllB (match (env[0]? : Option Slot) with | some (.own (.obj c' [])) => if c' = c then noR (F []) >>= fun d => .ret (.nx, env.set 0 (.own d)) else .bad | _ => .bad) n (PoS C ex Dn I) noE := q
  split at q
  · rename_i c' h0
    obtain ⟨ec, q9⟩ := allB_ite q
    subst ec
    obtain ⟨h1, ⟨hx, dx, vs, h2, rf⟩, h3, h4, h5⟩ := S.so 0 _ h0
    cases rf
    have hl : 0 < env.length := (List.getElem?_eq_some_iff.mp h0).1
    rw [allB_bind] at q9
    refine ⟨ad 0, dx, [], h1, h2, ad 0, [], dx, n, I, [], rfl, h2, h5, h4, ⟨fun b o e => ?_, Sub.refl _, fun b o _ e => ?_, fun b o e => .inl e, S.nos, ?_, rfl, fun i d h => by simp at h, fun i d h => by simp at h, fun i d h => by simp at h, fun i j d e h => by simp at h⟩, trivial, ?_⟩
    · exact S.sub b o e
    · have e : hide H (ad 0) b = some o := e
      by_cases hb : b = ad 0
      · rw [hb, hide_same] at e; cases e
      · rwa [hide_ne hb] at e
    · exact S.src
    · refine (allB_noR (E' := fun _ _ _ => False) q9).mono (fun n' d z I' H' S' => ?_) fun _ _ _ z => z.elim
      have z : AllB (M.ret (Fl.nx, env.set 0 (.own d))) n' (PoS C ex Dn I) noE := z
      have z : PoS C ex Dn I n' (.nx, env.set 0 (.own d)) := z
      have i0 : Sub I I' := S'.i0
      refine z ad σ I' H' ?_ i0
      obtain ⟨g1, g2, g3, g4, g5⟩ := S'.so 0 d rfl
      have keepH : ∀ b o, b ≠ ad 0 → NotS C.W.S b → H b = some o → H' b = some o := fun b o hb hN e => S'.base b o hN (by show hide H (ad 0) b = some o; rw [hide_ne hb]; exact e)
      refine ⟨S'.sub, S.i0.trans i0, fun b o hN e => keepH b o (fun z => by rw [z, h3] at e; cases e) hN (S.base b o hN e), fun b o e => ?_, S'.nos, S'.src, by rw [List.length_set]; exact S.len, fun i d' e => ?_, fun i d' e => ?_, fun i d' e => ?_, fun i j d' e' hi hj ha => ?_⟩
      · rcases S'.fresh b o e with q | q
        · exact S.fresh b o q
        · by_cases hb : b = ad 0
          · rw [hb]; exact .inr h3
          · have q : hide H (ad 0) b = none := q
            rw [hide_ne hb] at q
            cases e2 : C.B b with
            | none => exact .inr rfl
            | some u => have := S.base b u (S'.nos b o e) e2; rw [q] at this; cases this
      · by_cases hi : 0 = i
        · subst hi; rw [List.getElem?_set_self hl] at e; cases e
        · rw [List.getElem?_set_ne hi] at e
          obtain ⟨v, e1, e2⟩ := S.sv i d' e
          exact ⟨v, e1, e2.mono i0⟩
      · by_cases hi : 0 = i
        · subst hi; rw [List.getElem?_set_self hl] at e; cases e
        · rw [List.getElem?_set_ne hi] at e
          obtain ⟨v, e1, e2⟩ := S.sb i d' e
          refine ⟨v, e1, ?_⟩
          rcases e2 with e2 | ⟨p, e2, e3, e4⟩
          · exact .inl (e2.mono i0)
          · exact .inr ⟨p, e2, e3, e4.mono i0 rfl⟩
      · by_cases hi : 0 = i
        · subst hi
          rw [List.getElem?_set_self hl] at e
          cases e
          refine ⟨h1, ?_, h3, g4, h5⟩
          cases d with
          | lst ds => obtain ⟨ws, e1, e2⟩ := g2; exact ⟨ws, e1, RepL.cg (W := C.W.at (ad 0)) (W' := C.W) rfl rfl rfl rfl e2⟩
          | dct ds => obtain ⟨ws, e1, e2⟩ := g2; exact ⟨ws, e1, RepK.cg (W := C.W.at (ad 0)) (W' := C.W) rfl rfl rfl rfl e2⟩
          | obj c2 ds => obtain ⟨e0, dx2, ws, e1, e2⟩ := g2; exact ⟨⟨e0.1, hx.2⟩, dx2, ws, e1, RepF.cg (W := C.W.at (ad 0)) (W' := C.W) rfl rfl rfl rfl e2⟩
          | _ => exact False.elim g2
        · rw [List.getElem?_set_ne hi] at e
          obtain ⟨e1, e2, e3, e4, e5⟩ := S.so i d' e
          have hne : ad i ≠ ad 0 := fun z => hi (S.inj 0 i _ _ h0 e z.symm)
          obtain ⟨u, hu⟩ := e2.there
          have hu' := keepH _ _ hne e5 hu
          refine ⟨e1, e2.mono i0 (hu'.trans hu.symm), e3, ?_, e5⟩
          cases e6 : I' (ad i) with
          | none => rfl
          | some o =>
            rcases S'.fresh _ o e6 with q | q
            · have q : I (ad i) = some o := q
              rw [e4] at q; cases q
            · have q : hide H (ad 0) (ad i) = none := q
              rw [hide_ne hne, hu] at q; cases q
      · have own' : ∀ {i : Nat} {d' : D}, (env.set 0 (.own d))[i]? = some (Slot.own d') → ∃ d2, env[i]? = some (Slot.own d2) := fun {i d'} h => by
          by_cases hi : 0 = i
          · subst hi; exact ⟨_, h0⟩
          · rw [List.getElem?_set_ne hi] at h; exact ⟨_, h⟩
        obtain ⟨d1, hi'⟩ := own' hi
        obtain ⟨d2, hj'⟩ := own' hj
        exact S.inj i j _ _ hi' hj' ha
  · exact False.elim q
theorem mas_supI {pl : Sem Bool} (hX : X.env = PySem.W.ksEnv q sc L f (.ref cd) cc) (hN : X.N[0]? = some ("self" : Str)) (hv : sc.names.lookup ("self" : Str) = some .local) (hks : sc.names.lookup ("super" : Str) = some .globalImplicit) (hkc : sc.names.lookup ("__class__" : Str) = some .free) (hk : sc.kind = .function)
    (S : SupAt X.prog X.K f cc D0 cd fd) (T : SupTo X.K (C.W.cls c) D0 m f2) (hat : (m == ("__class__" : Str)) = false) (G : FnG X.prog X.w X.K X.mg X.base (L2.CX X.prog X.w) k f2 fd2 ps (SpI C.W c [] F)) (hg : X.A.guards = some []) (hr : Room k X.A) (hb : L2.Binds X.K fd2 ps []) {pos' : Pos}
    (hs : swapsWith (.Call (.Attribute (.Call (.Name "super" p0) [] [] p1) m apos) [] [] pos) none pos'.line X.env = pure false := by rfl)
    (he : eval (.Call (.Attribute (.Call (.Name "super" p0) [] [] p1) m apos) [] [] pos) X.env = (do
      let ov ← attributeBase (.Call (.Name "super" p0) [] [] p1) m X.env (eval (.Call (.Name "super" p0) [] [] p1) X.env)
      standAt apos.atName
      let (f, first) ← holding [ov] (getMethod ov m pl)
      callWith pos f first (backTo pos (starEach [] X.env)) []) := by rfl) : MAS C ex X b (.Expr (.Call (.Attribute (.Call (.Name "super" p0) [] [] p1) m apos) [] [] pos) pos') (sSupI c F) :=
  (as_expr (ae_sup0 hX hN hv hks hkc hk S T hat G hg hr hb (fun σ => passF) he) hs).imp fun Dn σ H h => supI_read h
end

section
variable {ms : List Md} {W : Wd}
/-- an __init__'s body's start -/
theorem tI_start {N : List Str} {c : Nat} {s : Env → M (Fl × Env)} {vs : List V} {H : Hp} {Q : VK} {E : XK} (hn : ms.length + 1 ≤ N.length) (hx : W.isX c = false) (h : SpI W c ms (fun ds => runIn N.length c s ms ds) vs H Q E) :
    ∃ B I p, tS ⟨W.at p, B, I⟩ (exE (W.at p) E) s { nx := fun _ H' => Q .non H', rt := Q } (L2.start N vs) H := by
  obtain ⟨x, vs', dx, n, I, ds, rfl, hX, hN, hI, S0, ra, q⟩ := h
  refine ⟨hide H x, I, x, ?_⟩
  have hlen := ra.len
  have hsl : (slots ms ds).length = ms.length := by unfold slots; rw [List.length_zipWith, hlen.2]; omega
  have cg : ∀ {I : Hp} {v : V} {d : D}, Rep W I v d → Rep (W.at x) I v d := fun r => Rep.cg (W := W) (W' := W.at x) rfl rfl rfl rfl r
  obtain ⟨hok, q⟩ := allB_ite (show AllB (if okIn ms ds then _ else .bad) _ _ _ from q)
  have get1 : ∀ {i : Nat} {v : V}, vs'[i]? = some v → (L2.start N (V.ref x :: vs'))[i + 1]? = some (some v) := fun {i v} h => by
    unfold L2.start
    rw [List.getElem?_append_left (by rw [List.length_map, List.length_cons]; exact Nat.succ_lt_succ (List.getElem?_eq_some_iff.mp h).1), List.getElem?_map, List.getElem?_cons_succ, h]
    rfl
  have own0 : ∀ {i : Nat} {d : D}, (Slot.own (.obj c []) :: slots ms ds ++ List.replicate (N.length - ((slots ms ds).length + 1)) .no)[i]? = some (Slot.own d) → i = 0 := fun {i d} h => by
    cases i with
    | zero => rfl
    | succ i =>
      rw [List.cons_append, List.getElem?_cons_succ] at h
      rcases slots_get h with ⟨m, d', h1, h2, h3⟩ | h3
      · cases m <;> cases h3
      · cases h3
  refine ⟨n, (.own (.obj c []) :: slots ms ds ++ List.replicate (N.length - ((slots ms ds).length + 1)) .no), fun _ => x, I, ⟨S0.sub, S0.i0, S0.base, S0.fresh, S0.nos, S0.src, ?_, fun i d h => ?_, fun i d h => ?_, fun i d h => ?_, fun i j d e h1 h2 _ => by rw [own0 h1, own0 h2]⟩, ?_⟩
  · unfold L2.start
    simp only [List.length_append, List.length_replicate, List.length_map, List.length_cons]
    omega
  · cases i with
    | zero => simp at h
    | succ i =>
      rw [List.cons_append, List.getElem?_cons_succ] at h
      rcases slots_get h with ⟨m, d', h1, h2, h3⟩ | h3
      · obtain ⟨hm, v, h4, h5⟩ := ra.get h1 h2
        cases m <;> simp only [slotOf] at h3 <;> first | cases h3 | skip
        exact ⟨v, get1 h4, cg h5⟩
      · cases h3
  · cases i with
    | zero => simp at h
    | succ i =>
      rw [List.cons_append, List.getElem?_cons_succ] at h
      rcases slots_get h with ⟨m, d', h1, h2, h3⟩ | h3
      · obtain ⟨hm, v, h4, h5⟩ := ra.get h1 h2
        have fin : m ≠ .val → (Rep W I v d' ∨ ∃ a, v = .ref a ∧ NotS W.S a ∧ Own W I (hide H x) a d') → Rep (W.at x) I v d' ∨ ∃ a, v = .ref a ∧ NotS W.S a ∧ Own (W.at x) I (hide H x) a d' := fun hm h5 => by
          rcases h5 with h5 | ⟨a, e, hNa, o⟩
          · exact .inl (cg h5)
          · refine .inr ⟨a, e, hNa, ?_⟩
            cases d' with
            | lst ds => obtain ⟨ws, h1, h2⟩ := o; exact ⟨ws, h1, RepL.cg (W := W) (W' := W.at x) rfl rfl rfl rfl h2⟩
            | dct ds => obtain ⟨ws, h1, h2⟩ := o; exact ⟨ws, h1, RepK.cg (W := W) (W' := W.at x) rfl rfl rfl rfl h2⟩
            | obj c' fs => exact absurd (okIn_get hok h1 h2) hm
            | _ => exact False.elim o
        cases m <;> simp only [slotOf] at h3 <;> first | cases h3 | skip
        all_goals exact ⟨v, get1 h4, fin (by decide) h5⟩
      · cases h3
  · have e0 := own0 h
    subst e0
    simp at h
    subst h
    exact ⟨rfl, ⟨⟨hx, fun p e => Option.some.inj e⟩, dx, [], hX, .nil⟩, hide_same, hI, hN⟩
  · have q := allB_runI (show AllB (runI (s (.own (.obj c []) :: slots ms ds ++ List.replicate (N.length - ((slots ms ds).length + 1)) .no))) n _ _ from q)
    refine q.mono (fun n' r q1 => ?_) fun n' c d z => z
    have last : ∀ {c : Nat} {fs : List (Str × D)} {env' : Env} {ad' : Nat → Addr} {σ' : L2.St} {I' H' : Hp}, env'[0]? = some (Slot.own (.obj c fs)) → Sim ⟨W.at x, hide H x, I⟩ n' env' ad' σ' I' H' → Sim ⟨W.at x, hide H x, I⟩ n' [.own (.obj c fs)] (fun _ => x) [some (.ref x)] I' H' := fun {c fs env' ad' σ' I' H'} h S' => by
      obtain ⟨h1, h2, h3, h4, h5⟩ := S'.so 0 _ h
      have ha : ad' 0 = x := h2.1.2 x rfl
      rw [ha] at h2 h3 h4 h5
      refine ⟨S'.sub, S'.i0, S'.base, S'.fresh, S'.nos, S'.src, rfl, fun i d e => ?_, fun i d e => ?_, fun i d e => ?_, fun i j d e h h' _ => ?_⟩
      · cases i <;> simp at e
      · cases i <;> simp at e
      · cases i with
        | zero => simp at e; subst e; exact ⟨rfl, h2, h3, h4, h5⟩
        | succ i => simp at e
      · cases i <;> cases j <;> first | rfl | simp at h h'
    obtain ⟨fl, env'⟩ := r
    cases fl with
    | nx =>
      obtain ⟨c', fs, h, q1⟩ := q1
      exact fun ad' σ' I' H' S' i => q1 I' H' (last h S')
    | brk => exact False.elim q1
    | cnt => exact False.elim q1
    | rt d =>
      obtain ⟨rfl, c', fs, h, q1⟩ := q1
      exact fun ad' σ' I' H' v S' i r => by
        cases r
        exact q1 I' H' (last h S')
    | rtF d => exact False.elim q1
    | exc c' d => exact fun ad' σ' I' H' S' i cls dx r => (show ∀ cls dx I' H', Sim0 W (hide H x) I n' I' H' → ExcR W I' c' d cls dx → E cls dx H' from q1) cls dx I' H' (Sim.at0 S'.bare) (by
        obtain ⟨e1, e2⟩ := r
        refine ⟨e1, ?_⟩
        cases dx with
        | none => exact e2
        | some p =>
          obtain ⟨e3, v, e4, e5⟩ := e2
          exact ⟨e3, v, e4, Rep.cg (W := W.at x) (W' := W) rfl rfl rfl rfl e5⟩)
theorem SpI.len {c : Nat} {F : List D → M D} {vs : List V} {H : Hp} {Q : VK} {E : XK} (h : SpI W c ms F vs H Q E) : vs.length = ms.length + 1 := by
  obtain ⟨x, vs', dx, n, I, ds, rfl, _, _, _, _, ra, _⟩ := h
  rw [List.length_cons, ra.len.1]
variable {P : Program} {w : World} {K : PySem.W.Frag} {mg : Str → Option Value} {base : Heap} {x qual : Str} {st : Stmt} {f cc D0 cd : Addr} {fd : FuncData} {N ps : List Str} {k c : Nat} {s : Env → M (Fl × Env)}
/-- a def that says super(), by its body -/
theorem fn_bodyS (F : FunS P K x qual st f cc D0 cd fd) (S : NScope N ps ["__class__"] (defScope st)) (hl : ps.length = ms.length) (hn : ms.length ≤ N.length)
    (hbody : ∀ (A : Around) (outer : List PySem.Env) (s' : Shared) (H : Hp) (E : XK) (I : Hp), A.guards = some [] → Room k (A.deeper (envF (nfS x qual st cc cd) f s'.heap.objs.size)) →
      MAB ⟨W, H, I⟩ (exE W E) (ncx (L2.CX P w) P w K mg base N (nfS x qual st cc cd) f A outer s' H E) (defBody st) (defBody st) s) : FnG P w K mg base (L2.CX P w) (k + 1) f fd ps (SpD W ms fun ds => run N.length s (slots ms ds)) :=
  funS F S (fun vs H Q E h => by
    obtain ⟨n, I, ds, _, ra, _⟩ := h
    rw [ra.len.1, hl]) fun A outer s' H vs Q E hg hr h => by
    obtain ⟨I, q⟩ := tS_start hn h
    exact ⟨_, hbody A outer s' H E I hg hr, q⟩
/-- an __init__ that says super() -/
theorem init_bodyS (F : FunS P K x qual st f cc D0 cd fd) (S : NScope N ps ["__class__"] (defScope st)) (hl : ps.length = ms.length + 1) (hn : ms.length + 1 ≤ N.length) (hx : W.isX c = false)
    (hbody : ∀ (A : Around) (outer : List PySem.Env) (s' : Shared) (H : Hp) (E : XK) (B I : Hp) (p : Addr), A.guards = some [] → Room k (A.deeper (envF (nfS x qual st cc cd) f s'.heap.objs.size)) →
      MAB ⟨W.at p, B, I⟩ (exE (W.at p) E) (ncx (L2.CX P w) P w K mg base N (nfS x qual st cc cd) f A outer s' H E) (defBody st) (defBody st) s) : FnG P w K mg base (L2.CX P w) (k + 1) f fd ps (SpI W c ms fun ds => runIn N.length c s ms ds) :=
  funS F S (fun vs H Q E h => by rw [SpI.len h, hl]) fun A outer s' H vs Q E hg hr h => by
    obtain ⟨B, I, p, q⟩ := tI_start hn hx h
    exact ⟨_, hbody A outer s' H E B I p hg hr, q⟩
end
end PD
namespace PDL
open PySem PySem.Spec L2 PyProof.Rows NdefX
/-! ### facts by the head -/
abbrev cutF : Str := "/claim/cut.py"
class ProgOk (P : Program) : Prop where
  file : ((P.main.file : Str) == cutF) = true
  sup : (P.main.scope.names.lookup ("super" : Str)).isSome = false
def funAt (K : PySem.W.Frag) (f : Addr) : Option FuncData := (K.lookup f).bind fun o => match o.data with
  | .func u => some u
  | _ => none
def cloAt (K : PySem.W.Frag) (f : Addr) : Addr := match funAt K f with
  | some u => (match u.closure with
    | [(_, c)] => c
    | _ => 0)
  | none => 0
def codAt (K : PySem.W.Frag) (f : Addr) : Addr := match funAt K f with
  | some u => (match u.code with
    | .ref c => c
    | _ => 0)
  | none => 0
def kSupF (adr : PySem.W.Frag → Addr) : Ck := fun K => match funAt K (adr K) with
  | some u => decide (u.closure = [(("__class__" : Str), cloAt K (adr K))]) && decide (u.code = .ref (codAt K (adr K)))
  | none => false
def kSupC (adr : PySem.W.Frag → Addr) : Ck := fun K => match K.lookup (codAt K (adr K)) with
  | some ⟨_, _, .fields vs, _⟩ => (match (vs[2]? : Option Value) with
    | some (Value.str f _) => decide (f = cutF)
    | _ => false)
  | _ => false
def kSupD (adr dd : PySem.W.Frag → Addr) : Ck := fun K => match K.lookup (cloAt K (adr K)) with
  | some ⟨_, _, .cell (some (.ref d)), _⟩ => decide (d = dd K)
  | _ => false
def kSup (adr dd : PySem.W.Frag → Addr) : Ck := fun K => kSupF adr K && kSupC adr K && kSupD adr dd K && (PySem.W.clsIn K (dd K)).isSome && He.eqO (PySem.W.nsIn K mainGlobals "super") (some none) && He.eqO (PySem.W.nsIn K cStatics "thirdparty.any") (some none)
/-- super() of an object of the class C, m: f2 -/
def kSupTo (cc dd : PySem.W.Frag → Addr) (m : Str) (f2 : PySem.W.Frag → Addr) : Ck := fun K => decide (PySem.W.mroIn K (cc K) (.ref (dd K)) = some true) && He.eqO (PySem.W.ks_superIn K (cc K) (dd K) m) (some (some (.ref (f2 K)))) && decide (PySem.W.typeIn K (.ref (f2 K)) = some (.type "function")) && PySem.W.fnIn K (f2 K)
theorem kSupTo_ok {K : PySem.W.Frag} {cc dd f2 : PySem.W.Frag → Addr} {m : Str} (h : kSupTo cc dd m f2 K = true) : SupTo K (cc K) (dd K) m (f2 K) := by
  simp only [kSupTo, Bool.and_eq_true, decide_eq_true_eq] at h
  exact ⟨h.1.1.1, He.eqO_ok h.1.1.2, h.1.2, h.2⟩
theorem DefP.fnS {P : Program} [O : ProgOk P] {K : PySem.W.Frag} {d : DefP} {dd : PySem.W.Frag → Addr} (h : sigP K (d.adr K) = d.sig) (c : d.ck K = true) (hc : d.clo = [("__class__" : Str)]) (hd : d.dfl = []) (ha : ((defArgs d.st).posonlyargs ++ (defArgs d.st).args).head?.map (·.arg) = some ("self" : Str)) (z : kSup d.adr dd K = true) :
    ∃ fd, FunS P K d.name d.qual d.st (d.adr K) (cloAt K (d.adr K)) (dd K) (codAt K (d.adr K)) fd ∧ PySem.W.keepIn K (.ref (d.adr K)) = true ∧
      ∀ ps : List Str, (∀ (kV doc pm : Value) (an : Option Addr) (ct : Value) (us : List Value), us.length = ps.length → bindArgs (PySem.W.fnX d.name d.qual (defArgs d.st) (defBody d.st) (defScope d.st) [("__class__", cloAt K (d.adr K))] .none kV doc pm an (.ref (codAt K (d.adr K))) ct) ⟨us, []⟩ = pure (ps.zip us)) → L2.Binds K fd ps [] := by
  obtain ⟨k1, k2⟩ := He.ba c
  simp only [kSup, Bool.and_eq_true] at z
  obtain ⟨⟨⟨⟨⟨z1, z2⟩, z3⟩, z4⟩, z5⟩, z6⟩ := z
  cases e : K.lookup (d.adr K) with
  | none => rw [e] at k2; cases k2
  | some o =>
    unfold sigP at h
    unfold kSupF at z1
    have ef : funAt K (d.adr K) = (match o.data with | .func u => some u | _ => none) := by unfold funAt; rw [e]; rfl
    rw [e] at k2 h
    obtain ⟨oc, od, u, os⟩ := o
    cases u with
    | func u =>
      rw [ef] at z1
      obtain ⟨z1a, z1b⟩ := He.ba z1
      have z1a := of_decide_eq_true z1a
      have z1b := of_decide_eq_true z1b
      obtain ⟨k3, k4⟩ := He.ba (show (PySem.W.codeIn K u.code d.qual && He.dflB K u.defaults (d.dvs K)) = true from k2)
      have h' : (some (u.name, u.qualname, u.params, u.body, u.scope, u.globals, cloN u.closure, u.builtins) : He.FnW) = d.sig := h
      obtain ⟨oc2, od2, vs, os2, file, tf, lc, hvs, hfile⟩ : ∃ oc od vs osl file tf, K.lookup (codAt K (d.adr K)) = some ⟨oc, od, .fields vs, osl⟩ ∧ vs[2]? = some (.str file tf) ∧ ((P.main.file : Str) == file) = true := by
        unfold kSupC at z2
        split at z2
        · rename_i oc od vs osl hl
          split at z2
          · rename_i ff tf hv
            exact ⟨_, _, vs, _, ff, tf, hl, hv, by rw [of_decide_eq_true z2]; exact O.file⟩
          · cases z2
        · cases z2
      obtain ⟨oc3, od3, osl3, lcc⟩ : ∃ oc od osl, K.lookup (cloAt K (d.adr K)) = some ⟨oc, od, .cell (some (.ref (dd K))), osl⟩ := by
        unfold kSupD at z3
        split at z3
        · rename_i oc od dx osl hl
          rw [of_decide_eq_true z3] at hl
          exact ⟨_, _, _, hl⟩
        · cases z3
      generalize hcc : cloAt K (d.adr K) = cc at *
      generalize hcd : codAt K (d.adr K) = cdd at *
      obtain ⟨u1, u2, u3, u4, u5, u6, u7, u8, u9, u10, u11, u12, u13, u14, u15⟩ := u
      simp only [DefP.sig, Option.some.injEq, Prod.mk.injEq] at h'
      obtain ⟨rfl, rfl, rfl, rfl, rfl, rfl, _, rfl⟩ := h'
      have e1 : u7 = [(("__class__" : Str), cc)] := z1a
      have e2 : u13 = .ref cdd := z1b
      have e3 : u8 = .none := by
        have k4' : He.dflB K u8 (d.dvs K) = true := k4
        have hn : d.dvs K = [] := by unfold DefP.dvs; rw [hd]; rfl
        rw [hn] at k4'
        rcases He.dflB_ok k4' with ⟨_, q⟩ | ⟨q, _⟩
        · exact q
        · exact absurd rfl q
      subst e1 e2 e3
      obtain ⟨ar, ha1, ha2⟩ := Option.map_eq_some_iff.mp ha
      exact ⟨_, ⟨⟨oc, od, _, _, _, _, _, _, os, rfl, e, k3⟩, ⟨⟨oc, od, os, e⟩, ⟨ar, ha1, ha2⟩, ⟨oc2, od2, vs, os2, file, tf, lc, hvs, hfile⟩, ⟨oc3, od3, osl3, lcc⟩, z4, He.eqO_ok z5, He.eqO_ok z6, O.sup⟩⟩, k1, fun ps hb => .all fun us hl => hb _ _ _ _ _ us hl⟩
    | _ => cases k2
end PDL

set_option Elab.async false
set_option linter.all false
set_option maxRecDepth 100000
set_option maxHeartbeats 4000000
/-! PDTab: tables of the module with text keys; == (); objects without arguments; methods of several classes; extend; get. -/
namespace PD
open PySem PySem.Spec L2 PDL
/-! ### x == () -/
def eqNilM : D → D → M D
  | .tup xs, .tup [] => .ret (.bl xs.isEmpty)
  | _, _ => .bad
section
variable {C : Ctx} {ex : Ex} {X : Cx} {m1 m2 : Md}
theorem d_eqNil (hK : C.W.K = X.K) (hu : X.A.units < cLine) : OpR X (compareOp .Eq) (rP .rd .rd .val C ex eqNilM) := by
  intro pins s σ0 H x y v u Q Iv rx ry h
  obtain ⟨n, env, ad, σ, I, d, e, S, r1, r2, q⟩ := h
  cases d <;> first | exact False.elim q | skip
  rename_i xs
  cases e <;> first | exact False.elim q | skip
  rename_i ys
  cases ys with
  | cons _ _ => exact False.elim q
  | nil =>
    obtain ⟨p1, v1, rfl, h1, l1, t1⟩ := r1.tup S
    obtain ⟨p2, v2, rfl, h2, l2, t2⟩ := r2.tup S
    cases l2
    rw [hK] at h1 h2
    obtain ⟨i1, c1, s1, _⟩ := Iv.tuple h1
    obtain ⟨i2, c2, s2, _⟩ := Iv.tuple h2
    cases c2
    obtain rfl : v = Value.ref p1 := rx
    obtain rfl : u = Value.ref p2 := ry
    refine PySem.SeqAt.eq_tupleAt (e := fun _ => true) (show s.heap.IsTuple p1 i1.toArray from s1) (show s.heap.IsTuple p2 _ from s2) hu (fun j _ hj => absurd hj (by simp)) ⟨.bl xs.isEmpty, H, Iv, ?_, q _ I H S (Sub.refl _) (SameX.refl _) (Rep.bl _)⟩
    show Value.bool _ = Value.bool _
    have e1 := c1.length
    have e2 := l1.length
    cases xs with
    | nil => cases l1; cases c1; rfl
    | cons a b =>
      cases l1
      cases c1
      simp
end
/-! ### C() -/
section
variable {C : Ctx} {ex : Ex} {X : Cx} {W : Wd} {pos p : Pos} {F : List D → M D} {k c : Nat} {ps : List Str} {x : Str}
theorem pm_makeD0 (D0 : MkOk X.prog X.w X.K X.mg X.base x ps k (W.cls c) [] (SpI W c [] F)) (hW : C.W = W) (tk : Takes X (wxOf C ex)) (hgd : X.A.guards = some []) (hr : Room (k + 1) X.A) (hg : Gl X x) (hdb : (x == ("__debug__" : Str)) = false := by decide) : PM .val C ex X (.Call (.Name x p) [] [] pos) (eCall F eNil) := by
  subst hW
  obtain ⟨f, fd, dl, G, M, h1, h2, h3⟩ := D0.ex
  cases h2
  refine ⟨fun pins s σ H Q I h => wpAny_Call_Name_kw (ld_glob I hg h1 (PySem.W.callWith_K0 I.kIn M.kp (run_makeG (us := []) (vs := []) (dvs := []) (E := WE (wxOf C ex)) M G hgd hr h3 .nil (passAt tk σ) I .nil (fun _ _ _ _ _ => trivial) ?_)) hdb)⟩
  obtain ⟨n, env, ad, I0, S, q⟩ := h
  intro y dy hy hdy hne
  exact make_in (ms := []) (vs := []) (ds := []) rfl S trivial hy hdy hne q
end
/-! ### methods of several classes -/
def pickF (l : List (Nat × (List D → M D))) : Nat → List D → M D := fun c ds => match l.lookup c with
  | some F => F ds
  | none => .bad
theorem nilC {P : Nat → Prop} : ∀ x ∈ ([] : List Nat), P x := fun x h => by simp at h
theorem consC {P : Nat → Prop} {c : Nat} {cs : List Nat} (h : P c) (r : ∀ x ∈ cs, P x) : ∀ x ∈ c :: cs, P x := fun x hx => by
  rcases List.mem_cons.mp hx with rfl | hx
  · exact h
  · exact r x hx
theorem MethOk.mono {P : Program} {w : World} {K : PySem.W.Frag} {mg : Str → Option Value} {base : Heap} {m : Str} {ps : List Str} {k j : Nat} {C : Addr} {sp : Sp} (h : MethOk P w K mg base m ps j C sp) (hj : j ≤ k) : MethOk P w K mg base m ps k C sp := by
  obtain ⟨f, fd, G, r⟩ := h.ex
  exact ⟨f, fd, G.mono hj, r⟩
/-! ### x.extend(e) -/
def sExt (i : Nat) (f : Env → M D) : Env → M (Fl × Env) := fun e => match e[i]? with
  | some (.own (.lst ds)) => tryB (f e) e fun d => match d with
    | .lst es => if ds.length + es.length ≤ line then .ret (.nx, e.set i (.own (.lst (ds ++ es)))) else .bad
    | _ => .bad
  | _ => .bad
section
variable {C : Ctx} {ex : Ex} {X : Cx} {e : Expr} {f : Env → M D} {pos : Pos}
theorem ms_ext {i : Nat} {x : Str} {p2 apos cpos : Pos} (hN : X.N[i]? = some x) (hv : Vis X.env.scope x) (he : PM .fr C ex X e f) (hd : (x == ("__debug__" : Str)) = false := by decide) (hcd : (x == ("__classdict__" : Str)) = false := by decide)
    (hbase : attributeBase (.Name x p2) "extend" X.env (eval (.Name x p2) X.env) = eval (.Name x p2) X.env := by rfl)
    (hfew : ((backTo cpos (starEach [e] X.env)).all (fun x => !x.1) && (backToKw cpos (keywordEach [] X.env)).all (fun x => x.1.isSome)
      && decide (([e] : List Expr).length + ([] : List Keyword).length + (if ([] : List Keyword).isEmpty then 0 else 1) < 30)) = true := by rfl)
    (hline : (apos.endLine == cpos.line) = true := by rfl) (hs : starEach [e] X.env = (false, eval e X.env) :: starEach [] X.env := by rfl) (hsw : swapsWith (.Call (.Attribute (.Name x p2) "extend" apos) [e] [] cpos) none pos.line X.env = pure false := by rfl) :
    PMS C ex X (.Expr (.Call (.Attribute (.Name x p2) "extend" apos) [e] [] cpos) pos) (sExt i f) :=
  PS_imp (ps_expr (pe_bm PySem.F.plainAttrs_list PySem.F.slot_list_extend PySem.F.type_list_extend mt_extend (pe_var hN hv hd hcd) (pa_cons he pa_nil hs) hbase hfew hline hs) hsw) fun Dn σ H q => by
    obtain ⟨n, env, ad, I, S, q⟩ := q
    have q : AllB (match env[i]? with | some (.own (.lst ds)) => tryB (f env) env fun d => (match d with | .lst es => if ds.length + es.length ≤ line then .ret (.nx, env.set i (.own (.lst (ds ++ es)))) else .bad | _ => .bad) | _ => .bad) n (PoS C ex Dn I) noE := q
    split at q
    · rename_i ds h
      obtain ⟨h1, ⟨vs, h2, rl⟩, h3, h4, h5⟩ := S.so i _ h
      refine ⟨_, h1, .inl ⟨rfl, vs, SqL.of h2⟩, n, env, ad, I, S, tM_S S q fun n' d v I' H' S' i' x r q' => ?_⟩
      cases d <;> first | exact False.elim q' | skip
      rename_i es
      obtain ⟨hz, q'⟩ := allB_ite q'
      obtain ⟨_, ⟨vs', h2', rl'⟩, _⟩ := S'.so i _ h
      obtain ⟨b, rfl, g1, ⟨ws, g2, g3⟩, g4, g5, g6⟩ := r
      refine ⟨ad i, b, vs', ws, rfl, rfl, h2', g2, by rw [rl'.length, g3.length, ← line_eq]; exact hz, ?_⟩
      exact (show PoS C ex Dn I' n' (.nx, env.set i (.own (.lst (ds ++ es)))) from q') ad σ I' _ (S'.lset h fun H2 e => ⟨_, e, rl'.append g3⟩) (Sub.refl _)
    · exact False.elim q
end
/-! ### d.get(k, x), d an own dict -/
def getDM : D → D → D → M D
  | .dct kvs, x, y => match keyD x with
    | some k => .ret ((getKD kvs k).getD y)
    | none => .bad
  | _, _, _ => .bad
def eGetD (f g k : Env → M D) : Env → M D := fun e => f e >>= fun x => match x with
  | .dct kvs => g e >>= fun y => k e >>= fun z => getDM (.dct kvs) y z
  | _ => .bad
section
variable {C : Ctx} {ex : Ex} {X : Cx} {o a b : Expr} {f g k : Env → M D} {apos cpos : Pos}
theorem pm_getD (hu : X.A.units + 65 < cLine) (ho : PM .rd C ex X o f) (ha : PM .rd C ex X a g) (hb : PM .val C ex X b k) (m : M2 X o "get" apos a b cpos := by exact ⟨rfl, rfl, rfl, rfl⟩) : PM .val C ex X (.Call (.Attribute o "get" apos) [a, b] [] cpos) (eGetD f g k) :=
  PE_imp (pe_dget2 (show X.A.units + 1 < cLine by omega) ho ha hb m) fun σ H Q q => by
    obtain ⟨n, env, ad, I, S, q⟩ := q
    have q : AllB (f env >>= fun x => match x with | .dct kvs => g env >>= fun y => k env >>= fun z => getDM (.dct kvs) y z | _ => .bad) n (Po .val C env ad σ I H Q) (Pe C ex env ad σ I H) := q
    rw [allB_bind] at q
    refine ⟨n, env, ad, I, S, q.mono (fun n1 d q1 => ?_) (fun _ _ _ k => k)⟩
    intro v1 I1 H1 s1 i1 x1 r1
    cases d <;> first | exact False.elim q1 | skip
    rename_i kvs
    obtain ⟨p, ks, rfl, hp, rk⟩ := r1.dct s1
    have q1 : AllB (g env >>= fun y => k env >>= fun z => getDM (.dct kvs) y z) n1 (Po .val C env ad σ I H Q) (Pe C ex env ad σ I H) := q1
    rw [allB_bind] at q1
    refine ⟨p, rfl, .inl ⟨ks, .inl hp⟩, n1, env, ad, I1, s1, q1.mono (fun n2 y q2 => ?_) (fun n' c d k => k.mono i1 x1)⟩
    intro v2 I2 H2 s2 i2 x2 r2
    rw [allB_bind] at q2
    refine ⟨n2, env, ad, I2, s2, q2.mono (fun n3 z q3 => ?_) (fun n' c d k => (k.mono i1 x1).mono i2 x2)⟩
    intro v3 I3 H3 s3 i3 x3 r3
    have r1 := r1.later (by decide) (i2.trans i3) (x2.trans x3)
    have r2 := r2.later (by decide) i3 x3
    cases hk : keyD y with
    | none => simp only [getDM, hk] at q3; exact False.elim q3
    | some k =>
      simp only [getDM, hk] at q3
      obtain rfl := r2.key hk
      obtain ⟨p', ks', e, ha, rk'⟩ := r1.dct s3
      cases e
      have fin := fun v d (r : Rep C.W I3 v d) (e : (getKD kvs k).getD z = d) => (show Po .val C env ad σ I H Q n3 d from e ▸ q3) v I3 H3 s3 ((i1.trans i2).trans i3) ((x1.trans x2).trans x3) r
      rcases rk'.get (k := k) with ⟨h1, h2⟩ | ⟨v, d, h1, h2, rd⟩
      · exact ⟨none, by rw [← h1]; exact DGet.k ha, fin _ _ r3 (by rw [h2]; rfl)⟩
      · exact ⟨some v, by rw [← h1]; exact DGet.k ha, fin _ _ rd (by rw [h2]; rfl)⟩
end
end PD

set_option Elab.async false
set_option linter.all false
set_option maxRecDepth 100000
set_option maxHeartbeats 4000000
/-! PDTab2: dict displays; tables of the module; a list lent within a tuple. -/
namespace PD
open PySem PySem.Spec L2 PDL
section
variable {C : Ctx} {ex : Ex} {X : Cx}
/-- an object in no one's hand is changed -/
theorem Sim.chg {n : Nat} {env : Env} {ad : Nat → Addr} {σ : L2.St} {I H : Hp} {p : Addr} {o : HO} (s : Sim C n env ad σ I H) (hI : I p = none) (hB : C.B p = none) (hN : NotS C.W.S p) (hn : ∀ (i : Nat) (d : D), env[i]? = some (Slot.own d) → ad i ≠ p) : Sim C n env ad σ I (upd H p o) := by
  refine ⟨fun b u e => ?_, s.i0, fun b u h e => ?_, s.fresh, s.nos, ?_, s.len, s.sv, s.sb, fun i d e => ?_, s.inj⟩
  · rw [upd_ne (fun z => by rw [z, hI] at e; cases e)]
    exact s.sub b u e
  · rw [upd_ne (fun z => by rw [z, hB] at e; cases e)]
    exact s.base b u h e
  · exact s.src.write hN
  · obtain ⟨h1, h2, h3, h4, h5⟩ := s.so i d e
    exact ⟨h1, h2.mono (Sub.refl _) (upd_ne (hn i d e)), h3, h4, h5⟩
/-! ### displays of dicts -/
def dispM : List ((Env → M D) × (Env → M D)) → Env → M (List (D × D))
  | [], _ => .ret []
  | (f, g) :: r, e => f e >>= fun x => g e >>= fun y => dispM r e >>= fun ps => .ret ((x, y) :: ps)
def mergeD (ps : List (D × D)) : List (D × D) := ps.foldl (fun acc kv => match keyD kv.1 with
  | some k => putKD acc k kv.2
  | none => acc) []
def eDisp (fs : List ((Env → M D) × (Env → M D))) : Env → M D := fun e => noR (dispM fs (borE e)) >>= fun ps => if ps.length ≤ 15 ∧ (ps.all fun kv => (keyD kv.1).isSome) = true then .ret (.dct (mergeD ps)) else .bad
def tX (W : Wd) (f : Env → M D) : TE := fun σ H Q => ∃ B I0, tM .val ⟨W, B, I0⟩ exNo f σ H Q
theorem PE_X {W : Wd} {e : Expr} {f : Env → M D} (h : ∀ B I0, PM .val ⟨W, B, I0⟩ exNo X e f) : PE X e (tX W f) := ⟨fun pins s σ H Q I ⟨B, I0, q⟩ => (h B I0).run pins s σ H Q I q⟩
def trsX (W : Wd) (fs : List ((Env → M D) × (Env → M D))) : List (TE × TE) := fs.map fun p => (tX W p.1, tX W p.2)
inductive PMps (W : Wd) (X : Cx) : List (Option Expr) → List Expr → List ((Env → M D) × (Env → M D)) → Prop
  | nil : PMps W X [] [] []
  | cons {k v : Expr} {ks : List (Option Expr)} {vs : List Expr} {f g : Env → M D} {r : List ((Env → M D) × (Env → M D))} : (∀ B I0, PM .val ⟨W, B, I0⟩ exNo X k f) → (∀ B I0, PM .val ⟨W, B, I0⟩ exNo X v g) → PMps W X ks vs r → PMps W X (some k :: ks) (v :: vs) ((f, g) :: r)
theorem PMps.pps {W : Wd} {pos : Pos} {ks : List (Option Expr)} {vs : List Expr} {fs : List ((Env → M D) × (Env → M D))} (h : PMps W X ks vs fs) : PPs X pos ks vs (trsX W fs) := by
  induction h with
  | nil => exact pps_nil
  | cons a b _ ih => exact pps_cons (PE_X a) (PE_X b) ih
/-- pairs and their data -/
inductive RepP (W : Wd) (I : Hp) : List (V × V) → List (D × D) → Prop
  | nil : RepP W I [] []
  | cons {x y : V} {d e : D} {ps : List (V × V)} {ds : List (D × D)} : Rep W I x d → Rep W I y e → RepP W I ps ds → RepP W I ((x, y) :: ps) ((d, e) :: ds)
theorem RepP.mono {W : Wd} {I J : Hp} (s : Sub I J) : ∀ {ps : List (V × V)} {ds : List (D × D)}, RepP W I ps ds → RepP W J ps ds
  | _, _, .nil => .nil
  | _, _, .cons a b r => .cons (a.mono s) (b.mono s) (RepP.mono s r)
theorem disp_read : ∀ {fs : List ((Env → M D) × (Env → M D))} {n : Nat} {env : Env} {ad : Nat → Addr} {σ : L2.St} {I H : Hp} {Q : List (V × V) → Hp → Prop}, Sim C n env ad σ I H →
    AllB (dispM fs env) n (fun n' ds => ∀ ps I' H', Sim C n' env ad σ I' H' → Sub I I' → SameX C.W.S H H' → RepP C.W I' ps ds → Q ps H') (fun _ _ _ => False) → tPairs (trsX C.W fs) σ H Q
  | [], n, env, ad, σ, I, H, Q, S, q => (show ∀ ps I' H', Sim C n env ad σ I' H' → Sub I I' → SameX C.W.S H H' → RepP C.W I' ps [] → Q ps H' from q) [] I H S (Sub.refl _) (SameX.refl _) .nil
  | (f, g) :: r, n, env, ad, σ, I, H, Q, S, q => by
    have q : AllB (f env >>= fun x => g env >>= fun y => dispM r env >>= fun ps => .ret ((x, y) :: ps)) n _ _ := q
    rw [allB_bind] at q
    refine ⟨C.B, C.I0, n, env, ad, I, S, q.mono (fun n1 d q1 => ?_) fun _ _ _ z => z.elim⟩
    intro v1 I1 H1 s1 i1 x1 r1
    rw [allB_bind] at q1
    refine ⟨C.B, C.I0, n1, env, ad, I1, s1, q1.mono (fun n2 e q2 => ?_) fun _ _ _ z => z.elim⟩
    intro v2 I2 H2 s2 i2 x2 r2
    rw [allB_bind] at q2
    refine disp_read s2 (q2.mono (fun n3 ds q3 => ?_) fun _ _ _ z => z)
    intro ps I3 H3 s3 i3 x3 r3
    exact (show ∀ ps I' H', Sim C n3 env ad σ I' H' → Sub I I' → SameX C.W.S H H' → RepP C.W I' ps ((d, e) :: ds) → Q ps H' from q3) _ I3 H3 s3 ((i1.trans i2).trans i3) ((x1.trans x2).trans x3) (.cons (Rep.mono (i2.trans i3) r1) (Rep.mono i3 r2) r3)
theorem RepP.keys {W : Wd} {I : Hp} : ∀ {ps : List (V × V)} {ds : List (D × D)}, RepP W I ps ds → (ds.all fun kv => (keyD kv.1).isSome) = true → ∃ kvs : List (Key × V), ps = kvs.map (fun kv => (kV kv.1, kv.2)) ∧ kvs.length = ds.length ∧ ∀ (as : List (Key × V)) (bs : List (D × D)), RepK W I as bs → RepK W I (mergeK as kvs) (ds.foldl (fun acc kv => match keyD kv.1 with
    | some k => putKD acc k kv.2
    | none => acc) bs)
  | _, _, .nil, _ => ⟨[], rfl, rfl, fun as bs r => r⟩
  | _, _, .cons (d := d) (e := e) (ds := ds) a b r, h => by
    rw [List.all_cons, Bool.and_eq_true] at h
    obtain ⟨kvs, e1, e2, e3⟩ := RepP.keys r h.2
    obtain ⟨k, hk⟩ := Option.isSome_iff_exists.mp h.1
    have ha : _ = kV k := (RepM.val_of (C := ⟨W, I, I⟩) (env := []) (ad := ad0) (H := I) a).key hk
    subst ha
    refine ⟨(k, _) :: kvs, by rw [e1]; rfl, by rw [List.length_cons, e2]; rfl, fun as bs r' => ?_⟩
    have := e3 (putK as k _) (putKD bs k e) (r'.put b)
    rw [List.foldl_cons]
    simp only [hk]
    exact this
theorem pm_disp {pos : Pos} {ks : List (Option Expr)} {vs : List Expr} {fs : List ((Env → M D) × (Env → M D))} (h : PMps C.W X ks vs fs) (hall : ks.all (·.isSome) = true := by rfl) (hl : ks.length = vs.length := by rfl) (h0 : ks ≠ [] := by exact fun z => nomatch z) (h15 : ks.length ≤ 15 := by decide) :
    PM .fr C ex X (.Dict ks vs pos) (eDisp fs) := PE_imp (pe_disp h.pps hall hl h0 h15) fun σ H Q q => by
  obtain ⟨n, env, ad, I, S, q⟩ := q
  have q : AllB (noR (dispM fs (borE env)) >>= fun ps => if ps.length ≤ 15 ∧ (ps.all fun kv => (keyD kv.1).isSome) = true then .ret (.dct (mergeD ps)) else .bad) n (Po .fr C env ad σ I H Q) (Pe C ex env ad σ I H) := q
  rw [allB_bind] at q
  intro p hp
  have S1 := S.laid' (o := .dK []) hp
  refine disp_read (C := ⟨C.W, upd H p (.dK []), I⟩) S1.inner ((allB_noR (E' := fun _ _ _ => False) q).mono (fun n1 ds q1 => ?_) fun _ _ _ z => z.elim)
  intro ps I2 H2 S2 i2 x2 r2
  obtain ⟨⟨hz, hk⟩, q1⟩ := allB_ite q1
  have hN := S.src.none_ne hp
  have e2 : H2 p = some (.dK []) := x2 p _ hN upd_same
  obtain ⟨kvs, e1, e3, e4⟩ := r2.keys hk
  refine ⟨e2, kvs, e1, by rw [e3]; exact hz, ?_⟩
  have hI2 : I2 p = none := by
    cases e : I2 p with
    | none => rfl
    | some o =>
      rcases S2.fresh p o e with z | z
      · have z : I p = some o := z
        rw [S.none_I hp] at z; cases z
      · have z : (upd H p (.dK [])) p = none := z
        rw [upd_same] at z; cases z
  have hno : ∀ (i : Nat) (d : D), env[i]? = some (Slot.own d) → ad i ≠ p := fun i d h => by
    obtain ⟨_, g2, _⟩ := S.so i d h
    obtain ⟨u, hu⟩ := g2.there
    exact ne_of_none hu hp
  have S3 := (S1.ret S2).chg (o := .dK (mergeK [] kvs)) hI2 (S.none_B hp) hN hno
  exact (show Po .fr C env ad σ I H Q n1 (.dct (mergeD ds)) from q1) _ I2 _ S3 i2 (fun b o h e => by
    rw [upd_ne (ne_of_none e hp)]
    exact x2 b o h (by rw [upd_ne (ne_of_none e hp)]; exact e)) ⟨p, rfl, hN, ⟨_, upd_same, e4 [] [] .nil⟩, hI2, S.none_B hp, hno⟩
end
end PD

set_option Elab.async false
set_option linter.all false
set_option maxRecDepth 100000
set_option maxHeartbeats 4000000
/-! PDLend: a list that is held, lent within a value for one expression. -/
namespace PD
open PySem PySem.Spec L2 PDL
def hdOk : List D → Bool
  | [] => true
  | .str _ :: _ => true
  | _ => false
mutual
/-- every list in it is empty or begins with a text -/
def flD : D → Bool
  | .tup xs => flDs xs
  | .lst xs => hdOk xs && flDs xs
  | .dct _ => false
  | .obj _ _ => false
  | .src => false
  | _ => true
def flDs : List D → Bool
  | [] => true
  | x :: xs => flD x && flDs xs
end
def hdT : List D → Bool
  | .tup _ :: _ => true
  | _ => false
def eLend (i : Nat) (f : Env → M D) : Env → M D := fun e => match e[i]? with
  | some (.bor (.lst dl)) => if hdT dl = true then noR (f (e.set i (.v (.lst dl)))) >>= fun d => if flD d = true then .ret d else .bad else .bad
  | _ => .bad
section
variable {W : Wd} {I : Hp} {a : Addr} {p : Addr} {vs : List V}
def less (I : Hp) (a : Addr) : Hp := fun b => if b = a then none else I b
theorem less_ne {b : Addr} (h : b ≠ a) : less I a b = I b := if_neg h
theorem less_same : less I a a = none := if_pos rfl
mutual
theorem Rep.less (ha : I a = some (.lst (.ref p :: vs))) : ∀ {v : V} {d : D}, Rep W I v d → flD d = true → Rep W (less I a) v d
  | _, _, .non, _ => .non
  | _, _, .bl b, _ => .bl b
  | _, _, .int i, _ => .int i
  | _, _, .str x, _ => .str x
  | _, _, .tup (a := b) q r, h => .tup (by
      rcases q with (q | ⟨o, q⟩) | q
      · exact .inl (.inl (by rw [less_ne (fun z => by rw [z, ha] at q; cases q)]; exact q))
      · exact .inl (.inr ⟨o, by rw [less_ne (fun z => by rw [z, ha] at q; cases q)]; exact q⟩)
      · exact .inr q) (RepL.less ha r (by simpa [flD] using h))
  | _, _, .lst (a := b) (ds := ds) q r, h => by
      obtain ⟨h1, h2⟩ : hdOk ds = true ∧ flDs ds = true := by simpa [flD] using h
      refine .lst (by
        rw [less_ne (fun z => ?_)]
        · exact q
        · rw [z, ha] at q
          cases q
          cases r with
          | cons r0 r1 =>
            cases r0 <;> cases h1) (RepL.less ha r h2)
  | _, _, .dct q r, h => by simp [flD] at h
  | _, _, .obj _ q r, h => by simp [flD] at h
  | _, _, .exc _ q _ r, h => by simp [flD] at h
  | _, _, .src q, h => by simp [flD] at h
theorem RepL.less (ha : I a = some (.lst (.ref p :: vs))) : ∀ {v : List V} {d : List D}, RepL W I v d → flDs d = true → RepL W (less I a) v d
  | _, _, .nil, _ => .nil
  | _, _, .cons (d := d) (ds := ds) r q, h => by
    obtain ⟨h1, h2⟩ : flD d = true ∧ flDs ds = true := by simpa [flDs] using h
    exact .cons (Rep.less ha r h1) (RepL.less ha q h2)
end
end
section
variable {C : Ctx} {ex : Ex} {X : Cx} {e : Expr} {f : Env → M D}
theorem pm_lend (i : Nat) (h : ∀ B I0, PM .val ⟨C.W, B, I0⟩ exNo X e f) : PM .val C ex X e (eLend i f) := by
  refine ⟨fun pins s σ H Q Iv q => ?_⟩
  obtain ⟨n, env, ad, I, S, q⟩ := q
  have q : AllB (match env[i]? with | some (.bor (.lst dl)) => (if hdT dl = true then noR (f (env.set i (.v (.lst dl)))) >>= fun d => if flD d = true then .ret d else .bad else .bad) | _ => .bad) n (Po .val C env ad σ I H Q) (Pe C ex env ad σ I H) := q
  split at q
  · rename_i dl hi
    obtain ⟨hh, q⟩ := allB_ite q
    rw [allB_bind] at q
    obtain ⟨v, hv, hr⟩ := S.sb i _ hi
    have hl : i < env.length := (List.getElem?_eq_some_iff.mp hi).1
    -- what stands in the frame while it is lent
    have hrd : ∀ (I1 : Hp) (C1 : Ctx), C1.W = C.W → C1.B = C.B → Sub I I1 → Rep C.W I1 v (.lst dl) → Sub C1.I0 I1 → Sub I1 H → (∀ b o, I1 b = some o → C1.I0 b = some o ∨ C.B b = none) → (∀ b o, I1 b = some o → NotS C.W.S b) → (∀ (j : Nat) (d : D), env[j]? = some (Slot.own d) → I1 (ad j) = none) →
        Sim C1 n (env.set i (.v (.lst dl))) ad σ I1 H := fun I1 C1 hW hB sI r z0 zs zf zn zo => by
      refine ⟨zs, z0, by rw [hW, hB]; exact S.base, fun b o z => by rw [hB]; exact zf b o z, by rw [hW]; exact zn, by rw [hW]; exact S.src, by rw [List.length_set]; exact S.len, fun j d z => ?_, fun j d z => ?_, fun j d z => ?_, fun j k d d' z z' ha => ?_⟩
      · by_cases hj : i = j
        · subst hj
          rw [List.getElem?_set_self hl] at z
          cases z
          exact ⟨v, hv, by rw [hW]; exact r⟩
        · rw [List.getElem?_set_ne hj] at z
          obtain ⟨w, w1, w2⟩ := S.sv j d z
          exact ⟨w, w1, by rw [hW]; exact w2.mono sI⟩
      · by_cases hj : i = j
        · subst hj; rw [List.getElem?_set_self hl] at z; cases z
        · rw [List.getElem?_set_ne hj] at z
          obtain ⟨w, w1, w2⟩ := S.sb j d z
          rw [hW, hB]
          refine ⟨w, w1, ?_⟩
          rcases w2 with w2 | ⟨b, w2, w3, w4⟩
          · exact .inl (w2.mono sI)
          · exact .inr ⟨b, w2, w3, w4.mono sI rfl⟩
      · by_cases hj : i = j
        · subst hj; rw [List.getElem?_set_self hl] at z; cases z
        · rw [List.getElem?_set_ne hj] at z
          obtain ⟨w1, w2, w3, w4, w5⟩ := S.so j d z
          rw [hW, hB]
          exact ⟨w1, w2.mono sI rfl, w3, zo j d z, w5⟩
      · have own' : ∀ {j : Nat} {d : D}, (env.set i (.v (.lst dl)))[j]? = some (Slot.own d) → env[j]? = some (Slot.own d) := fun {j d} z => by
          by_cases hj : i = j
          · subst hj; rw [List.getElem?_set_self hl] at z; cases z
          · rwa [List.getElem?_set_ne hj] at z
        exact S.inj j k d d' (own' z) (own' z') ha
    -- and back
    have back : ∀ {n1 : Nat} {I1 I2 H2 : Hp} {C1 : Ctx}, C1.W = C.W → C1.B = C.B → Sim C1 n1 (env.set i (.v (.lst dl))) ad σ I1 H2 → Sub I2 I1 → Sub I I2 → SameX C.W.S H H2 → (∀ b o, I2 b = some o → C.I0 b = some o ∨ C.B b = none) → Sim C n1 env ad σ I2 H2 := fun {n1 I1 I2 H2 C1} hW hB S1 s2 sI xx zf => by
      have own' : ∀ {j : Nat} {d : D}, env[j]? = some (Slot.own d) → (env.set i (.v (.lst dl)))[j]? = some (Slot.own d) := fun {j d} z => by
        by_cases hj : i = j
        · subst hj; rw [hi] at z; cases z
        · rwa [List.getElem?_set_ne hj]
      refine ⟨s2.trans S1.sub, S.i0.trans sI, ?_, zf, fun b o z => by rw [← hW]; exact S1.nos b o (s2 b o z), by rw [← hW]; exact S1.src, S.len, fun j d z => ?_, fun j d z => ?_, fun j d z => ?_, S.inj⟩
      · rw [← hW, ← hB]; exact S1.base
      · obtain ⟨w, w1, w2⟩ := S.sv j d z
        exact ⟨w, w1, w2.mono sI⟩
      · obtain ⟨w, w1, w2⟩ := S.sb j d z
        refine ⟨w, w1, ?_⟩
        rcases w2 with w2 | ⟨b, w2, w3, w4⟩
        · exact .inl (w2.mono sI)
        · exact .inr ⟨b, w2, w3, w4.mono sI rfl⟩
      · obtain ⟨w1, w2, w3, w4, w5⟩ := S.so j d z
        obtain ⟨u, hu⟩ := w2.there
        have g := S1.so j d (own' z)
        refine ⟨w1, w2.mono sI ((xx _ _ w5 hu).trans hu.symm), w3, ?_, w5⟩
        cases e2 : I2 (ad j) with
        | none => rfl
        | some o => have := s2 _ _ e2; rw [g.2.2.2.1] at this; cases this
    rcases hr with hr | ⟨a, rfl, hN, vs, ha, hrl⟩
    · refine (h C.B C.I0).run pins s σ H Q Iv ⟨n, _, ad, I, hrd I ⟨C.W, C.B, C.I0⟩ rfl rfl (Sub.refl _) hr S.i0 S.sub S.fresh S.nos (fun j d z => (S.so j d z).2.2.2.1), (allB_noR (E' := fun _ _ _ => False) q).mono (fun n1 d z => ?_) fun _ _ _ z => z.elim⟩
      intro w I1 H1 S1 i1 x1 r1
      obtain ⟨_, z⟩ := allB_ite z
      exact (show Po .val C env ad σ I H Q n1 d from z) w I1 H1 (back rfl rfl S1 (Sub.refl _) i1 x1 S1.fresh) i1 x1 r1
    · -- the list is the caller's
      cases dl with
      | nil => cases hh
      | cons d0 dl =>
        cases d0 <;> first | cases hh | skip
        cases hrl with
        | @cons v0 vs0 _ _ r0 rl =>
          have hH : H a = some (.lst (v0 :: vs0)) := (S.base a _ hN ha)
          by_cases hIa : ∃ o, I a = some o
          · obtain ⟨o, hIa⟩ := hIa
            have : o = .lst (v0 :: vs0) := by have := S.sub _ _ hIa; rw [hH] at this; cases this; rfl
            subst this
            have hr := Rep.lst (W := C.W) hIa (.cons r0 rl)
            refine (h C.B C.I0).run pins s σ H Q Iv ⟨n, _, ad, I, hrd I ⟨C.W, C.B, C.I0⟩ rfl rfl (Sub.refl _) hr S.i0 S.sub S.fresh S.nos (fun j d z => (S.so j d z).2.2.2.1), (allB_noR (E' := fun _ _ _ => False) q).mono (fun n1 d z => ?_) fun _ _ _ z => z.elim⟩
            intro w I1 H1 S1 i1 x1 r1
            obtain ⟨_, z⟩ := allB_ite z
            exact (show Po .val C env ad σ I H Q n1 d from z) w I1 H1 (back rfl rfl S1 (Sub.refl _) i1 x1 S1.fresh) i1 x1 r1
          · have hIn : I a = none := by
              cases e1 : I a with
              | none => rfl
              | some o => exact absurd ⟨o, e1⟩ hIa
            cases r0 with
            | @tup p xs _ q0 q1 =>
              have sI : Sub I (upd I a (.lst (V.ref p :: vs0))) := sub_upd hIn
              refine (h C.B (upd C.I0 a (.lst (V.ref p :: vs0)))).run pins s σ H Q Iv ⟨n, _, ad, upd I a (.lst (V.ref p :: vs0)), hrd _ ⟨C.W, C.B, upd C.I0 a (.lst (V.ref p :: vs0))⟩ rfl rfl sI (.lst upd_same (.cons ((Rep.tup q0 q1).mono sI) (rl.mono sI))) (fun b o z => ?_) (fun b o z => ?_) (fun b o z => ?_) (fun b o z => ?_) (fun j d z => ?_), (allB_noR (E' := fun _ _ _ => False) q).mono (fun n1 d z => ?_) fun _ _ _ z => z.elim⟩
              · have z : upd C.I0 a (.lst (V.ref p :: vs0)) b = some o := z
                by_cases hb : b = a
                · subst hb; rw [upd_same] at z ⊢; exact z
                · rw [upd_ne hb] at z ⊢; exact S.i0 b o z
              · by_cases hb : b = a
                · subst hb; rw [upd_same] at z; cases z; exact hH
                · rw [upd_ne hb] at z; exact S.sub b o z
              · by_cases hb : b = a
                · subst hb; rw [upd_same] at z; exact .inl (by show upd C.I0 b (.lst (V.ref p :: vs0)) b = some o; rw [upd_same]; exact z)
                · rw [upd_ne hb] at z
                  exact (S.fresh b o z).imp (fun z => by show upd C.I0 a (.lst (V.ref p :: vs0)) b = some o; rw [upd_ne hb]; exact z) id
              · by_cases hb : b = a
                · subst hb; exact hN
                · rw [upd_ne hb] at z; exact S.nos b o z
              · have hne : ad j ≠ a := fun e1 => by
                  obtain ⟨_, _, w3, _⟩ := S.so j d z
                  rw [e1, ha] at w3; cases w3
                rw [upd_ne hne]
                exact (S.so j d z).2.2.2.1
              · intro w I1 H1 S1 i1 x1 r1
                obtain ⟨hf, z⟩ := allB_ite z
                have ha1 : I1 a = some (.lst (V.ref p :: vs0)) := i1 a _ upd_same
                have sub2 : Sub (less I1 a) I1 := fun b o z => by
                  by_cases hb : b = a
                  · rw [hb, less_same] at z; cases z
                  · rwa [less_ne hb] at z
                have sub3 : Sub I (less I1 a) := fun b o z => by
                  rw [less_ne (fun e1 => by rw [e1, hIn] at z; cases z)]
                  exact i1 b o (sI b o z)
                refine (show Po .val C env ad σ I H Q n1 d from z) w (less I1 a) H1 (back (C1 := ⟨C.W, C.B, upd C.I0 a (.lst (V.ref p :: vs0))⟩) rfl rfl S1 sub2 sub3 x1 fun b o z => ?_) sub3 x1 (Rep.less ha1 r1 hf)
                have hb : b ≠ a := fun e1 => by rw [e1, less_same] at z; cases z
                rw [less_ne hb] at z
                exact (S1.fresh b o z).imp (fun z => by
                  have z : upd C.I0 a (.lst (V.ref p :: vs0)) b = some o := z
                  rw [upd_ne hb] at z; exact z) id
  · exact False.elim q
end
end PD

set_option Elab.async false
set_option linter.all false
set_option maxRecDepth 100000
set_option maxHeartbeats 4000000
/-! PDTabK: tables of the module with text keys: d.get(k, x), k in d, d[k]; the hook with tables. -/
namespace PDL
open PySem PySem.Spec L2 PyProof.Rows
/-- a scalar -/
def vD : PD.D → Option V
  | .non => some .non
  | .bl b => some (.bl b)
  | .int i => some (.int i)
  | .str x => some (.str x)
  | _ => none
theorem vD_rep {W : PD.Wd} {I : Hp} {d : PD.D} {v : V} (h : vD d = some v) : PD.Rep W I v d := by
  cases d <;> cases h
  · exact .non
  · exact .bl _
  · exact .int _
  · exact .str _
/-- a table of the module: its keys in order, the values -/
structure TabF (K : PySem.W.Frag) (w : World) (a : Addr) (kvs : List (Str × PD.D)) : Prop where
  kd : ∃ es n, KDict K w a es n
  get : ∀ z : Str, (kvs.lookup z = none ∧ PySem.W.nsIn K a z = some none) ∨ ∃ d u v, kvs.lookup z = some d ∧ PySem.W.nsIn K a z = some (some u) ∧ RelV v u ∧ vD d = some v
def tabB (K : PySem.W.Frag) (a : Addr) (kvs : List (Str × PD.D)) : Bool := kvs.all fun q => match PySem.W.nsIn K a q.1, vD q.2 with
  | some (some u), some v => He.relB v u
  | _, _ => false
theorem lookup_mem {α : Type} : ∀ {l : List (Str × α)} {z : Str} {d : α}, l.lookup z = some d → (z, d) ∈ l
  | [], _, _, h => by cases h
  | (k, v) :: l, z, d, h => by
    rw [List.lookup_cons] at h
    split at h
    · rename_i e
      cases h
      rw [eq_of_beq e]
      exact List.mem_cons_self
    · exact List.mem_cons_of_mem _ (lookup_mem h)
theorem tab_ok {K : PySem.W.Frag} {w : World} {a : Addr} {kvs : List (Str × PD.D)} (h1 : He.dicW K a = some (He.keysIn w.params (kvs.map (·.1)))) (h2 : tabB K a kvs = true) : TabF K w a kvs := by
  obtain ⟨es, n, kd⟩ := He.dicW_ok h1
  refine ⟨⟨es, n, kd⟩, fun z => ?_⟩
  cases e : kvs.lookup z with
  | some d =>
    have m := lookup_mem e
    have h3 := List.all_eq_true.mp h2 _ m
    dsimp only at h3
    cases e1 : PySem.W.nsIn K a z with
    | none => rw [e1] at h3; cases h3
    | some r =>
      rw [e1] at h3
      cases r with
      | none => cases h3
      | some u =>
        cases e2 : vD d with
        | none => rw [e2] at h3; cases h3
        | some v => rw [e2] at h3; exact .inr ⟨d, u, v, rfl, rfl, He.relB_ok h3, e2⟩
  | none =>
    refine .inl ⟨rfl, ?_⟩
    have keys : ∀ x ∈ es.toList, ∃ k t, x.key = Value.str k t ∧ k ∈ kvs.map (·.1) := by
      have hd : He.dicW K a = some (es.toList.map He.keyOf) := by
        unfold He.dicW
        rw [kd.at_]
        have : (decide ("dict" = "dict") && ((#[] : Array (Option Value)).isEmpty && !(a == sysModules))) = true := by rw [kd.low]; rfl
        show (match (decide ("dict" = "dict") && ((#[] : Array (Option Value)).isEmpty && !(a == sysModules))) with
          | true => some (es.toList.map He.keyOf)
          | false => none) = _
        rw [this]
      rw [hd] at h1
      have h1 := Option.some.inj h1
      intro x hx
      have m : He.keyOf x ∈ He.keysIn w.params (kvs.map (·.1)) := by rw [← h1]; exact List.mem_map_of_mem hx
      obtain ⟨k, hk, e3⟩ := List.mem_map.mp m
      unfold He.keyOf at e3
      split at e3
      · rename_i y t hy
        have e4 : k = y := congrArg Prod.fst (Option.some.inj e3)
        exact ⟨y, t, hy, e4 ▸ hk⟩
      · cases e3
    unfold PySem.W.nsIn
    rw [kd.at_]
    dsimp only
    have f1 : es.toList.find? (fun x => x.key.isStr z) = none := by
      rw [List.find?_eq_none]
      intro x hx hz
      obtain ⟨k, t, e3, hk⟩ := keys x hx
      rw [e3] at hz
      have hz : (k == z) = true := hz
      obtain ⟨p, hp, e4⟩ := List.mem_map.mp hk
      have e5 : k = z := eq_of_beq hz
      subst e5
      have : ∀ l : List (Str × PD.D), p ∈ l → l.lookup p.1 ≠ none := fun l => by
        induction l with
        | nil => intro h; simp at h
        | cons q r ih =>
          intro h
          rw [List.lookup_cons]
          split
          · intro h; cases h
          · rename_i hne
            rcases List.mem_cons.mp h with rfl | h
            · simp at hne
            · exact ih h
      exact this kvs hp (by rw [e4]; exact e)
    have f2 : es.toList.any (fun x => x.refKey) = false := by
      rw [List.any_eq_false]
      intro x hx
      obtain ⟨k, t, e3, _⟩ := keys x hx
      unfold DictEntry.refKey
      rw [e3]
      exact Bool.false_ne_true
    rw [f1]
    dsimp only
    rw [f2]
    rfl
end PDL
namespace PDL
open PySem PySem.Spec L2 PyProof.Rows
/-! ### the hook with tables -/
abbrev TabP : Type := (PySem.W.Frag → Addr) × List Str
abbrev AlQ : Type := AlP × List (Option (List (Option (Str × Int))))
def obsQ (ck : List Ck) (fn : List DefP) (ts : List TabP) (K : PySem.W.Frag) : AlQ := (obsP ck fn K, ts.map fun t => He.dicW K (t.1 K))
def valQ (fn : List DefP) (ts : List TabP) (w : World) : AlQ := (valP fn, ts.map fun t => some (He.keysIn w.params t.2))
def SaysQ (ck : List Ck) (fn : List DefP) (ts : List TabP) (w : World) (K : PySem.W.Frag) : Prop := obsQ ck fn ts K = valQ fn ts w
def obsQG (n : Nat) (ck : List Ck) (fn : List DefP) (ts : List TabP) (g : Addr → Option Obj) : AlQ := obsQ ck fn ts (frP g n)
def hookQ (n : Nat) (ck : List Ck) (fn : List DefP) (ts : List TabP) : PySem.W.Hook where
  α := AlQ
  obs := fun s => obsQG n ck fn ts s.heap.get?
  val := fun w => valQ fn ts w
  says := fun w h => ∃ K : PySem.W.Frag, K.In h ∧ SaysQ ck fn ts w K
  of := fun _ _ e => ⟨_, He.frG_in, e⟩
  keeps := fun _ _ _ ⟨K, hK, c⟩ k => ⟨K, PySem.W.Frag.In.keeps hK k, c⟩
theorem obsQG_eq {n : Nat} {ck : List Ck} {fn : List DefP} {ts : List TabP} {g : Addr → Option Obj} {s : Shared} (h : ∀ a, g a = s.heap.get? a) : obsQG n ck fn ts g = (hookQ n ck fn ts).obs s := by
  obtain rfl : g = s.heap.get? := funext h
  rfl
/-- what the head says, with tables and the program -/
structure TopT (P : Program) (K : PySem.W.Frag) (w : World) (mg : Str → Option Value) (ck : List Ck) (fn : List DefP) (ts : List TabP) : Prop extends Top K mg ck fn where
  saysT : ts.map (fun t => He.dicW K (t.1 K)) = ts.map fun t => some (He.keysIn w.params t.2)
  prog : ProgOk P
theorem TopT.of {P : Program} {K : PySem.W.Frag} {w : World} {mg : Str → Option Value} {ck : List Ck} {fn : List DefP} {ts : List TabP} {h : Heap} (O : ProgOk P) (X : K.In h) (G : h.Ns mainGlobals mg) (c : SaysQ ck fn ts w K) : TopT P K w mg ck fn ts :=
  ⟨⟨⟨h, X, G⟩, congrArg (fun z : AlQ => z.1) c⟩, congrArg (fun z : AlQ => z.2) c, O⟩
def kTab (a : PySem.W.Frag → Addr) (kvs : List (Str × PD.D)) : Ck := fun K => tabB K (a K) kvs
section
variable {P : Program} {K : PySem.W.Frag} {w : World} {mg : Str → Option Value} {ck : List Ck} {fn : List DefP} {ts : List TabP}
theorem TopT.tab (Z : TopT P K w mg ck fn ts) (i j : Nat) {a : PySem.W.Frag → Addr} {kvs : List (Str × PD.D)} (h : ts[i]? = some (a, kvs.map (·.1)) := by rfl) (h2 : ck[j]? = some (kTab a kvs) := by rfl) : TabF K w (a K) kvs := by
  have e := congrArg (fun l : List (Option (List (Option (Str × Int)))) => l[i]?) Z.saysT
  simp only [List.getElem?_map, h, Option.map_some, Option.some.injEq] at e
  exact tab_ok e (Z.toTop.ok j h2)
/-- a def that says super() -/
theorem TopT.fnS (Z : TopT P K w mg ck fn ts) (i j : Nat) {d : DefP} {dd : PySem.W.Frag → Addr} (h : fn[i]? = some d := by rfl) (hz : ck[j]? = some (kSup d.adr dd) := by rfl) (hc : d.clo = [("__class__" : Str)] := by rfl) (hd : d.dfl = [] := by rfl) (ha : ((defArgs d.st).posonlyargs ++ (defArgs d.st).args).head?.map (·.arg) = some ("self" : Str) := by rfl) :
    ∃ fd, FunS P K d.name d.qual d.st (d.adr K) (cloAt K (d.adr K)) (dd K) (codAt K (d.adr K)) fd ∧ PySem.W.keepIn K (.ref (d.adr K)) = true ∧
      ∀ ps : List Str, (∀ (kV doc pm : Value) (an : Option Addr) (ct : Value) (us : List Value), us.length = ps.length → bindArgs (PySem.W.fnX d.name d.qual (defArgs d.st) (defBody d.st) (defScope d.st) [("__class__", cloAt K (d.adr K))] .none kV doc pm an (.ref (codAt K (d.adr K))) ct) ⟨us, []⟩ = pure (ps.zip us)) → L2.Binds K fd ps [] := by
  have c := Z.toTop.says
  have h1 := (He.ba (show ((ck.all fun f => f K) && fn.all fun d => d.ck K) = true from congrArg (fun z : AlP => z.1) c)).2
  have h2 : (fn.map fun d => sigP K (d.adr K))[i]? = (fn.map DefP.sig)[i]? := congrArg (·[i]?) (congrArg (fun z : AlP => z.2) c)
  simp only [List.getElem?_map, h, Option.map_some, Option.some.injEq] at h2
  exact DefP.fnS (O := Z.prog) h2 (List.all_eq_true.mp h1 d (List.mem_of_getElem? h)) hc hd ha (Z.toTop.ok j hz)
end
end PDL
namespace PD
open PySem PySem.Spec L2 PDL
/-! ### reading a table -/
def getTM (kvs : List (Str × D)) : D → D → M D
  | .str z, y => .ret ((kvs.lookup z).getD y)
  | _, _ => .bad
def inTM (kvs : List (Str × D)) : D → M D
  | .str z => .ret (.bl (kvs.lookup z).isSome)
  | _ => .bad
def ixTM (kvs : List (Str × D)) : D → M D
  | .str z => match kvs.lookup z with
    | some d => .ret d
    | none => .bad
  | _ => .bad
def tTGet (K : PySem.W.Frag) (w : World) (a : Addr) (kvs : List (Str × D)) (ty tx : TE) : TE := fun σ H Q => ty σ H fun y H1 => tx σ H1 fun x H2 => ∃ z, y = .str z ∧ ((kvs.lookup z = none ∧ Q x H2) ∨ ∃ d v, kvs.lookup z = some d ∧ vD d = some v ∧ Q v H2)
section
variable {C : Ctx} {ex : Ex} {X : Cx} {o a b : Expr} {f g k : Env → M D} {x : Str} {p pos apos cpos : Pos} {A : Addr} {kvs : List (Str × D)}
theorem pe_tget {ty tx : TE} (T : TabF X.K X.w A kvs) (hg : Gl X x) (hm : X.mg x = some (.ref A)) (ha : PE X a ty) (hb : PE X b tx) (m : M2 X (.Name x p) "get" apos a b cpos) (hdb : (x == ("__debug__" : Str)) = false) : PE X (.Call (.Attribute (.Name x p) "get" apos) [a, b] [] cpos) (tTGet X.K X.w A kvs ty tx) := by
  refine ⟨fun pins s σ H Q I h => ?_⟩
  obtain ⟨es, n, kd⟩ := T.kd
  have pl : ∀ {s : Shared} (J : Inv X pins σ H s), True := fun _ => trivial
  refine wpAny_Call_method m.base m.few m.line PySem.F.plainAttrs_dict PySem.F.slot_dict_get PySem.F.type_dict_get (ld_glob I hg hm ?_ hdb)
  refine ⟨kd_type kd I, fun b e => ?_, ?_⟩
  · cases e
    exact ⟨_, I.kIn _ _ kd.at_, rfl⟩
  · rw [m.trees]
    refine Calls.callWith_builtin rfl (Calls.evalArgs_plain (Calls.spliced_cons (thn (ha.run pins s σ H _ I h) fun iv s1 ⟨y, H1, I1, ry, q1⟩ =>
      Calls.spliced_cons (thn (hb.run pins s1 σ H1 _ I1 q1) fun fv s2 ⟨z, H2, I2, rz, zz, ey, q2⟩ => Calls.spliced_nil ?_))))
    subst ey
    obtain ⟨t, rfl⟩ : ∃ t, iv = Value.str zz t := ry
    have hmap := PySem.W.mapOf_K (prog := X.prog) (w := X.w) I2.kIn kd.at_ kd.lit
    refine call_meetsIn PySem.F.slot_dict_get (kd_type kd I2) PySem.F.entry_dict_get (PySem.F.args_dict_get_3 _ _ _) (meets_dict_get_default (PySem.strKind X.prog X.w) A (PySem.strKind_is X.prog X.w zz t) kd.low fv) ⟨_, hmap, ?_⟩
    rcases T.get zz with ⟨h1, h2⟩ | ⟨d, u, v, h1, h2, h3, h4⟩
    · rw [PySem.W.find_K kd.at_ h2]
      rcases q2 with ⟨_, q2⟩ | ⟨d, v, h3, _⟩
      · exact ⟨z, H2, I2.tok _, rz, q2⟩
      · rw [h1] at h3; cases h3
    · rw [PySem.W.find_K kd.at_ h2]
      rcases q2 with ⟨h5, _⟩ | ⟨d', v', h5, h6, q2⟩
      · rw [h1] at h5; cases h5
      · rw [h1] at h5; cases h5
        rw [h4] at h6; cases h6
        exact ⟨v, H2, I2.tok _, h3, q2⟩
theorem pm_tget (T : TabF X.K X.w A kvs) (hg : Gl X x) (hm : X.mg x = some (.ref A)) (ha : PM .rd C ex X a f) (hb : PM .val C ex X b g) (m : M2 X (.Name x p) "get" apos a b cpos := by exact ⟨rfl, rfl, rfl, rfl⟩) (hdb : (x == ("__debug__" : Str)) = false := by decide) : PM .val C ex X (.Call (.Attribute (.Name x p) "get" apos) [a, b] [] cpos) (e2 (getTM kvs) f g) :=
  PE_imp (pe_tget T hg hm ha hb m hdb) fun σ H Q q => by
    obtain ⟨n, env, ad, I, S, q⟩ := q
    have q : AllB (f env >>= fun x => g env >>= fun y => getTM kvs x y) n (Po .val C env ad σ I H Q) (Pe C ex env ad σ I H) := q
    rw [allB_bind] at q
    refine ⟨n, env, ad, I, S, q.mono (fun n1 d q1 => ?_) (fun _ _ _ k => k)⟩
    intro v1 I1 H1 s1 i1 x1 r1
    rw [allB_bind] at q1
    refine ⟨n1, env, ad, I1, s1, q1.mono (fun n2 e q2 => ?_) (fun n' c d k => k.mono i1 x1)⟩
    intro v2 I2 H2 s2 i2 x2 r2
    have r3 := r1.later (by decide) i2 x2
    clear r1
    cases d <;> first | exact False.elim q2 | skip
    rename_i z
    obtain rfl := r3.str
    have fin := fun v d (r : Rep C.W I2 v d) (e' : (kvs.lookup z).getD e = d) => (show Po .val C env ad σ I H Q n2 d from e' ▸ q2) v I2 H2 s2 (i1.trans i2) (x1.trans x2) r
    refine ⟨z, rfl, ?_⟩
    rcases T.get z with ⟨h1, h2⟩ | ⟨d, u, v, h1, h2, h3, h4⟩
    · exact .inl ⟨h1, fin _ _ r2 (by rw [h1]; rfl)⟩
    · exact .inr ⟨d, v, h1, h4, fin _ _ (vD_rep h4) (by rw [h1]; rfl)⟩
theorem tab1 {op : D → M D} {σ : L2.St} {H : Hp} {Q : VK} (q : tM .val C ex (e1 op f) σ H Q) : tM .rd C ex f σ H fun y H1 => ∃ n env ad I d, Sim C n env ad σ I H1 ∧ RepM .rd C env ad I H1 y d ∧ AllB (op d) n (Po .val C env ad σ I H1 Q) (Pe C ex env ad σ I H1) := by
  obtain ⟨n, env, ad, I, S, q⟩ := q
  have q : AllB (f env >>= op) n (Po .val C env ad σ I H Q) (Pe C ex env ad σ I H) := q
  rw [allB_bind] at q
  refine ⟨n, env, ad, I, S, q.mono (fun n1 d q1 => ?_) (fun _ _ _ k => k)⟩
  intro v1 I1 H1 s1 i1 x1 r1
  exact ⟨n1, env, ad, I1, d, s1, r1, q1.mono (fun _ _ k => k.mono i1 x1) fun _ _ _ k => k.mono i1 x1⟩
theorem pm_tix {p2 : Pos} (T : TabF X.K X.w A kvs) (hg : Gl X x) (hm : X.mg x = some (.ref A)) (ha : PM .rd C ex X a f) (hs : PlainIx a := by intro _ _; rfl) (hdb : (x == ("__debug__" : Str)) = false := by decide) : PM .val C ex X (.Subscript (.Name x p) a p2) (e1 (ixTM kvs) f) := by
  obtain ⟨es, n0, kd⟩ := T.kd
  exact PE_imp (pe_ix ix_kdict (pe_glob hg hm (show RelV (.ref A) (.ref A) from rfl) hdb) ha hs) fun σ H Q q => by
    have q := tab1 q
    obtain ⟨n, env, ad, I, S, q⟩ := q
    refine ⟨n, env, ad, I, S, q.mono (fun n1 d q1 => ?_) (fun _ _ _ k => k)⟩
    intro v1 I1 H1 s1 i1 x1 r1
    obtain ⟨n', env', ad', I', d', S', r', q'⟩ := q1 v1 I1 H1 s1 i1 x1 r1
    cases d' <;> first | exact False.elim q' | skip
    rename_i z
    obtain rfl := r'.str
    cases hz : kvs.lookup z with
    | none => simp only [ixTM, hz] at q'; exact False.elim q'
    | some d0 =>
      simp only [ixTM, hz] at q'
      rcases T.get z with ⟨h1, h2⟩ | ⟨d1, u, v, h1, h2, h3, h4⟩
      · rw [hz] at h1; cases h1
      · rw [hz] at h1; cases h1
        exact ⟨A, z, v, rfl, rfl, ⟨es, n0, u, kd.at_, kd.lit, h2, h3⟩, (show Po .val C env' ad' σ I' H1 Q n' d0 from q') v I' H1 S' (Sub.refl _) (SameX.refl _) (vD_rep h4)⟩
theorem pt_tin (T : TabF X.K X.w A kvs) (hg : Gl X x) (hm : X.mg x = some (.ref A)) (ha : PM .rd C ex X a f) (hb : behindInMarks .In (.Name x p) = false := by rfl) (hdb : (x == ("__debug__" : Str)) = false := by decide) : PMT C ex X (.Compare a [.In] [.Name x p] pos) (eTest (e1 (inTM kvs) f)) := by
  obtain ⟨es, n, kd⟩ := T.kd
  exact PT_imp (pt_cmpR (op_in_kd kd) ha (pe_glob hg hm (show RelV (.ref A) (.ref A) from rfl) hdb) hb) fun σ H Q q => by
    obtain ⟨n, env, ad, I, S, q⟩ := q
    have q : AllB ((f env >>= inTM kvs) >>= boolM) n (PoT C env ad σ I H Q) (Pe C ex env ad σ I H) := q
    rw [allB_bind, allB_bind] at q
    refine ⟨n, env, ad, I, S, q.mono (fun n1 d q1 => ?_) (fun _ _ _ k => k)⟩
    intro v1 I1 H1 s1 i1 x1 r1
    cases d <;> first | exact False.elim q1 | skip
    rename_i z
    obtain rfl := r1.str
    rcases T.get z with ⟨h1, h2⟩ | ⟨d1, u, v, h1, h2, h3, h4⟩
    · refine ⟨z, none, rfl, rfl, h2, false, rfl, (show PoT C env ad σ I H Q n1 _ from ?_) I1 H1 s1 i1 x1⟩
      have q1 : PoT C env ad σ I H Q n1 (kvs.lookup z).isSome := q1
      rw [h1] at q1; exact q1
    · refine ⟨z, some u, rfl, rfl, h2, true, rfl, (show PoT C env ad σ I H Q n1 _ from ?_) I1 H1 s1 i1 x1⟩
      have q1 : PoT C env ad σ I H Q n1 (kvs.lookup z).isSome := q1
      rw [h1] at q1; exact q1
end
end PD

set_option Elab.async false
set_option linter.all false
set_option maxRecDepth 100000
set_option maxHeartbeats 4000000
/-! PDHold: a list that other values hold while it changes: D.src stands for it, in a world of its own. -/
namespace PD
open PySem PySem.Spec L2 PDL
/-! ### values without the opaque one; the opaque one replaced -/
mutual
def nsD : D → Bool
  | .tup xs => nsDs xs
  | .lst xs => nsDs xs
  | .dct kvs => nsDk kvs
  | .obj _ fs => nsDf fs
  | .src => false
  | _ => true
def nsDs : List D → Bool
  | [] => true
  | x :: xs => nsD x && nsDs xs
def nsDk : List (D × D) → Bool
  | [] => true
  | (_, v) :: r => nsD v && nsDk r
def nsDf : List (Str × D) → Bool
  | [] => true
  | (_, v) :: r => nsD v && nsDf r
end
mutual
def sbD (c : D) : D → D
  | .tup xs => .tup (sbDs c xs)
  | .lst xs => .lst (sbDs c xs)
  | .dct kvs => .dct (sbDk c kvs)
  | .obj k fs => .obj k (sbDf c fs)
  | .src => c
  | .non => .non
  | .bl b => .bl b
  | .int i => .int i
  | .str x => .str x
def sbDs (c : D) : List D → List D
  | [] => []
  | x :: xs => sbD c x :: sbDs c xs
def sbDk (c : D) : List (D × D) → List (D × D)
  | [] => []
  | (k, v) :: r => (k, sbD c v) :: sbDk c r
def sbDf (c : D) : List (Str × D) → List (Str × D)
  | [] => []
  | (k, v) :: r => (k, sbD c v) :: sbDf c r
end
section
variable {W W' : Wd} {I J : Hp} (hK : W.K = W'.K) (hc : W.cls = W'.cls) (hX : W.isX = W'.isX)
include hK hc hX
mutual
theorem Rep.ns : ∀ {v : V} {d : D}, Rep W I v d → nsD d = true → Rep W' I v d
  | _, _, .non, _ => .non
  | _, _, .bl b, _ => .bl b
  | _, _, .int i, _ => .int i
  | _, _, .str x, _ => .str x
  | _, _, .tup q r, h => .tup (hK ▸ q) (RepL.ns r (by simpa [nsD] using h))
  | _, _, .lst q r, h => .lst q (RepL.ns r (by simpa [nsD] using h))
  | _, _, .dct q r, h => .dct q (RepK.ns r (by simpa [nsD] using h))
  | _, _, .obj x q r, h => .obj (hX ▸ x) (hc ▸ q) (RepF.ns r (by simpa [nsD] using h))
  | _, _, .exc x q y r, h => .exc (hX ▸ x) (hc ▸ q) y (RepF.ns r (by simpa [nsD] using h))
  | _, _, .src q, h => by simp [nsD] at h
theorem RepL.ns : ∀ {v : List V} {d : List D}, RepL W I v d → nsDs d = true → RepL W' I v d
  | _, _, .nil, _ => .nil
  | _, _, .cons a b, h => by
    obtain ⟨h1, h2⟩ := Bool.and_eq_true_iff.mp (by simpa only [nsDs] using h)
    exact .cons (Rep.ns a h1) (RepL.ns b h2)
theorem RepK.ns : ∀ {v : List (Key × V)} {d : List (D × D)}, RepK W I v d → nsDk d = true → RepK W' I v d
  | _, _, .nil, _ => .nil
  | _, _, .cons a b, h => by
    obtain ⟨h1, h2⟩ := Bool.and_eq_true_iff.mp (by simpa only [nsDk] using h)
    exact .cons (Rep.ns a h1) (RepK.ns b h2)
theorem RepF.ns : ∀ {v : List (Str × V)} {d : List (Str × D)}, RepF W I v d → nsDf d = true → RepF W' I v d
  | _, _, .nil, _ => .nil
  | _, _, .cons a b, h => by
    obtain ⟨h1, h2⟩ := Bool.and_eq_true_iff.mp (by simpa only [nsDf] using h)
    exact .cons (Rep.ns a h1) (RepF.ns b h2)
end
variable {a : Addr} {c : D} (hS : W.S = some (a, a)) (s : Sub I J) (hr : Rep W' J (.ref a) c)
include hS s hr
mutual
theorem Rep.sb : ∀ {v : V} {d : D}, Rep W I v d → Rep W' J v (sbD c d)
  | _, _, .non => .non
  | _, _, .bl b => .bl b
  | _, _, .int i => .int i
  | _, _, .str x => .str x
  | _, _, .tup q r => by unfold sbD; exact .tup (hK ▸ s.sqT q) (RepL.sb r)
  | _, _, .lst q r => by unfold sbD; exact .lst (s _ _ q) (RepL.sb r)
  | _, _, .dct q r => by unfold sbD; exact .dct (s _ _ q) (RepK.sb r)
  | _, _, .obj x q r => by unfold sbD; exact .obj (hX ▸ x) (hc ▸ s _ _ q) (RepF.sb r)
  | _, _, .exc x q y r => by unfold sbD; exact .exc (hX ▸ x) (hc ▸ s _ _ q) (y.elim .inl fun ⟨dd, e, z⟩ => .inr ⟨dd, e, s _ _ z⟩) (RepF.sb r)
  | _, _, .src q => by
    unfold sbD
    rw [hS] at q
    cases q
    exact hr
theorem RepL.sb : ∀ {v : List V} {d : List D}, RepL W I v d → RepL W' J v (sbDs c d)
  | _, _, .nil => .nil
  | _, _, .cons a b => by unfold sbDs; exact .cons (Rep.sb a) (RepL.sb b)
theorem RepK.sb : ∀ {v : List (Key × V)} {d : List (D × D)}, RepK W I v d → RepK W' J v (sbDk c d)
  | _, _, .nil => .nil
  | _, _, .cons a b => by unfold sbDk; exact .cons (Rep.sb a) (RepK.sb b)
theorem RepF.sb : ∀ {v : List (Str × V)} {d : List (Str × D)}, RepF W I v d → RepF W' J v (sbDf c d)
  | _, _, .nil => .nil
  | _, _, .cons a b => by unfold sbDf; exact .cons (Rep.sb a) (RepF.sb b)
end
end
/-! ### slots -/
def plS : Slot → Bool
  | .no => true
  | .v _ => true
  | _ => false
def nsS : Slot → Bool
  | .v d => nsD d
  | _ => true
def sbS (c : D) : Slot → Slot
  | .v d => .v (sbD c d)
  | s => s
def Plain (e : Env) : Bool := e.all plS
theorem plain_get {e : Env} (h : Plain e = true) {i : Nat} {s : Slot} (hi : e[i]? = some s) : plS s = true := List.all_eq_true.mp h s (List.mem_of_getElem? hi)
/-! ### the state while the list is held -/
abbrev Wof := Option (Addr × Addr) → Wd
/-- worlds alike but for the source -/
def Alike (Wf : Wof) : Prop := ∀ S S', (Wf S).S = S ∧ (Wf S).K = (Wf S').K ∧ (Wf S).cls = (Wf S').cls ∧ (Wf S).isX = (Wf S').isX
abbrev Wat (Wf : Wof) (a : Addr) : Wd := Wf (some (a, a))
structure HS (Wf : Wof) (a : Addr) (B I0 : Hp) (env : Env) (ds : List D) (σ : L2.St) (I H : Hp) : Prop where
  sub : Sub I H
  i0 : Sub I0 I
  base : ∀ b o, B b = some o → H b = some o
  fresh : ∀ b o, I b = some o → I0 b = some o ∨ B b = none
  ia : I a = none
  ba : B a = none
  len : env.length = σ.length
  sv : ∀ (i : Nat) (d : D), env[i]? = some (Slot.v d) → ∃ v, σ[i]? = some (some v) ∧ Rep (Wat Wf a) I v d
  pl : Plain env = true
  hold : ∃ vs, H a = some (.lst vs) ∧ RepL (Wat Wf a) I vs ds
section
variable {Wf : Wof} {a : Addr} {B I0 : Hp} {env : Env} {ds : List D} {σ : L2.St} {I H : Hp} {n : Nat} {ad : Nat → Addr}
theorem notS_at (hW : Alike Wf) {b : Addr} : NotS (Wat Wf a).S b := fun a' c' e ne => by
  rw [(hW (some (a, a)) none).1] at e
  cases e
  exact absurd rfl ne
theorem HS.sim (hW : Alike Wf) (S : HS Wf a B I0 env ds σ I H) {B1 J1 : Hp} (h1 : Sub J1 I) (h2 : ∀ b o, B1 b = some o → H b = some o) (h3 : ∀ b o, I b = some o → J1 b = some o ∨ B1 b = none) : Sim ⟨Wat Wf a, B1, J1⟩ 0 env ad0 σ I H := by
  refine ⟨S.sub, h1, fun b o _ e => h2 b o e, h3, fun b o _ => notS_at hW, ?_, S.len, S.sv, fun i d e => ?_, fun i d e => ?_, fun i j d d' e _ _ => ?_⟩
  · show SrcOk (Wat Wf a).S 0 H
    rw [(hW (some (a, a)) none).1]
    exact .inl ⟨rfl, rfl⟩
  all_goals exact absurd (plain_get S.pl e) (by simp [plS])
theorem HS.simB (hW : Alike Wf) (S : HS Wf a B I0 env ds σ I H) : Sim ⟨Wat Wf a, B, I0⟩ 0 env ad0 σ I H := S.sim hW S.i0 S.base S.fresh
theorem HS.simH (hW : Alike Wf) (S : HS Wf a B I0 env ds σ I H) : Sim ⟨Wat Wf a, H, I⟩ 0 env ad0 σ I H := S.sim hW (Sub.refl _) (fun _ _ e => e) fun _ _ e => .inl e
theorem sim_n0 (hW : Alike Wf) {B1 J1 : Hp} (S : Sim ⟨Wat Wf a, B1, J1⟩ n env ad σ I H) : n = 0 := by
  have := S.src
  rw [show (⟨Wat Wf a, B1, J1⟩ : Ctx).W.S = some (a, a) from (hW (some (a, a)) none).1] at this
  rcases this with h | ⟨h, _⟩
  · exact h.2
  · exact absurd rfl h
/-- back from a state that began at this heap -/
theorem HS.back (hW : Alike Wf) (S : HS Wf a B I0 env ds σ I H) {env' : Env} {σ' : L2.St} {I' H' : Hp} {B1 J1 : Hp} (S' : Sim ⟨Wat Wf a, B1, J1⟩ n env' ad σ' I' H') (i : Sub I I') (x : ∀ b o, H b = some o → H' b = some o) (fr : ∀ b o, I' b = some o → I b = some o ∨ H b = none) (hp : Plain env' = true) : HS Wf a B I0 env' ds σ' I' H' := by
  obtain ⟨vs, h1, h2⟩ := S.hold
  refine ⟨S'.sub, S.i0.trans i, fun b o e => x b o (S.base b o e), fun b o e => ?_, ?_, S.ba, S'.len, S'.sv, hp, vs, x _ _ h1, h2.mono i⟩
  · rcases fr b o e with h | h
    · exact S.fresh b o h
    · right
      cases hb : B b with
      | none => rfl
      | some u => rw [S.base b u hb] at h; cases h
  · cases e : I' a with
    | none => rfl
    | some u =>
      rcases fr a u e with h | h
      · rw [S.ia] at h; cases h
      · rw [h1] at h; cases h
end
/-! ### the judgement -/
theorem allB_zero {α : Type} {m : M α} {P : Nat → α → Prop} {E : Nat → Nat → D → Prop} (h : AllB m 0 (fun n a => n = 0 → P 0 a) E) : AllB m 0 P E := by
  cases m with
  | ret a => exact h rfl
  | bad => exact h
  | raise c d => exact h
  | draw l f => obtain ⟨_, _, n', e, _⟩ := h; cases e
def scal : D → Bool
  | .non => true
  | .bl _ => true
  | .int _ => true
  | .str _ => true
  | _ => false
abbrev HR := Fl × Env × List D
def PoH (Wf : Wof) (a : Addr) (B I0 : Hp) (Dn : Ends) (I : Hp) : HR → Prop
  | (.nx, env', ds') => ∀ σ' I' H', HS Wf a B I0 env' ds' σ' I' H' → Sub I I' → Dn.nx σ' H'
  | (.rt d, env', ds') => ∀ σ' I' H' v, HS Wf a B I0 env' ds' σ' I' H' → Sub I I' → Rep (Wf none) I' v d → Dn.rt v H'
  | _ => False
def tH (Wf : Wof) (a : Addr) (B I0 : Hp) (s : Env → List D → M HR) : TS := fun Dn σ H => ∃ env ds I, HS Wf a B I0 env ds σ I H ∧ AllB (s env ds) 0 (fun _ => PoH Wf a B I0 Dn I) noE
abbrev PH (Wf : Wof) (X : Cx) (st : Stmt) (s : Env → List D → M HR) : Prop := ∀ a B I0, PS X st (tH Wf a B I0 s)
abbrev PHB (Wf : Wof) (X : Cx) (st : List Stmt) (s : Env → List D → M HR) : Prop := ∀ a B I0, PSs X st (tH Wf a B I0 s)
theorem PoH.mono {Wf : Wof} {a : Addr} {B I0 : Hp} {Dn : Ends} {I I1 : Hp} {r : HR} (h : PoH Wf a B I0 Dn I r) (i : Sub I I1) : PoH Wf a B I0 Dn I1 r := by
  obtain ⟨fl, env, ds⟩ := r
  cases fl with
  | nx => exact fun σ' I' H' s j => h σ' I' H' s (i.trans j)
  | rt d => exact fun σ' I' H' v s j => h σ' I' H' v s (i.trans j)
  | _ => exact False.elim h
def hSkip : Env → List D → M HR := fun e ds => .ret (.nx, e, ds)
def hSeq (s u : Env → List D → M HR) : Env → List D → M HR := fun e ds => s e ds >>= fun r => match r with
  | (.nx, e', ds') => u e' ds'
  | r => .ret r
/-- an ordinary statement -/
def hStm (s : Env → M (Fl × Env)) : Env → List D → M HR := fun e ds => s e >>= fun r => match r with
  | (.nx, e') => if Plain e' = true then .ret (.nx, e', ds) else .bad
  | (.rt d, e') => if Plain e' = true ∧ scal d = true then .ret (.rt d, e', ds) else .bad
  | _ => .bad
def isSrcS : Option Slot → Bool
  | some (.v .src) => true
  | _ => false
/-- the list gets one more -/
def hApp (i : Nat) (f : Env → M D) : Env → List D → M HR := fun e ds => if isSrcS e[i]? = true then noR (f (e.set i (.own (.lst ds)))) >>= fun d => if ds.length < line then .ret (.nx, e, ds ++ [d]) else .bad else .bad
/-- a test that looks into the list -/
def hIf (t : Env → M Bool) (s u : Env → List D → M HR) : Env → List D → M HR := fun e ds => if nsDs ds = true then noR (t (e.map (sbS (.lst ds)))) >>= fun b => if b = true then s e ds else u e ds else .bad
def loopH (i : Nat) (tg : D → Env → Option Env) (s : Env → List D → M HR) : List D → Env → List D → M HR
  | [], e, ds => .ret (.nx, e, ds)
  | x :: xs, e, ds => if isSrcS e[i]? = true then match tg x e with
    | none => .bad
    | some e' => if Plain e' = true then s e' ds >>= fun r => match r with
      | (.nx, e2, ds2) => loopH i tg s xs e2 ds2
      | r => .ret r
      else .bad
    else .bad
def hFor (i : Nat) (fi : Env → M (List D)) (tg : D → Env → Option Env) (s : Env → List D → M HR) : Env → List D → M HR := fun e ds => if isSrcS e[i]? = true then noR (fi (e.set i (.own (.lst ds)))) >>= fun xs => loopH i tg s xs e ds else .bad
/-- without draws -/
def noDr {α : Type} : M α → M α
  | .draw _ _ => .bad
  | m => m
theorem allB_noDr {α : Type} {m : M α} {n : Nat} {P : Nat → α → Prop} {E : Nat → Nat → D → Prop} (h : AllB (noDr m) n P E) : AllB m 0 (fun _ a => P n a) fun _ c d => E n c d := by
  cases m with
  | ret a => exact h
  | bad => exact h
  | raise c d => exact h
  | draw l f => exact False.elim h
/-- slot i's list is held from here on, to the def's end -/
def sHold (i : Nat) (s : Env → List D → M HR) : Env → M (Fl × Env) := fun e => match e[i]? with
  | some (.own (.lst ds)) => if Plain (e.set i .no) = true ∧ e.all nsS = true ∧ nsDs ds = true then noDr (s (e.set i (.v .src)) ds) >>= fun r => match r with
    | (.rt d, e', _) => if scal d = true then .ret (.rt d, List.replicate e'.length .no) else .bad
    | _ => .bad
    else .bad
  | _ => .bad
section
variable {Wf : Wof} {X : Cx} {st : Stmt} {rest : List Stmt} {e : Expr} {f : Env → M D} {t : Env → M Bool} {s u : Env → List D → M HR} {pos : Pos}
theorem scal_rep {W W' : Wd} {I I' : Hp} {v : V} {d : D} (r : Rep W I v d) (h : scal d = true) : Rep W' I' v d := by
  cases d <;> first | (cases h; done) | skip
  · cases r; exact .non
  · cases r; exact .bl _
  · cases r; exact .int _
  · cases r; exact .str _
theorem h_nil : PHB Wf X [] hSkip := fun a B I0 => PSs_imp pss_nil fun Dn σ H ⟨env, ds, I, S, q⟩ => (show PoH Wf a B I0 Dn I (.nx, env, ds) from q) σ I H S (Sub.refl _)
theorem h_one (h : PH Wf X st s) : PHB Wf X [st] s := fun a B I0 => PSs_imp (pss_one (h a B I0)) fun _ _ _ q => q
theorem h_cons (h1 : PH Wf X st s) (h2 : PHB Wf X rest u) : PHB Wf X (st :: rest) (hSeq s u) := fun a B I0 => PSs_imp (pss_cons (h1 a B I0) (h2 a B I0)) fun Dn σ H ⟨env, ds, I, S, q⟩ => by
  have q : AllB (s env ds >>= fun r => match r with | (.nx, e', ds') => u e' ds' | r => .ret r) 0 (fun _ => PoH Wf a B I0 Dn I) noE := q
  rw [allB_bind] at q
  refine ⟨env, ds, I, S, allB_zero (q.mono (fun n1 r q1 => ?_) fun _ _ _ k => k)⟩
  rintro rfl
  obtain ⟨fl, env', ds'⟩ := r
  cases fl with
  | nx => exact fun σ' I' H' S' i => ⟨env', ds', I', S', q1.mono (fun _ _ z => z.mono i) fun _ _ _ z => z⟩
  | rt d => exact q1
  | brk => exact q1
  | cnt => exact q1
  | rtF d => exact q1
  | exc c d => exact q1
/-- an ordinary statement -/
theorem h_stm {s : Env → M (Fl × Env)} (hW : Alike Wf) (h : ∀ a B I0, PMS ⟨Wat Wf a, B, I0⟩ exNo X st s) : PH Wf X st (hStm s) := fun a B I0 => ⟨fun pins sh σ H Dn Iv q => by
  obtain ⟨env, ds, I, S, q⟩ := q
  refine (h a H I).run pins sh σ H Dn Iv ⟨0, env, ad0, I, S.simH hW, ?_⟩
  have q : AllB (s env >>= fun r => match r with | (.nx, e') => (if Plain e' = true then M.ret (Fl.nx, e', ds) else .bad) | (.rt d, e') => (if Plain e' = true ∧ scal d = true then .ret (.rt d, e', ds) else .bad) | _ => .bad) 0 (fun _ => PoH Wf a B I0 Dn I) noE := q
  rw [allB_bind] at q
  refine q.mono (fun n1 r q1 => ?_) fun _ _ _ k => k
  have bk : ∀ {env' : Env} {ad' : Nat → Addr} {σ' : L2.St} {I' H' : Hp}, Sim ⟨Wat Wf a, H, I⟩ n1 env' ad' σ' I' H' → Sub I I' → Plain env' = true → HS Wf a B I0 env' ds σ' I' H' := fun {env' ad' σ' I' H'} S' i hp => S.back hW S' i (fun b o e => S'.base b o (notS_at hW) e) S'.fresh hp
  obtain ⟨fl, env'⟩ := r
  cases fl with
  | nx =>
    obtain ⟨hp, q1⟩ := allB_ite q1
    exact fun ad' σ' I' H' S' i => (show PoH Wf a B I0 Dn I (.nx, env', ds) from q1) σ' I' H' (bk S' i hp) i
  | rt d =>
    obtain ⟨⟨hp, hd⟩, q1⟩ := allB_ite q1
    exact fun ad' σ' I' H' v S' i r => (show PoH Wf a B I0 Dn I (.rt d, env', ds) from q1) σ' I' H' v (bk S' i hp) i (scal_rep r hd)
  | brk => exact False.elim q1
  | cnt => exact False.elim q1
  | rtF d => exact False.elim q1
  | exc c d => exact False.elim q1⟩
/-- a test that looks into the list -/
theorem h_if {c : Expr} {a b : List Stmt} (hW : Alike Wf) (hc : ∀ B I0, PMT ⟨Wf none, B, I0⟩ exNo X c t) (ha : PHB Wf X a s) (hb : PHB Wf X b u) : PH Wf X (.If c a b pos) (hIf t s u) := fun a0 B I0 => ⟨fun pins sh σ H Dn Iv q => by
  obtain ⟨env, ds, I, S, q⟩ := q
  have q : AllB (if nsDs ds = true then noR (t (env.map (sbS (.lst ds)))) >>= fun b => if b = true then s env ds else u env ds else .bad) 0 (fun _ => PoH Wf a0 B I0 Dn I) noE := q
  obtain ⟨hns, q⟩ := allB_ite q
  rw [allB_bind] at q
  obtain ⟨vs, h1, h2⟩ := S.hold
  have hw := hW (some (a0, a0)) none
  have h2' : RepL (Wf none) I vs ds := RepL.ns hw.2.1 hw.2.2.1 hw.2.2.2 h2 hns
  have sI : Sub I (upd I a0 (.lst vs)) := sub_upd S.ia
  have sH : Sub (upd I a0 (.lst vs)) H := fun x o e => by
    by_cases z : x = a0
    · subst z; rw [upd_same] at e; rw [← e]; exact h1
    · rw [upd_ne z] at e; exact S.sub x o e
  have hr : Rep (Wf none) (upd I a0 (.lst vs)) (.ref a0) (.lst ds) := .lst upd_same (h2'.mono sI)
  have pl : ∀ {i : Nat} {sl : Slot}, (env.map (sbS (.lst ds)))[i]? = some sl → ∃ s0, env[i]? = some s0 ∧ sl = sbS (.lst ds) s0 ∧ plS s0 = true := fun {i sl} e => by
    rw [List.getElem?_map] at e
    obtain ⟨s0, e0, rfl⟩ := Option.map_eq_some_iff.mp e
    exact ⟨s0, e0, rfl, plain_get S.pl e0⟩
  have S2 : Sim ⟨Wf none, H, upd I a0 (.lst vs)⟩ 0 (env.map (sbS (.lst ds))) ad0 σ (upd I a0 (.lst vs)) H := by
    refine ⟨sH, Sub.refl _, SameX.refl _, fun b o e => .inl e, fun b o _ a' c' e => ?_, ?_, by rw [List.length_map]; exact S.len, fun i d e => ?_, fun i d e => ?_, fun i d e => ?_, fun i j d d' e _ _ => ?_⟩
    · rw [show (⟨Wf none, H, upd I a0 (.lst vs)⟩ : Ctx).W.S = none from (hW none none).1] at e; cases e
    · show SrcOk (Wf none).S 0 H
      rw [(hW none none).1]
      trivial
    · obtain ⟨s0, e0, e1, e2⟩ := pl e
      cases s0 with
      | no => cases e1
      | v d0 =>
        cases e1
        obtain ⟨v, w1, w2⟩ := S.sv i d0 e0
        exact ⟨v, w1, Rep.sb hw.2.1 hw.2.2.1 hw.2.2.2 hw.1 sI hr w2⟩
      | own _ => cases e2
      | bor _ => cases e2
    all_goals
      obtain ⟨s0, e0, e1, e2⟩ := pl e
      cases s0 <;> first | (cases e1; done) | (cases e2; done)
  refine wpAny_If (thn ((hc H (upd I a0 (.lst vs))).run pins sh σ H (fun b H1 => ∃ I1, HS Wf a0 B I0 env ds σ I1 H1 ∧ Sub I I1 ∧ AllB (if b = true then s env ds else u env ds) 0 (fun _ => PoH Wf a0 B I0 Dn I1) noE) Iv ⟨0, _, ad0, _, S2, allB_zero ((allB_noR (E' := fun _ _ _ => False) q).mono (fun n1 d q1 => ?_) fun _ _ _ z => z.elim)⟩) fun d s1 ⟨H1, I1, I2, S3, i3, q1⟩ => ?_)
  · rintro rfl
    intro I' H' S' i x
    refine ⟨I, ?_, Sub.refl _, q1⟩
    have hx : ∀ b o, H b = some o → H' b = some o := fun b o e => x b o (fun a' c' z => by rw [show (⟨Wf none, H, upd I a0 (.lst vs)⟩ : Ctx).W.S = none from (hW none none).1] at z; cases z) e
    exact ⟨fun b o e => hx b o (S.sub b o e), S.i0, fun b o e => hx b o (S.base b o e), S.fresh, S.ia, S.ba, S.len, S.sv, S.pl, vs, hx _ _ h1, h2⟩
  · cases d with
    | true => exact (ha a0 B I0).run pins s1 σ H1 Dn I1 ⟨env, ds, I2, S3, q1⟩
    | false => exact (hb a0 B I0).run pins s1 σ H1 Dn I1 ⟨env, ds, I2, S3, q1⟩⟩
/-- the list's slot as the frame's own -/
theorem HS.own {a : Addr} {B I0 : Hp} {env : Env} {ds : List D} {σ : L2.St} {I H : Hp} (hW : Alike Wf) (S : HS Wf a B I0 env ds σ I H) {i : Nat} (hi : isSrcS env[i]? = true) : Sim ⟨Wat Wf a, B, I0⟩ 0 (env.set i (.own (.lst ds))) (fun _ => a) σ I H ∧ σ[i]? = some (some (.ref a)) ∧ i < env.length := by
  have hs : env[i]? = some (.v .src) := by
    revert hi
    cases env[i]? with
    | none => intro h; cases h
    | some x => cases x with
      | v d => cases d <;> intro h <;> first | rfl | cases h
      | _ => intro h; cases h
  have hl : i < env.length := (List.getElem?_eq_some_iff.mp hs).1
  obtain ⟨v, h1, h2⟩ := S.sv i _ hs
  have hv : v = .ref a := by
    cases h2 with
    | src q =>
      rw [(hW (some (a, a)) none).1] at q
      cases q
      rfl
  subst hv
  have T := S.simB hW
  have key : ∀ {j : Nat} {s0 : Slot}, (env.set i (.own (.lst ds)))[j]? = some s0 → (j = i ∧ s0 = .own (.lst ds)) ∨ env[j]? = some s0 := fun {j s0} e => by
    by_cases hj : i = j
    · subst hj
      rw [List.getElem?_set_self hl] at e
      cases e
      exact .inl ⟨rfl, rfl⟩
    · rw [List.getElem?_set_ne hj] at e
      exact .inr e
  have one : ∀ {j : Nat} {d : D}, (env.set i (.own (.lst ds)))[j]? = some (.own d) → j = i ∧ d = .lst ds := fun {j d} e => by
    rcases key e with ⟨h, z⟩ | z
    · cases z; exact ⟨h, rfl⟩
    · exact absurd (plain_get S.pl z) (by simp [plS])
  refine ⟨⟨T.sub, T.i0, T.base, T.fresh, T.nos, T.src, by rw [List.length_set]; exact T.len, fun j d e => ?_, fun j d e => ?_, fun j d e => ?_, fun j k d d' e e' _ => by rw [(one e).1, (one e').1]⟩, h1, hl⟩
  · rcases key e with ⟨_, z⟩ | z
    · cases z
    · exact T.sv j d z
  · rcases key e with ⟨_, z⟩ | z
    · cases z
    · exact T.sb j d z
  · obtain ⟨rfl, rfl⟩ := one e
    exact ⟨h1, S.hold, S.ba, S.ia, notS_at hW⟩
/-- and back -/
theorem HS.ofOwn {a : Addr} {B I0 : Hp} {env : Env} {ds : List D} {σ : L2.St} {I H I' H' : Hp} {n : Nat} (hW : Alike Wf) (S : HS Wf a B I0 env ds σ I H) {i : Nat} (hl : i < env.length) (i1 : Sub I I') (S' : Sim ⟨Wat Wf a, B, I0⟩ n (env.set i (.own (.lst ds))) (fun _ => a) σ I' H') : HS Wf a B I0 env ds σ I' H' := by
  obtain ⟨_, h2, _, h4, _⟩ := S'.so i _ (List.getElem?_set_self hl)
  exact ⟨S'.sub, S'.i0, fun b o e => S'.base b o (notS_at hW) e, S'.fresh, h4, S.ba, S.len, fun j d e => by
    obtain ⟨v, w1, w2⟩ := S.sv j d e
    exact ⟨v, w1, w2.mono i1⟩, S.pl, h2⟩
/-- a loop -/
theorem h_for {i : Nat} {tg iter : Expr} {body : List Stmt} {fi : Env → M (List D)} {tgt : D → Env → Option Env} {js : List Nat} (hW : Alike Wf) (hp : PassesOwn (model X.prog X.w) X.A X.env X.xe) (hc : X.calm = true) (hi : ∀ a B I0, PMI ⟨Wat Wf a, B, I0⟩ exNo X tg iter fi) (hg : ∀ a B I0, PMG ⟨Wat Wf a, B, I0⟩ X tg tgt js) (hb : PHB Wf X body s)
    (hs : ∀ x, foldedSetIterable iter X.env x = pure x := by intro _; rfl) : PH Wf X (.For tg iter body [] pos) (hFor i fi tgt s) := fun a B I0 => PS_imp (ps_for hp hc (hi a B I0) (hg a B I0) (hb a B I0) hs) fun Dn σ H q => by
  obtain ⟨env, ds, I, S, q⟩ := q
  have q : AllB (if isSrcS env[i]? = true then noR (fi (env.set i (.own (.lst ds)))) >>= fun xs => loopH i tgt s xs env ds else .bad) 0 (fun _ => PoH Wf a B I0 Dn I) noE := q
  obtain ⟨hsrc, q⟩ := allB_ite q
  rw [allB_bind] at q
  obtain ⟨So, hσ, hl⟩ := S.own hW hsrc
  refine ⟨0, _, fun _ => a, I, So, allB_zero ((allB_noR (E' := Pe ⟨Wat Wf a, B, I0⟩ exNo (env.set i (.own (.lst ds))) (fun _ => a) σ I H) q).mono (fun n1 xs q1 => ?_) fun _ _ _ z => z)⟩
  rintro rfl
  intro J I1 H1 S1 i1 x1 ⟨G, Y, w, hG, hY⟩
  have T1 := S.ofOwn hW hl i1 S1
  refine for_it w (fun k σ H => ∃ env ds I2, HS Wf a B I0 env ds σ I2 H ∧ Sub I1 I2 ∧ AllB (loopH i tgt s (xs.drop k) env ds) 0 (fun _ => PoH Wf a B I0 Dn I2) noE) ⟨env, ds, I1, T1, Sub.refl _, q1.mono (fun _ _ z => z.mono i1) fun _ _ _ z => z⟩ (fun k σ H _ ⟨env, ds, I2, S2, i2, _⟩ => hG _ _ _ _ _ _ (S2.simB hW) i2) ?_ ?_
  · rintro k x σ2 H2 H2' hk ⟨env2, ds2, I2, S2, i2, q2⟩ y
    obtain ⟨ds0, h0⟩ : ∃ d0, xs.drop k = d0 :: xs.drop (k + 1) := ⟨_, List.drop_eq_getElem_cons hk⟩
    rw [h0] at q2
    have q2 : AllB (if isSrcS env2[i]? = true then match tgt ds0 env2 with | none => M.bad | some e' => (if Plain e' = true then s e' ds2 >>= fun r => match r with | (.nx, e2, ds2) => loopH i tgt s (xs.drop (k + 1)) e2 ds2 | r => .ret r else .bad) else .bad) 0 (fun _ => PoH Wf a B I0 Dn I2) noE := q2
    obtain ⟨hsrc2, q2⟩ := allB_ite q2
    obtain ⟨So2, _, hl2⟩ := S2.own hW hsrc2
    obtain ⟨I3, S3, i3, x3, nw3, d, hd, r⟩ := hY k H2 x H2' _ _ _ σ2 I2 hk So2 i2 y
    have T3 := S2.ofOwn hW hl2 i3 S3
    obtain rfl : ds0 = d := by
      have := List.drop_eq_getElem_cons hk
      rw [h0] at this
      rw [List.getElem?_eq_getElem hk] at hd
      cases hd
      exact (List.cons.inj this).1
    cases ht : tgt ds0 env2 with
    | none => rw [ht] at q2; exact False.elim q2
    | some env3 =>
      rw [ht] at q2
      have q2 : AllB (if Plain env3 = true then s env3 ds2 >>= fun r => match r with | (.nx, e2, ds2) => loopH i tgt s (xs.drop (k + 1)) e2 ds2 | r => .ret r else .bad) 0 (fun _ => PoH Wf a B I0 Dn I2) noE := q2
      obtain ⟨hp3, q2⟩ := allB_ite q2
      rw [allB_bind] at q2
      refine ⟨0, env2, ad0, I3, ds0, env3, T3.simB hW, r, ht, fun σ4 S4 _ => ⟨env3, ds2, I3, ?_, allB_zero (q2.mono (fun n5 rr q5 => ?_) fun _ _ _ z => z)⟩⟩
      · exact ⟨S4.sub, S4.i0, fun b o e => S4.base b o (notS_at hW) e, S4.fresh, T3.ia, T3.ba, S4.len, S4.sv, hp3, T3.hold⟩
      · rintro rfl
        obtain ⟨fl, env5, ds5⟩ := rr
        have i13 := i2.trans i3
        cases fl with
        | nx => exact fun σ' I' H' S' i' => ⟨env5, ds5, I', S', i13.trans i', q5.mono (fun _ _ z => z.mono (i3.trans i')) fun _ _ _ z => z⟩
        | rt d' => exact fun σ' I' H' v S' i' r' => (show PoH Wf a B I0 Dn I2 (.rt d', env5, ds5) from q5) σ' I' H' v S' (i3.trans i') r'
        | cnt => exact False.elim q5
        | brk => exact False.elim q5
        | rtF d' => exact False.elim q5
        | exc c d' => exact False.elim q5
  · rintro σ2 H2 ⟨env2, ds2, I2, S2, i2, q2⟩
    rw [List.drop_length] at q2
    exact (show PoH Wf a B I0 Dn I2 (.nx, env2, ds2) from q2) σ2 I2 H2 S2 (Sub.refl _)
/-- the list gets one more -/
theorem h_app {i : Nat} {x : Str} {p2 apos cpos : Pos} (hW : Alike Wf) (hN : X.N[i]? = some x) (hv : Vis X.env.scope x) (he : ∀ a B I0, PM .val ⟨Wat Wf a, B, I0⟩ exNo X e f) (hd : (x == ("__debug__" : Str)) = false := by decide) (hcd : (x == ("__classdict__" : Str)) = false := by decide)
    (hbase : attributeBase (.Name x p2) "append" X.env (eval (.Name x p2) X.env) = eval (.Name x p2) X.env := by rfl)
    (hfew : ((backTo cpos (starEach [e] X.env)).all (fun x => !x.1) && (backToKw cpos (keywordEach [] X.env)).all (fun x => x.1.isSome)
      && decide (([e] : List Expr).length + ([] : List Keyword).length + (if ([] : List Keyword).isEmpty then 0 else 1) < 30)) = true := by rfl)
    (hline : (apos.endLine == cpos.line) = true := by rfl) (hs : starEach [e] X.env = (false, eval e X.env) :: starEach [] X.env := by rfl) (hsw : swapsWith (.Call (.Attribute (.Name x p2) "append" apos) [e] [] cpos) none pos.line X.env = pure false := by rfl) :
    PH Wf X (.Expr (.Call (.Attribute (.Name x p2) "append" apos) [e] [] cpos) pos) (hApp i f) := fun a B I0 =>
  PS_imp (ps_expr (pe_bm PySem.F.plainAttrs_list PySem.F.slot_list_append PySem.F.type_list_append mt_append (pe_var hN hv hd hcd) (pa_cons (he a B I0) pa_nil hs) hbase hfew hline hs) hsw) fun Dn σ H q => by
    obtain ⟨env, ds, I, S, q⟩ := q
    have q : AllB (if isSrcS env[i]? = true then noR (f (env.set i (.own (.lst ds)))) >>= fun d => (if ds.length < line then M.ret (Fl.nx, env, ds ++ [d]) else .bad) else .bad) 0 (fun _ => PoH Wf a B I0 Dn I) noE := q
    obtain ⟨hsrc, q⟩ := allB_ite q
    rw [allB_bind] at q
    obtain ⟨So, hσ, hl⟩ := S.own hW hsrc
    obtain ⟨vs, h2, rl⟩ := S.hold
    refine ⟨_, hσ, .inl ⟨rfl, vs, SqL.of h2⟩, 0, _, fun _ => a, I, So, allB_zero ((allB_noR (E' := Pe ⟨Wat Wf a, B, I0⟩ exNo (env.set i (.own (.lst ds))) (fun _ => a) σ I H) q).mono (fun n1 d q1 => ?_) fun _ _ _ z => z)⟩
    rintro rfl
    intro v I' H' S' i' x' r
    obtain ⟨hz, q1⟩ := allB_ite q1
    have T := S.ofOwn hW hl i' S'
    obtain ⟨vs', h2', rl'⟩ := T.hold
    refine ⟨a, vs', v, rfl, rfl, h2', by rw [rl'.length, ← line_eq]; exact hz, ?_⟩
    refine (show PoH Wf a B I0 Dn I (.nx, env, ds ++ [d]) from q1) σ I' _ ⟨fun b o e => ?_, T.i0, fun b o e => ?_, T.fresh, T.ia, T.ba, T.len, T.sv, T.pl, _, upd_same, rl'.append (.cons r .nil)⟩ i'
    · rw [upd_ne (ne_of_none e T.ia)]; exact T.sub b o e
    · rw [upd_ne (ne_of_none e T.ba)]; exact T.base b o e
/-- from here on the list in slot i is held -/
theorem ms_hold {C : Ctx} {ex : Ex} {i : Nat} {stmts : List Stmt} (hC : C.W = Wf C.W.S) (hW : Alike Wf) (h : PHB Wf X stmts s) : PMB C ex X stmts (sHold i s) := ⟨fun pins sh σ H Dn Iv q => by
  obtain ⟨n, env, ad, I, S, q⟩ := q
  have q : AllB (match env[i]? with | some (.own (.lst ds)) => (if Plain (env.set i .no) = true ∧ env.all nsS = true ∧ nsDs ds = true then noDr (s (env.set i (.v .src)) ds) >>= fun r => match r with | (.rt d, e', _) => (if scal d = true then M.ret (Fl.rt d, List.replicate e'.length .no) else .bad) | _ => .bad else .bad) | _ => .bad) n (PoS C ex Dn I) noE := q
  split at q
  · rename_i ds hi
    obtain ⟨⟨hp, hn, hds⟩, q⟩ := allB_ite q
    rw [allB_bind] at q
    obtain ⟨h1, ⟨vs, h2, h3⟩, h4, h5, h6⟩ := S.so i _ hi
    have hl : i < env.length := (List.getElem?_eq_some_iff.mp hi).1
    have hw : (Wf C.W.S).K = (Wat Wf (ad i)).K ∧ (Wf C.W.S).cls = (Wat Wf (ad i)).cls ∧ (Wf C.W.S).isX = (Wat Wf (ad i)).isX := (hW C.W.S (some (ad i, ad i))).2
    have hk : C.W.K = (Wat Wf (ad i)).K ∧ C.W.cls = (Wat Wf (ad i)).cls ∧ C.W.isX = (Wat Wf (ad i)).isX := by rw [hC]; exact hw
    have hrl : RepL (Wat Wf (ad i)) I vs ds := RepL.ns hk.1 hk.2.1 hk.2.2 h3 hds
    have pl : ∀ {j : Nat} {s0 : Slot}, j ≠ i → env[j]? = some s0 → plS s0 = true := fun {j s0} hj e => plain_get hp (by rw [List.getElem?_set_ne (Ne.symm hj)]; exact e)
    have hnx : ∀ b o, H b = some o → b ≠ ad i → (less H (ad i)) b = some o := fun b o e hb => by rw [less_ne hb]; exact e
    have T : HS Wf (ad i) (less H (ad i)) I (env.set i (.v .src)) ds σ I H := by
      refine ⟨S.sub, Sub.refl _, fun b o e => ?_, fun b o e => .inl e, h5, less_same, by rw [List.length_set]; exact S.len, fun j d e => ?_, ?_, vs, h2, hrl⟩
      · by_cases z : b = ad i
        · rw [z, less_same] at e; cases e
        · rw [less_ne z] at e; exact e
      · by_cases hj : i = j
        · subst hj
          rw [List.getElem?_set_self hl] at e
          cases e
          exact ⟨_, h1, .src (hW _ none).1⟩
        · rw [List.getElem?_set_ne hj] at e
          obtain ⟨v, w1, w2⟩ := S.sv j d e
          exact ⟨v, w1, Rep.ns hk.1 hk.2.1 hk.2.2 w2 (List.all_eq_true.mp hn _ (List.mem_of_getElem? e))⟩
      · refine List.all_eq_true.mpr fun s0 hs => ?_
        obtain ⟨j, e⟩ := List.mem_iff_getElem?.mp hs
        by_cases hj : i = j
        · subst hj
          rw [List.getElem?_set_self hl] at e
          cases e
          rfl
        · rw [List.getElem?_set_ne hj] at e
          exact pl (Ne.symm hj) e
    refine (h (ad i) (less H (ad i)) I).run pins sh σ H Dn Iv ⟨_, ds, I, T, ((allB_noDr q).mono (fun n1 r q1 => ?_) fun _ _ _ z => z)⟩
    obtain ⟨fl, e', ds'⟩ := r
    cases fl with
    | rt d =>
      obtain ⟨hd, q1⟩ := allB_ite q1
      intro σ' I' H' v S' i' r'
      have hh : ∀ b o, H b = some o → b ≠ ad i → H' b = some o := fun b o e hb => S'.base b o (hnx b o e hb)
      have nos : ∀ {j : Nat} {s0 : Slot}, (List.replicate e'.length Slot.no)[j]? = some s0 → s0 = .no := fun {j s0} e => (List.mem_replicate.mp (List.mem_of_getElem? e)).2
      refine (show PoS C ex Dn I n (.rt d, List.replicate e'.length .no) from q1) ad0 σ' I H' v ⟨fun b o e => S'.sub b o (S'.i0 b o e), S.i0, fun b o hb e => ?_, S.fresh, S.nos, ?_, by rw [List.length_replicate]; exact S'.len, fun j d0 e => ?_, fun j d0 e => ?_, fun j d0 e => ?_, fun j k d0 d1 e _ _ => ?_⟩ (Sub.refl _) (scal_rep r' hd)
      · exact hh b o (S.base b o hb e) fun z => by rw [z, h4] at e; cases e
      · have hs := S.src
        cases hS : C.W.S with
        | none => trivial
        | some ac =>
          obtain ⟨a, c⟩ := ac
          rw [hS] at hs
          rcases hs with hs | ⟨ne, t, cells, g1, g2, r⟩
          · exact .inl hs
          · obtain ⟨n1, n2⟩ := h6 a c hS ne
            exact .inr ⟨ne, t, cells, hh _ _ g1 (Ne.symm n1), hh _ _ g2 (Ne.symm n2), r⟩
      all_goals cases nos e
    | nx => exact False.elim q1
    | brk => exact False.elim q1
    | cnt => exact False.elim q1
    | rtF d => exact False.elim q1
    | exc c d => exact False.elim q1
  · exact False.elim q⟩
end
end PD

set_option Elab.async false
set_option linter.all false
set_option maxRecDepth 100000
set_option maxHeartbeats 4000000
/-! PDKw: an own error object made by keyword. -/
namespace PySem
namespace HandSPX
open Builtin Builtin.ObjectAttr PySem.Spec
section
variable {M : Model} {A : Around} {E : Value → Shared → Prop} {h : Heap} {g : Array GenState} {d : Drawn} {t : Nat} {os : OsState}
variable {nm q : Str} {C N : Addr} {bs bm bmB : List Value} {hdct : Bool} {sn : List Str} {sub : List Value} {ab : Bool} {col : Option Bool} {dd : Option Addr} {k0 k1 k2 k3 k5 : Option Value} {B newId initId : String} {kn : Str} {kv : Value}

theorem check_new_ownK (F : ExcBaseFacts B newId initId bmB) (hT : ∀ X : String, bm.contains (.type X) = bmB.contains (.type X)) {Q : Unit → Shared → Prop}
    (hC : h.get? C = some (excClassObj nm q C N bs bm hdct sn sub ab col dd k0 k1 k2 k3 k5 newId)) (hq : Q () ⟨h, g, d, t, os⟩) : wpAny M A (checkBuiltinCall newId ⟨[.ref C], [(kn, kv)]⟩) Q E ⟨h, g, d, t, os⟩ := by
  have hcont : (Value.ref C :: bm).contains (.type B) = true := by rw [List.contains_cons, hT, F.hasB, Bool.or_true]
  have hstar := F.noStar
  simp only [checkBuiltinCall, F.newKind, F.newSplit, F.newRow]
  repeat (first | refine wpAny_loadPart_at hC ?_ | (refine wpAny_isSubtype_exc hC ?_; rw [hcont]) | refine wpAny_staticBase_exc hC ?_ | refine wpAny_madeBy_exc hC ?_ | simp only [bne_self_eq_false, Bool.false_eq_true, if_false] | wp_step)
  exact hq
end
section
variable {prog : Program} {w : World} {A : Around} {E : Value → Shared → Prop} {R : Result → Shared → Prop} {h : Heap} {g : Array GenState} {d : Drawn} {t : Nat} {os : OsState}
variable {nm q : Str} {C N : Addr} {bs bm bmB : List Value} {hdct : Bool} {sn : List Str} {sub : List Value} {ab : Bool} {col : Option Bool} {dd : Option Addr} {k0 k1 k2 k3 k5 : Option Value} {B newId initId : String} {kn : Str} {kv : Value}

theorem new_ownK (F : ExcBaseFacts B newId initId bmB) (hT : ∀ X : String, bm.contains (.type X) = bmB.contains (.type X))
    (hC : h.get? C = some (excClassObj nm q C N bs bm hdct sn sub ab col dd k0 k1 k2 k3 k5 newId))
    (hq : R (.ok (.ret (.ref (h.objs.size + 1)))) ⟨(h.push (W.kdv_tup [])).push (excO C h.objs.size), g, d, t, os⟩) :
    codeAny (model prog w) A (.builtin newId ⟨[.ref C], [(kn, kv)]⟩) R ⟨h, g, d, t, os⟩ := by
  have hends := F.ends
  have hcB : (Value.ref C :: bm).contains (.type B) = true := by rw [List.contains_cons, hT, F.hasB, Bool.or_true]
  have hcA : (Value.ref C :: bm).contains (.type "AttributeError") = false := by rw [List.contains_cons, hT, F.noAttr]; rfl
  have hcN : (Value.ref C :: bm).contains (.type "NameError") = false := by rw [List.contains_cons, hT, F.noName]; rfl
  have hrest : ([] : List Value).length ≤ sizeLine := Nat.zero_le _
  refine codeAny_builtinAt F.entry ?_
  unfold Builtin.«BaseException.__new__»
  refine wpAt_bind ?_
  show wpAt _ _ _ (stack >>= _) _ _ _
  refine wpAt_bind (wpAt_stack fun p below => wpAt_of_wpAny ?_)
  wp_walk
  refine wpAt_of_wpAny ?_
  rw [F.owner]
  repeat (first | with_reducible refine wpAny_madeHere_exc F.canon hC ?_ | with_reducible refine wpAny_loadPart_at hC ?_ | (with_reducible refine wpAny_isSubtype_exc hC ?_; first | rw [hcB] | rw [hcA] | rw [hcN]) | wp_step)
  show R _ _
  rw [Heap.size_push]
  exact hq
theorem type_call_ownK (F : ExcBaseFacts B newId initId bmB) (hT : ∀ X : String, bm.contains (.type X) = bmB.contains (.type X)) {fI : Addr} {Q : Fin → Shared → Prop}
    (hC : h.get? C = some (excClassObj nm q C N bs bm hdct sn sub ab col dd k0 k1 k2 k3 k5 newId))
    (hi : W.Looks (model prog w) h (typeLookup (.ref C) "__init__") (some (.ref fI))) (hb : ∀ self, W.Looks (model prog w) h (bindSpecial (.ref fI) self) (.ref fI, [self]))
    (hq : codeAny (model prog w) A (.call (.ref fI) ⟨[.ref (h.objs.size + 1)], [(kn, kv)]⟩)
      (fun r s' => match r with | .ok (.ret v) => v = .none ∧ Q (.done (.ret (.ref (h.objs.size + 1)))) s' | .ok _ => False | .error e => E e s')
      ⟨(h.push (W.kdv_tup [])).push (excO C h.objs.size), g, d, t, os⟩) :
    wpAny (model prog w) A (Builtin.«type.__call__» ⟨[.ref C], [(kn, kv)]⟩) Q E ⟨h, g, d, t, os⟩ := by
  repeat (first | with_reducible refine wpAny_loadPart_at hC ?_ | with_reducible refine wpAny_madeBy_exc hC ?_ | wp_step)
  refine codeAny_call_builtin_code (Code.quiet_builtin _ F.quiet) (check_new_ownK F hT hC ?_)
  refine new_ownK F hT hC ?_
  show wpAny _ _ _ _ _ _
  have k : ∀ b o, h.get? b = some o → ((h.push (W.kdv_tup [])).push (excO C h.objs.size)).get? b = some o := fun b o e => Heap.get?_push_of_some _ (Heap.get?_push_of_some _ e)
  have hC₁ := k _ _ hC
  have hget : ((h.push (W.kdv_tup [])).push (excO C h.objs.size)).get? (h.objs.size + 1) = some (excO C h.objs.size) := by heap_get
  have hcC : (Value.ref C :: bm).contains (.ref C) = true := by simp
  have i1 := hi.keeps k
  have b1 := (hb (.ref (h.objs.size + 1))).keeps k
  unfold isInstance
  repeat (first | with_reducible refine wpAny_loadPart_at hget ?_ | (with_reducible refine wpAny_isSubtype_exc hC₁ ?_; rw [hcC]) | wp_step)
  show wpAny _ _ (typeLookup (.ref C) _) _ _ _
  refine i1.at ?_
  refine wpAny_holding (wpAny_bind (b1.at ?_))
  refine wpAny_bind (wpAny_call (codeAny_mono hq fun r s' z => ?_))
  rcases r with e | (v | _ | _ | _) <;> first | exact z | exact z.elim | skip
  obtain ⟨rfl, z⟩ := z
  first
    | exact wpAny_pure (wpAny_pure z)
    | (wp_walk; exact z)

theorem call_ownK (F : ExcBaseFacts B newId initId bmB) (hT : ∀ X : String, bm.contains (.type X) = bmB.contains (.type X)) {fI : Addr}
    (hC : h.get? C = some (excClassObj nm q C N bs bm hdct sn sub ab col dd k0 k1 k2 k3 k5 newId))
    (hi : W.Looks (model prog w) h (typeLookup (.ref C) "__init__") (some (.ref fI))) (hb : ∀ self, W.Looks (model prog w) h (bindSpecial (.ref fI) self) (.ref fI, [self]))
    (hq : codeAny (model prog w) (A.under (.builtin "type.__call__" ⟨[.ref C], [(kn, kv)]⟩)) (.call (.ref fI) ⟨[.ref (h.objs.size + 1)], [(kn, kv)]⟩) (W.InitBack (h.objs.size + 1) R)
      ⟨(h.push (W.kdv_tup [])).push (excO C h.objs.size), g, d, t, os⟩) :
    codeAny (model prog w) A (.call (.ref C) ⟨[], [(kn, kv)]⟩) R ⟨h, g, d, t, os⟩ := by
  have f1 := tc_lookup
  have f2 := tc_bind (.ref C)
  have hTy : (⟨h, g, d, t, os⟩ : Shared).TypeIs (.ref C) "type" := ⟨_, hC, rfl⟩
  refine codeAny_of_tree ?_
  show wpAny _ _ (callAny (.ref C) _) _ _ _
  repeat (any_goals (first | assumption | with_reducible refine wpAny_loadPart_at hC ?_ | wp_step))
  refine ⟨rfl, ?_⟩
  refine codeAny_call_builtin_at (Code.quiet_builtin _ (by decide +kernel)) entry_typeCall (wpAny_check_type_call_sub hC (type_call_ownK F hT hC hi hb ?_))
  refine codeAny_mono hq fun r s' z => ?_
  rcases r with e | (v | _ | _ | _) <;> exact z
end
end HandSPX
end PySem
namespace L2
open PySem PySem.Spec PyProof.Rows
section
variable {K : PySem.W.Frag} {x qual : Str} {params : Arguments} {body : List Stmt} {scope : Scope} {kws : List (Str × V)} {f : Addr} {fd : FuncData} {y : Str}
theorem FunD.bindsK1 (F : FunD K x qual params body scope [] kws f fd) (y : Str)
    (h : ∀ (kV doc pm : Value) (an : Option Addr) (cdv ct : Value) (u v : Value), bindArgs (PySem.W.fnOf x qual params body scope .none kV doc pm an cdv ct) ⟨[u], [(y, v)]⟩ = pure [(("self" : Str), u), (y, v)]) :
    KBn K fd ["self", y] 1 [y] (fun us ws => us ++ ws) (fun vs zs => vs ++ zs) := by
  obtain ⟨oc, od, dV, kV, doc, pm, an, cdv, ct, osl, rfl, lk, hcd, hD, hK⟩ := F.ex
  rcases hD with ⟨_, rfl⟩ | ⟨e, _⟩
  · refine ⟨fun s us ws X l1 l2 => ?_, fun r1 r2 => r1.append r2⟩
    match us, ws, l1, l2 with
    | [u], [v], _, _ => exact .of_eq (h kV doc pm an cdv ct u v)
  · exact absurd rfl e
variable {X : Cx} {CX : CXT} {k : Nat} {C fI : Addr} {ps : List Str} {sp : Sp} {p pos : Pos} {tk : TA} {kn : Str} {ks : List Keyword}
/-- X(k = e), X an own exception class with its own __init__ -/
theorem pmk_oexK (T : OexC X.K C) (iC : PySem.W.findIn X.K (.ref C) "__init__" = some (some (.ref fI))) (tI : PySem.W.typeIn X.K (.ref fI) = some (.type "function"))
    (F1 : FnOk X.prog X.w X.K X.mg X.base CX k fI fd ps sp) (hr : Room (k + 1) X.A) (hb : KBn X.K fd ps 1 [kn] (fun us ws => us ++ ws) (fun vs zs => vs ++ zs)) (hx : Passes CX X (fun _ _ _ => False)) (hg : Gl X x) (hm : X.mg x = some (.ref C)) (ha : PK X ks tk) (h1 : ∀ σ H Q, tk σ H Q → tk σ H fun vs H1 => vs.length = 1 ∧ Q vs H1)
    (hall : (backToKw pos (keywordEach ks X.env)).all (·.1.isSome) = true := by rfl) (hks : (backToKw pos (keywordEach ks X.env)).filterMap (·.1) = [kn] := by rfl)
    (hpl : ((backTo pos (starEach [] X.env)).any (·.1) || (backToKw pos (keywordEach ks X.env)).any (·.1.isNone)) = false := by rfl)
    (hdb : (x == ("__debug__" : Str)) = false := by decide) :
    PMk X (.Call (.Name x p) [] ks pos) (tMkO C sp [] tk) := by
  intro pins s σ H Q I h
  obtain ⟨nm, q, N, bs, bm, sn, sub, ab, col, dd, k0, k1, k2, k3, k5, hC, hbm⟩ := T.cls
  refine wpAny_Call_Name_kw (ld_glob I hg hm ?_ hdb)
  refine PySem.W.callWith_KW0 (h₀ := X.base) I.ok.mod.kin T.kC hall (thn (ha.run pos pins s σ H _ I (h1 _ _ _ h)) fun us s1 ⟨vs, H1, I1, r1, l1, hz, q1⟩ => ⟨I1.kIn, ?_⟩) hpl
  rw [hks]
  obtain ⟨u, rfl⟩ : ∃ u, us = [u] := by
    have := Paired.length r1
    match us, this with
    | [], e => rw [l1] at e; cases e
    | [u], _ => exact ⟨u, rfl⟩
    | _ :: _ :: _, e => rw [l1] at e; simp at e
  show wpAny _ _ (call (.ref C) [] [(kn, u)]) _ _ _
  obtain ⟨hp, g, dr, tk, os⟩ := s1
  have hsz : hp.objs.size ≤ hp.objs.size + 1 := Nat.le_succ _
  have hn : H1 (hp.objs.size + 1) = none := I1.hok.fresh hsz
  have hq := q1 (hp.objs.size + 1) hn
  rw [List.append_nil] at hq
  have kk : ∀ b o, hp.get? b = some o → ((hp.push (PySem.W.kdv_tup [])).push (PySem.HandSPX.excO C hp.objs.size)).get? b = some o := fun b o e => Heap.get?_push_of_some _ (Heap.get?_push_of_some _ e)
  have hget : ((hp.push (PySem.W.kdv_tup [])).push (PySem.HandSPX.excO C hp.objs.size)).get? (hp.objs.size + 1) = some (PySem.HandSPX.excO C hp.objs.size) := by heap_get
  have I2 : Inv X pins σ (upd H1 (hp.objs.size + 1) (exo (hp.objs.size + 1) C none)) ⟨(hp.push (PySem.W.kdv_tup [])).push (PySem.HandSPX.excO C hp.objs.size), g, dr, tk, os⟩ :=
    I1.laid (t' := tk) (a := hp.objs.size + 1) (o := exo (hp.objs.size + 1) C none) (h' := (hp.push (PySem.W.kdv_tup [])).push (PySem.HandSPX.excO C hp.objs.size)) kk hsz (exo_ok hget)
  have r2 : Vals ([V.ref (hp.objs.size + 1)] ++ vs) ([Value.ref (hp.objs.size + 1)] ++ [u]) := hb.rel (.cons rfl .nil) r1
  refine wpAny_call (PySem.HandSPX.call_ownK F.excBase_ValueError (fun Y => PySem.HandSPX.refsVE_contains Y bm hbm) (I1.kIn _ _ hC) (PySem.W.looks_findIn I1.kIn iC) (fun self => PySem.W.bind_fn I1.kIn self tI)
    (codeAny_mono (F1.run _ X.stack _ _ ⟨[Value.ref (hp.objs.size + 1)], [kn].zip [u]⟩ ([Value.ref (hp.objs.size + 1)] ++ [u]) _ _ (fun _ _ _ => False) (hr.make C [] [(kn, u)]) (I2.env0.make C [] [(kn, u)]) (hb.to _ [Value.ref (hp.objs.size + 1)] [u] I2.kIn rfl rfl) r2 hq) fun r s' hq' => ?_))
  cases r with
  | error er => exact hx pins σ _ _ er s' I2 hq'
  | ok fl =>
    cases fl with
    | ret u =>
      obtain ⟨v, H2, os2, bare2, un2, hok2, rv, ev, d, fs, ea, ed, hd1, q2⟩ := hq'
      subst ev
      obtain ⟨h2, g2, d2, t2, os'⟩ := s'
      exact ⟨rv, mk_end (raises_own T.exC T.tyC) I1 hsz kk un2 hok2 os2 bare2 ea ed hd1 q2⟩
    | next => exact False.elim hq'
    | brk => exact False.elim hq'
    | cont => exact False.elim hq'
end
end L2
namespace PDL
open PySem PySem.Spec L2
/-- an error class with a field, made by keyword -/
structure ExKOk (P : Program) (w : World) (K : PySem.W.Frag) (mg : Str → Option Value) (base : Heap) (x : Str) (k : Nat) (C : Addr) (fl y : Str) : Prop where
  ex : ∃ f fd, OexC K C ∧ PySem.W.findIn K (.ref C) "__init__" = some (some (.ref f)) ∧ PySem.W.typeIn K (.ref f) = some (.type "function") ∧ FnOk P w K mg base (L2.CX P w) k f fd ["self", y] (SpX K C fl) ∧ mg x = some (.ref C) ∧ KBn K fd ["self", y] 1 [y] (fun us ws => us ++ ws) (fun vs zs => vs ++ zs)
end PDL
namespace PD
open PySem PySem.Spec PyProof.Rows L2 PDL
section
variable {C : Ctx} {ex : Ex} {X : Cx} {e : Expr} {f : Env → M D} {pos : Pos} {m : Md}
theorem pm_mk1K {c k : Nat} {x y : Str} {p kp : Pos} (D0 : ExKOk X.prog X.w X.K X.mg X.base x k (C.W.cls c) (C.W.fld c) y) (hX : C.W.isX c = true) (hr : Room (k + 1) X.A) (hg : Gl X x) (ha : PM .val C ex X e f) (hx : Passes (L2.CX X.prog X.w) X (fun _ _ _ => False))
    (hall : (backToKw pos (keywordEach [⟨some y, e, kp⟩] X.env)).all (·.1.isSome) = true := by rfl) (hks : (backToKw pos (keywordEach [⟨some y, e, kp⟩] X.env)).filterMap (·.1) = [y] := by rfl)
    (hpl : ((backTo pos (starEach [] X.env)).any (·.1) || (backToKw pos (keywordEach [⟨some y, e, kp⟩] X.env)).any (·.1.isNone)) = false := by rfl)
    (hdb : (x == ("__debug__" : Str)) = false := by decide) : PM .val C ex X (.Call (.Name x p) [] [⟨some y, e, kp⟩] pos) (eMkX c (C.W.fld c) f) := by
  obtain ⟨fI, fd, T, h1, h2, F1, h3, h4⟩ := D0.ex
  refine PE_imp (pe_mk (pmk_oexK (tk := tCons (tM .val C ex f) tNil) T h1 h2 F1 hr h4 hx hg h3 (pk_cons ha pk_nil) (fun σ H Q q => ?_) hall hks hpl hdb)) fun σ H Q ⟨n, env, ad, I, S, q⟩ => by
    refine ⟨n, env, ad, I, S, ?_⟩
    have q := allB_bind.mp q
    refine q.mono (fun n' d q1 v I' H' S' i x r => ⟨by show 1 ≤ 1000; decide, fun a ha => ?_⟩) fun _ _ _ z => z
    refine ⟨a, v, rfl, upd_same, fun dx h1 h2 => ?_⟩
    have h1' : H' dx = none := by rw [upd_ne h2] at h1; exact h1
    refine ⟨rfl, dx, [(C.W.fld c, v)], upd_same, ?_, h1', ?_⟩
    · rw [upd_ne h2, upd_same]
    · rw [del_laid ha h2]
      intro b hb
      have S2 := S'.laid (o := .xd [(C.W.fld c, v)]) h1'
      have S3 := S2.laid (o := XcO (.ref (C.W.cls c)) (some dx) b) hb
      have i1 : Sub I' (upd I' dx (.xd [(C.W.fld c, v)])) := sub_upd (S'.none_I h1')
      have i2 := i.trans i1
      have hI := S2.none_I hb
      have i3 : Sub (upd I' dx (.xd [(C.W.fld c, v)])) (upd (upd I' dx (.xd [(C.W.fld c, v)])) b (XcO (.ref (C.W.cls c)) (some dx) b)) := sub_upd hI
      have r2 : Rep C.W I' v d := r
      have r3 : RepF C.W (upd (upd I' dx (.xd [(C.W.fld c, v)])) b (XcO (.ref (C.W.cls c)) (some dx) b)) [(C.W.fld c, v)] [(C.W.fld c, d)] := .cons ((r2.mono i1).mono i3) .nil
      have q1 : Po .val C env ad σ I H Q n' (.obj c [(C.W.fld c, d)]) := q1
      exact q1 (.ref b) _ _ S3 (i2.trans i3) ((x.trans (SameX.upd h1')).trans (SameX.upd hb)) (.exc hX upd_same (.inr ⟨dx, rfl, i3 _ _ upd_same⟩) r3)
  · obtain ⟨n, env, ad, I, S, q⟩ := q
    exact ⟨n, env, ad, I, S, q.mono (fun n' d q1 v I' H' S' i x r => ⟨rfl, q1 v I' H' S' i x r⟩) fun _ _ _ z => z⟩
end
end PD

set_option Elab.async false
set_option linter.all false
set_option maxRecDepth 100000
set_option maxHeartbeats 1000000
/-! PDRepS: a text times an int. -/
namespace PD
open PySem PySem.Spec L2 PDL
def repSM : D → D → M D
  | .str x, .int k => if 2 ≤ k ∧ k ≤ 1000 ∧ 1 ≤ x.length ∧ x.length ≤ 1000 then .ret (.str ⟨(List.replicate k.toNat x.cps).foldl (· ++ ·) #[]⟩) else .bad
  | _, _ => .bad
section
variable {C : Ctx} {ex : Ex} {X : Cx}
theorem foldl_size {α : Type} : ∀ (l : List (Array α)) (a : Array α) (n : Nat), (∀ x ∈ l, x.size = n) → (l.foldl (· ++ ·) a).size = a.size + l.length * n
  | [], a, n, _ => by simp
  | x :: l, a, n, h => by
    rw [List.foldl_cons, foldl_size l (a ++ x) n fun y hy => h y (List.mem_cons_of_mem _ hy), Array.size_append, h x List.mem_cons_self, List.length_cons, Nat.add_mul]
    omega
theorem d_repS : OpR X (binaryOp .Mult) (rP .rd .rd .val C ex repSM) := by
  intro pins s σ0 H x y v u Q Iv rx ry h
  obtain ⟨n, env, ad, σ, I, d, e, S, r1, r2, q⟩ := h
  cases d <;> cases e <;> first | exact False.elim q | skip
  rename_i x0 k
  obtain ⟨⟨h1, h2, h3, h4⟩, q⟩ := allB_ite (show AllB (if _ then _ else .bad) _ _ _ from q)
  obtain rfl := r1.str
  obtain rfl := r2.int
  obtain ⟨t, rfl⟩ := rx
  obtain ⟨t2, rfl⟩ := ry
  have hm : x0.length * k.toNat ≤ 1000 * 1000 := Nat.mul_le_mul h4 (by omega)
  have hn1 : ¬ k < 1 := by omega
  have hne : ¬ (k == 1 || x0.length == 0) = true := by
    rw [Bool.or_eq_true, beq_iff_eq, beq_iff_eq]
    omega
  refine PySem.P.mul_str ?_ (fun _ _ => ?_) (fun _ _ => ?_) ?_
  · rw [decide_eq_false (by omega), decide_eq_false (by omega)]; rfl
  · have : (1000 : Int) ≤ (2 ^ 63 - 1) / k := Int.le_ediv_of_mul_le (by omega) (by omega)
    omega
  · exact decide_eq_false (by rw [sizeLine_eq]; omega)
  · rw [if_neg hn1, if_neg hne]
    refine ⟨?_, ⟨.str _, H, Iv.tok _, ⟨_, rfl⟩, q _ I H S (Sub.refl _) (SameX.refl _) (Rep.str _)⟩⟩
    show ((List.replicate k.toNat x0.cps).foldl (· ++ ·) #[]).size ≤ _
    rw [foldl_size _ _ x0.length fun y hy => by rw [(List.mem_replicate.mp hy).2]; rfl, List.length_replicate, sizeLine_eq, Nat.mul_comm]
    simp
    omega
end
end PD

set_option Elab.async false
set_option linter.all false
set_option maxRecDepth 100000
set_option maxHeartbeats 4000000
/-! PDReprB: repr of data with greater ints (up to 2^12000). -/
namespace PD
open PySem PySem.Spec L2 PDL
/-- no other limit of digits was set -/
def kDig (K : PySem.W.Frag) : Bool := match PySem.W.nsIn K cStatics "sys.int_max_str_digits" with
  | some none => true
  | _ => false
mutual
def shB : PyData → Bool
  | .none => true
  | .bool _ => true
  | .str _ => true
  | .int i => decide (i.natAbs.log2 < 12000)
  | .list xs => shBs xs
  | .tuple xs => shBs xs
  | .dict kvs => shBk kvs
def shBs : List PyData → Bool
  | [] => true
  | x :: xs => shB x && shBs xs
def shBk : List (PyData × PyData) → Bool
  | [] => true
  | (k, v) :: r => shB k && shB v && shBk r
end
theorem shBk_split : ∀ kvs : List (PyData × PyData), shBk kvs = true → shBs (kvs.map (·.1)) = true ∧ shBs (kvs.map (·.2)) = true
  | [], _ => ⟨rfl, rfl⟩
  | (k, v) :: r, h => by
    have h' : (shB k = true ∧ shB v = true) ∧ shBk r = true := by simpa [shBk] using h
    obtain ⟨h1, h2⟩ := shBk_split r h'.2
    simp only [List.map_cons, shBs, h'.1.1, h'.1.2, h1, h2, Bool.and_self, and_self]
section
variable {prog : Program} {w : World} {A : Around} {E : Value → Shared → Prop} {s : Shared} {a : Int} {t : Tok} {K : PySem.W.Frag} {h₀ : Heap}
theorem log_big (h : a.natAbs.log2 < 12000) : a.natAbs < 10 ^ 4300 := Nat.lt_of_lt_of_le (PyProof.Rows.lt_of_log2 (Nat.lt_trans h (by decide))) PyProof.Rows.pow_lo
theorem digits_K {Q : Option Nat → Shared → Prop} {M : Model} (X₀ : K.In s.heap) (hk : kDig K = true) (ha : a.natAbs.log2 < 12000) (h : Q none s) : wpAny M A (Builtin.overDigitLimit? a) Q E s := by
  unfold Builtin.overDigitLimit?
  by_cases hs : a.natAbs.log2 < 1920
  · rw [if_pos hs]
    exact wpAny_pure h
  · rw [if_neg hs]
    unfold Builtin.intMaxStrDigits
    have e : PySem.W.nsIn K cStatics "sys.int_max_str_digits" = some none := by
      unfold kDig at hk
      split at hk
      · assumption
      · cases hk
    refine wpAny_bind (wpAny_bind ((PySem.W.looks_nsIn X₀ e).here ?_))
    refine wpAny_pure ?_
    dsimp only
    rw [if_neg (by omega), if_pos (by simp; omega)]
    exact wpAny_pure h
theorem call_int_reprK {Q : Value → Shared → Prop} (X₀ : K.In s.heap) (hk : kDig K = true) (ha : a.natAbs.log2 < 12000) (h1 : Q (.str (toString a) s.toks) { s with toks := s.toks + 1 }) :
    wpAny (model prog w) A (call (.builtin "int.__repr__") [.int a t]) Q E s := by
  refine wpAny_call_entry F.slot_int_repr (typeIs_int s a t) F.entry_int_repr ?_ (F.args_int_repr_1 _)
  unfold Builtin.«int.__repr__»
  show wpAny _ _ (do let r ← Builtin.overDigitLimit? a; _) _ _ s
  refine wpAny_bind (digits_K X₀ hk ha ?_)
  exact wpAny_bind (wpAny_mkStr (wpAny_pure ⟨_, rfl, h1⟩) (int_text_fits10 (log_big ha)))
theorem repr_of_intK {Q : Value → Shared → Prop} (hu : A.units + 1 < cLine) (X₀ : K.In s.heap) (hk : kDig K = true) (ha : a.natAbs.log2 < 12000) (h1 : Q (.str (toString a) s.toks) { s with toks := s.toks + 1 }) :
    wpAny (model prog w) A (call (.builtin "repr") [.int a t]) Q E s :=
  call_repr_slot hu (typeIs_int s a t) F.slot_int_repr.toG (call_int_reprK X₀ hk ha ⟨_, _, rfl, h1⟩)
theorem reprK_int (X₀ : K.In h₀) (hk : kDig K = true) (ha : a.natAbs.log2 < 12000) (bs : List Addr) (d : Nat) : ReprK prog w bs h₀ d (.int a t) (toString a) := fun n hn A g E s Q hg hc hu hk0 h => by
  have hn' : n ≤ sizeLine := by omega
  rw [pyReprUnder_leaf (v := .int a t) hn' (fun _ e => nomatch e)]
  unfold pyRepr
  refine wpAny_bind (wpAny_pyReprObj_slot (by omega) (typeIs_int s a t) F.slot_int_repr.toG (call_int_reprK (X₀.keeps hk0) hk ha ⟨_, _, rfl, wpAny_pure (h s.heap _ fun _ _ e => e)⟩))
end
section
variable {prog : Program} {w : World} {K : PySem.W.Frag} {h₀ : Heap} (X₀ : K.In h₀) (hk : kDig K = true)
include X₀ hk
mutual
theorem reprK_reads : ∀ {v : Value} {d : PyData} {as : List Addr}, Reads h₀ v d as → shB d = true → sysModules ∉ as → d.shown.length ≤ sizeLine → ∃ bs, ReadAtMost h₀ d.depth bs ∧ ReprK prog w bs h₀ d.depth v d.shown
  | _, _, _, .none, _, _, _ => ⟨[], (fun _ h => nomatch h), by simp only [PyData.shown]; exact .of_is ReprIs.none _ _ _⟩
  | _, _, _, .bool b, _, _, _ => ⟨[], (fun _ h => nomatch h), by simp only [PyData.shown]; exact .of_is (ReprIs.bool b) _ _ _⟩
  | _, _, _, .int i t, hs, _, _ => ⟨[], (fun _ h => nomatch h), by simp only [PyData.shown]; exact reprK_int X₀ hk (by simpa [shB] using hs) _ _⟩
  | _, _, _, .str x t, _, _, hz => ⟨[], (fun _ h => nomatch h), by simp only [PyData.shown]; exact .of_is (ReprIs.str x t (by simpa only [PyData.shown] using hz)) _ _ _⟩
  | _, _, _, .list (a := a) (vs := vs) (xs := xs) h1 h2 h3 h4, hs, hsm, hz => by
    have hz' : (listText (PyData.shownAll xs)).length ≤ sizeLine := by simpa only [PyData.shown] using hz
    obtain ⟨bs, hb, hk⟩ := reprK_all h4 (by simpa [shB] using hs) (fun hm => hsm (List.mem_cons_of_mem _ hm)) (fun t ht => Nat.le_trans (listText_mem_le ht) hz')
    have r : Reads h₀ (.ref a) (.list xs) _ := .list h1 h2 h3 h4
    have hna : a ∉ bs := not_mem_of_deeper r (by simp only [PyData.depth]; omega) hb
    refine ⟨a :: bs, ReadAtMost.cons r (by simp only [PyData.depth]; omega) hb, ?_⟩
    simp only [PyData.depth, PyData.shown]
    obtain ⟨l⟩ := vs
    cases l with
    | nil =>
      have h4' : ReadsAll h₀ [] xs _ := h4
      cases h4'
      simp only [PyData.shownAll, listText_nil]
      exact ReprK.listEmpty h1 h2 h3
    | cons x l => exact ReprK.list h1 h2 h3 hna (by simpa using hk.length_eq) (fun i y e => hk.item i y (by simpa using e))
  | _, _, _, .tuple (a := a) (xs := xs) h1 h2 h3 h4, hs, hsm, hz => by
    have hz' : (tupleText (PyData.shownAll xs)).length ≤ sizeLine := by simpa only [PyData.shown] using hz
    obtain ⟨bs, hb, hk⟩ := reprK_all h4 (by simpa [shB] using hs) hsm (fun t ht => Nat.le_trans (tupleText_mem_le ht) hz')
    have r : Reads h₀ (.ref a) (.tuple xs) _ := .tuple h1 h2 h3 h4
    have hna : a ∉ bs := not_mem_of_deeper r (by simp only [PyData.depth]; omega) hb
    refine ⟨a :: bs, ReadAtMost.cons r (by simp only [PyData.depth]; omega) hb, ?_⟩
    simp only [PyData.depth, PyData.shown]
    exact ReprK.tuple h1 h2 h3 hna hk
  | _, _, _, .dict (a := a) (es := es) (kvs := kvs) (as := as₁) (bs := bs₁) h1 h2 h3 h4 h5, hs, hno, hz => by
    have hz' : (dictText (PyData.shownKv kvs)).length ≤ sizeLine := by simpa only [PyData.shown] using hz
    obtain ⟨hs1, hs2⟩ := shBk_split kvs (by simpa [shB] using hs)
    obtain ⟨b1, hb1, k1⟩ := reprK_all h4 hs1 (fun hm => hno (List.mem_cons_of_mem _ (List.mem_append_left _ hm))) (fun t ht => let ⟨p, hp, hl⟩ := PyData.shownKv_key_le kvs t ht; Nat.le_trans hl (Nat.le_trans (dictText_mem_le hp) hz'))
    obtain ⟨b2, hb2, k2⟩ := reprK_all h5 hs2 (fun hm => hno (List.mem_cons_of_mem _ (List.mem_append_right _ hm))) (fun t ht => let ⟨p, hp, hl⟩ := PyData.shownKv_val_le kvs t ht; Nat.le_trans hl (Nat.le_trans (dictText_mem_le hp) hz'))
    have r : Reads h₀ (.ref a) (.dict kvs) _ := .dict h1 h2 h3 h4 h5
    have hb : ReadAtMost h₀ (PyData.depthKv kvs) (b1 ++ b2) := (hb1.mono (PyData.depthAll_keys_le kvs)).append (hb2.mono (PyData.depthAll_vals_le kvs))
    have hna : a ∉ b1 ++ b2 := not_mem_of_deeper r (by simp only [PyData.depth]; omega) hb
    have hsys : (a == sysModules) = false := beq_eq_false_iff_ne.mpr fun e => hno (e ▸ List.mem_cons_self ..)
    refine ⟨a :: (b1 ++ b2), ReadAtMost.cons r (by simp only [PyData.depth]; omega) hb, ?_⟩
    simp only [PyData.depth, PyData.shown, PyData.shownKv_eq]
    exact ReprK.dict h1 h2 h3 hsys hna (ReprEntriesK.of_two es.toList _ _
      (k1.more_le (fun b hb => List.mem_append_left _ hb) (PyData.depthAll_keys_le kvs)) (k2.more_le (fun b hb => List.mem_append_right _ hb) (PyData.depthAll_vals_le kvs)))
theorem reprK_all : ∀ {vs : List Value} {ds : List PyData} {as : List Addr}, ReadsAll h₀ vs ds as → shBs ds = true → sysModules ∉ as → (∀ t ∈ PyData.shownAll ds, t.length ≤ sizeLine) →
    ∃ bs, ReadAtMost h₀ (PyData.depthAll ds) bs ∧ ReprAllK prog w bs h₀ (PyData.depthAll ds) vs (PyData.shownAll ds)
  | _, _, _, .nil, _, _, _ => ⟨[], (fun _ h => nomatch h), by simp only [PyData.shownAll]; exact .nil⟩
  | _, _, _, .cons (d := d) (ds := ds) r rs, hs, hsm, hz => by
    have hs' : shB d = true ∧ shBs ds = true := by simpa [shBs] using hs
    obtain ⟨b1, hb1, k1⟩ := reprK_reads r hs'.1 (fun hm => hsm (List.mem_append_left _ hm)) (hz _ (by simp only [PyData.shownAll]; exact List.mem_cons_self ..))
    obtain ⟨b2, hb2, k2⟩ := reprK_all rs hs'.2 (fun hm => hsm (List.mem_append_right _ hm)) (fun t ht => hz t (by simp only [PyData.shownAll]; exact List.mem_cons_of_mem _ ht))
    refine ⟨b1 ++ b2, ?_, ?_⟩
    · intro b hm
      simp only [PyData.depthAll]
      rcases List.mem_append.mp hm with hm | hm
      · obtain ⟨d', as', r', hd'⟩ := hb1 b hm
        exact ⟨d', as', r', Nat.le_trans hd' (Nat.le_max_left _ _)⟩
      · obtain ⟨d', as', r', hd'⟩ := hb2 b hm
        exact ⟨d', as', r', Nat.le_trans hd' (Nat.le_max_right _ _)⟩
    · simp only [PyData.depthAll, PyData.shownAll]
      exact .cons ((k1.more fun b hb => List.mem_append_left _ hb).level_le (Nat.le_max_left _ _)) (k2.more_le (fun b hb => List.mem_append_right _ hb) (Nat.le_max_right _ _))
end
theorem showsBy_reads {a : Addr} {d : PyData} {as : List Addr} (r : Reads h₀ (.ref a) d as) (hs : shB d = true) (hsm : sysModules ∉ as) (hsz : d.shown.length ≤ sizeLine) : ∃ T idr, ShowsBy prog w h₀ a d T idr := by
  cases r with
  | list h1 h2 h3 h4 =>
    rename_i o vs n xs bs₀
    have hz' : (listText (PyData.shownAll xs)).length ≤ sizeLine := by simpa only [PyData.shown] using hsz
    obtain ⟨bs, hb, hk⟩ := reprK_all (prog := prog) (w := w) X₀ hk h4 (by simpa [shB] using hs) (fun hm => hsm (List.mem_cons_of_mem _ hm)) (fun t ht => Nat.le_trans (listText_mem_le ht) hz')
    have hna : a ∉ bs := not_mem_of_deeper (.list h1 h2 h3 h4) (by simp only [PyData.depth]; omega) hb
    refine ⟨"list", "list.__repr__", F.slot_list_repr.toG, F.slot_list_str, F.slot_list_format, fun s hk0 => ⟨o, hk0 _ _ h1, h2⟩, fun A E s Q hg hu hk0 hQ => ?_⟩
    simp only [PyData.depth] at hu
    simp only [PyData.shown] at hQ
    obtain ⟨l⟩ := vs
    cases l with
    | nil =>
      have h4' : ReadsAll h₀ [] xs _ := h4
      cases h4'
      simp only [PyData.shownAll, listText_nil] at hQ
      exact call_list_repr_empty ⟨o, hk0 _ _ h1, h2⟩ (hk0 _ _ h1) h3 (hQ s.heap _ _ fun _ _ e => e)
    | cons x l =>
      exact call_list_reprK h1 h2 h3 hna (by simpa using hk.length_eq) (fun i y e => hk.item i y (by simpa using e)) hg (fun b _ => Clear.nil b) hu hk0 hQ hz'
  | tuple h1 h2 h3 h4 =>
    rename_i o vs n xs
    have hz' : (tupleText (PyData.shownAll xs)).length ≤ sizeLine := by simpa only [PyData.shown] using hsz
    obtain ⟨bs, hb, hk⟩ := reprK_all (prog := prog) (w := w) X₀ hk h4 (by simpa [shB] using hs) hsm (fun t ht => Nat.le_trans (tupleText_mem_le ht) hz')
    have hna : a ∉ bs := not_mem_of_deeper (.tuple h1 h2 h3 h4) (by simp only [PyData.depth]; omega) hb
    refine ⟨"tuple", "tuple.__repr__", F.slot_tuple_repr, F.slot_tuple_str, F.slot_tuple_format, fun s hk0 => ⟨o, hk0 _ _ h1, h2⟩, fun A E s Q hg hu hk0 hQ => ?_⟩
    simp only [PyData.depth] at hu
    simp only [PyData.shown] at hQ
    exact call_tuple_reprK h1 h2 h3 hna hk hg (fun b _ => Clear.nil b) hu hk0 hQ hz'
  | dict h1 h2 h3 h4 h5 =>
    rename_i o es n kvs as₁ bs₁
    have hz' : (dictText (PyData.shownKv kvs)).length ≤ sizeLine := by simpa only [PyData.shown] using hsz
    obtain ⟨hs1, hs2⟩ := shBk_split kvs (by simpa [shB] using hs)
    obtain ⟨b1, hb1, k1⟩ := reprK_all (prog := prog) (w := w) X₀ hk h4 hs1 (fun hm => hsm (List.mem_cons_of_mem _ (List.mem_append_left _ hm))) (fun t ht => let ⟨p, hp, hl⟩ := PyData.shownKv_key_le kvs t ht; Nat.le_trans hl (Nat.le_trans (dictText_mem_le hp) hz'))
    obtain ⟨b2, hb2, k2⟩ := reprK_all (prog := prog) (w := w) X₀ hk h5 hs2 (fun hm => hsm (List.mem_cons_of_mem _ (List.mem_append_right _ hm))) (fun t ht => let ⟨p, hp, hl⟩ := PyData.shownKv_val_le kvs t ht; Nat.le_trans hl (Nat.le_trans (dictText_mem_le hp) hz'))
    have hb : ReadAtMost h₀ (PyData.depthKv kvs) (b1 ++ b2) := (hb1.mono (PyData.depthAll_keys_le kvs)).append (hb2.mono (PyData.depthAll_vals_le kvs))
    have hna : a ∉ b1 ++ b2 := not_mem_of_deeper (.dict h1 h2 h3 h4 h5) (by simp only [PyData.depth]; omega) hb
    have hsys : (a == sysModules) = false := beq_eq_false_iff_ne.mpr fun e => hsm (e ▸ List.mem_cons_self ..)
    refine ⟨"dict", "dict.__repr__", F.slot_dict_repr, F.slot_dict_str, F.slot_dict_format, fun s hk0 => ⟨o, hk0 _ _ h1, h2⟩, fun A E s Q hg hu hk0 hQ => ?_⟩
    simp only [PyData.depth] at hu
    simp only [PyData.shown, PyData.shownKv_eq] at hQ
    exact call_dict_reprK h1 h2 h3 hsys hna (ReprEntriesK.of_two es.toList _ _
      (k1.more_le (fun b hb => List.mem_append_left _ hb) (PyData.depthAll_keys_le kvs)) (k2.more_le (fun b hb => List.mem_append_right _ hb) (PyData.depthAll_vals_le kvs))) hg (fun b _ => Clear.nil b) hu hk0 hQ (by rw [← PyData.shownKv_eq]; exact hz')
theorem repr_readsK {A : Around} {E : Value → Shared → Prop} {s : Shared} {Q : Value → Shared → Prop} {a : Addr} {d : PyData} {as : List Addr} (r : Reads h₀ (.ref a) d as) (hs : shB d = true) (hsm : sysModules ∉ as) (hg : A.guards = some []) (hu : A.units + (d.depth + 1) < cLine) (hk0 : ∀ b o, h₀.get? b = some o → s.heap.get? b = some o)
    (hQ : ∀ h' u tk, (∀ b o, s.heap.get? b = some o → h'.get? b = some o) → Q (.str d.shown u) { s with heap := h', toks := tk })
    (hsz : d.shown.length ≤ sizeLine) : wpAny (model prog w) A (call (.builtin "repr") [.ref a]) Q E s := by
  obtain ⟨T, idr, S⟩ := showsBy_reads (prog := prog) (w := w) X₀ hk r hs hsm hsz
  exact call_repr_slot (by omega) (S.typeIs s hk0) S.slotRepr (S.call A.in1 E s _ hg (by show A.units + 1 + d.depth < cLine; omega) hk0 fun h' u tk hk => ⟨_, _, rfl, hQ h' u tk hk⟩)
end
/-- repr(e), greater ints too -/
def reprBM (d : D) : M D := if okR 60 d = true ∧ shB (toPz d) = true ∧ (toPz d).shown.length ≤ line then .ret (.str (toPz d).shown) else .bad
theorem reprBM_in {d : D} {n : Nat} {P : Nat → D → Prop} {E : Nat → Nat → D → Prop} (q : AllB (reprBM d) n P E) : okR 60 d = true ∧ shB (toPz d) = true ∧ (toPz d).shown.length ≤ line ∧ P n (.str (toPz d).shown) := by
  obtain ⟨⟨h1, h2, h3⟩, q⟩ := allB_ite (show AllB (if _ then _ else .bad) _ _ _ from q)
  exact ⟨h1, h2, h3, q⟩
section
variable {C : Ctx} {ex : Ex} {X : Cx}
theorem c_reprB (hK : C.W.K = X.K) (hs : (X.K.lookup sysModules).isSome = true) (hdg : kDig X.K = true) (hgd : X.A.guards = some []) (hu : X.A.units + 62 < cLine) : CallR X (.builtin "repr") (rC [.rd] .val C ex (arg1 reprBM)) := by
  intro pins s σ0 H xs us Q Iv rx h
  obtain ⟨n, env, ad, σ, I, ds, S, ra, q⟩ := h
  obtain ⟨v, d, rfl, rfl, r⟩ := ra.one
  obtain ⟨k1, k2, k3, q⟩ := reprBM_in (show AllB (reprBM d) n _ _ from q)
  rw [line_eq] at k3
  obtain ⟨u, rfl, ru⟩ := vals1 rx
  have fin : ∀ H' , Inv X pins σ0 H H' → ∀ t, EP X pins σ0 Q (.str (toPz d).shown t) H' := fun s' J t => ⟨.str _, H, J, ⟨t, rfl⟩, (show Po .val C env ad σ I H Q n (.str (toPz d).shown) from q) _ I H S (Sub.refl _) (SameX.refl _) (Rep.str _)⟩
  have big : ∀ (a : Addr) (as : List Addr), u = .ref a → Reads s.heap u (toPz d) as → sysModules ∉ as → wpAny (model X.prog X.w) X.A (call (.builtin "repr") [u]) (EP X pins σ0 Q) X.xe s := fun a as e R nm => by
    subst e
    have hd := depth_z k1
    refine repr_readsK Iv.kIn hdg R k2 nm hgd (by omega) (fun _ _ z => z) (fun h' t tk hk => ?_) k3
    exact fin _ (Iv.kept hk) t
  rcases r with r | ⟨a, rfl, _, o⟩
  · obtain ⟨as, R, nm⟩ := Rep.reads hK hs Iv S.sub r k1 ru
    cases r with
    | non => cases ru; exact PySem.P.repr_of_none (fin _ (Iv.tok _) _)
    | bl b => cases ru; exact PySem.P.repr_of_bool (fin _ (Iv.tok _) _)
    | int i =>
      obtain ⟨t, rfl⟩ := ru
      exact repr_of_intK (by omega) Iv.kIn hdg (of_decide_eq_true (by simpa [toPz, shB] using k2)) (fin _ (Iv.tok _) _)
    | str x =>
      obtain ⟨t, rfl⟩ := ru
      exact PySem.P.repr_of_str (fin _ (Iv.tok _) _) k3
    | tup _ _ => cases ru; exact big _ as rfl R nm
    | lst _ _ => cases ru; exact big _ as rfl R nm
    | dct _ _ => cases ru; exact big _ as rfl R nm
    | obj _ _ _ => cases k1
    | exc _ _ _ _ => cases k1
    | src _ => cases k1
  · have R2 : ∃ as, Reads s.heap u (toPz d) as ∧ sysModules ∉ as := by
      cases d with
      | lst ds =>
        obtain ⟨vs, h1, h2⟩ := o
        cases ru
        obtain ⟨its, rv, ⟨o, n, ho, hc, _, hd⟩, _⟩ := Iv.list (SqL.of h1)
        obtain ⟨as, hr, hn⟩ := RepL.reads hK hs Iv S.sub h2 (show okRs 59 _ = true from k1) rv
        unfold toPz
        exact ⟨_, .list ho hc hd (by simpa using hr), by
          rw [List.mem_cons, not_or]
          exact ⟨not_sys hs Iv h1, hn⟩⟩
      | dct ds =>
        obtain ⟨kvs, h1, h2⟩ := o
        cases ru
        obtain ⟨_, lo, vs, rv, o, es, ep, ho, hx, hd, _, hp, _⟩ := dk_of Iv.hok h1
        obtain ⟨as, bs, g1, g2, g3, g4⟩ := RepK.reads hK hs Iv S.sub h2 (show okRk 59 _ = true from k1) rv hp
        unfold toPz
        refine ⟨_, .dict ho hx.1 hd g1 g2, ?_⟩
        simp only [List.cons_append, List.mem_cons, List.mem_append, not_or]
        exact ⟨fun z => by rw [z] at lo; simp at lo, g3, g4⟩
      | obj c fs => cases k1
      | _ => exact False.elim o
    obtain ⟨as, R, nm⟩ := R2
    cases ru
    exact big _ as rfl R nm
end
end PD


set_option Elab.async false
set_option linter.all false
set_option maxRecDepth 100000
set_option maxHeartbeats 4000000
namespace K05
open PySem PySem.Spec L2 PDL PD NdefX
def topS (i : Nat) : Stmt := PySem.Challenge.pw_patterncounts_k05_error_classes.main.body.getD i (.Pass ⟨0, 0, 0, 0⟩)
/-! the classes -/
def T : Cl := ⟨["CountError", "InvalidBound", "InvalidChoice", "InvalidDeed", "InvalidDeeds", "InvalidEdge", "InvalidGraph", "InvalidGrouping", "InvalidKnown", "InvalidName", "InvalidNode", "InvalidNodes", "InvalidPattern", "InvalidPins", "InvalidSize", "InvalidTerms", "InvalidText", "KnownTitle", "NotImplied", "NothingToRedo", "NothingToUndo", "TooLarge", "TooMany", "UnknownAsker", "UnknownTitle"], ["", "value", "", "number", "", "edge", "reason", "", "", "", "node", "", "reason", "", "", "", "", "title", "", "", "", "count", "count", "", "title"], [true, true, true, true, true, true, true, true, true, true, true, true, true, true, true, true, true, true, true, true, true, true, true, true, true]⟩
def T.fld : Nat → Str := fun c => T.fl.getD c Str.empty
def tb_InvalidBound : List (Nat × Bool) := [(0, false), (1, true), (2, false), (3, false), (4, false), (5, false), (6, false), (7, false), (8, false), (9, false), (10, false), (11, false), (12, false), (13, false), (14, false), (15, false), (16, false), (17, false), (18, false), (19, false), (20, false), (21, false), (22, false), (23, false), (24, false)]
def tb_InvalidDeed : List (Nat × Bool) := [(0, false), (1, false), (2, false), (3, true), (4, false), (5, false), (6, false), (7, false), (8, false), (9, false), (10, false), (11, false), (12, false), (13, false), (14, false), (15, false), (16, false), (17, false), (18, false), (19, false), (20, false), (21, false), (22, false), (23, false), (24, false)]
def tb_InvalidEdge : List (Nat × Bool) := [(0, false), (1, false), (2, false), (3, false), (4, false), (5, true), (6, false), (7, false), (8, false), (9, false), (10, false), (11, false), (12, false), (13, false), (14, false), (15, false), (16, false), (17, false), (18, false), (19, false), (20, false), (21, false), (22, false), (23, false), (24, false)]
def tb_InvalidGraph : List (Nat × Bool) := [(0, false), (1, false), (2, false), (3, false), (4, false), (5, false), (6, true), (7, false), (8, false), (9, false), (10, false), (11, false), (12, false), (13, false), (14, false), (15, false), (16, false), (17, false), (18, false), (19, false), (20, false), (21, false), (22, false), (23, false), (24, false)]
def tb_InvalidNode : List (Nat × Bool) := [(0, false), (1, false), (2, false), (3, false), (4, false), (5, false), (6, false), (7, false), (8, false), (9, false), (10, true), (11, false), (12, false), (13, false), (14, false), (15, false), (16, false), (17, false), (18, false), (19, false), (20, false), (21, false), (22, false), (23, false), (24, false)]
def tb_InvalidPattern : List (Nat × Bool) := [(0, false), (1, false), (2, false), (3, false), (4, false), (5, false), (6, false), (7, false), (8, false), (9, false), (10, false), (11, false), (12, true), (13, false), (14, false), (15, false), (16, false), (17, false), (18, false), (19, false), (20, false), (21, false), (22, false), (23, false), (24, false)]
def tb_KnownTitle : List (Nat × Bool) := [(0, false), (1, false), (2, false), (3, false), (4, false), (5, false), (6, false), (7, false), (8, false), (9, false), (10, false), (11, false), (12, false), (13, false), (14, false), (15, false), (16, false), (17, true), (18, false), (19, false), (20, false), (21, false), (22, false), (23, false), (24, false)]
def tb_TooLarge : List (Nat × Bool) := [(0, false), (1, false), (2, false), (3, false), (4, false), (5, false), (6, false), (7, false), (8, false), (9, false), (10, false), (11, false), (12, false), (13, false), (14, false), (15, false), (16, false), (17, false), (18, false), (19, false), (20, false), (21, true), (22, false), (23, false), (24, false)]
def tb_TooMany : List (Nat × Bool) := [(0, false), (1, false), (2, false), (3, false), (4, false), (5, false), (6, false), (7, false), (8, false), (9, false), (10, false), (11, false), (12, false), (13, false), (14, false), (15, false), (16, false), (17, false), (18, false), (19, false), (20, false), (21, false), (22, true), (23, false), (24, false)]
def tb_UnknownTitle : List (Nat × Bool) := [(0, false), (1, false), (2, false), (3, false), (4, false), (5, false), (6, false), (7, false), (8, false), (9, false), (10, false), (11, false), (12, false), (13, false), (14, false), (15, false), (16, false), (17, false), (18, false), (19, false), (20, false), (21, false), (22, false), (23, false), (24, true)]
def tb_InvalidChoice : List (Nat × Bool) := [(0, false), (1, false), (2, true), (3, false), (4, false), (5, false), (6, false), (7, false), (8, false), (9, false), (10, false), (11, false), (12, false), (13, false), (14, false), (15, false), (16, false), (17, false), (18, false), (19, false), (20, false), (21, false), (22, false), (23, false), (24, false)]
def tb_InvalidDeeds : List (Nat × Bool) := [(0, false), (1, false), (2, false), (3, false), (4, true), (5, false), (6, false), (7, false), (8, false), (9, false), (10, false), (11, false), (12, false), (13, false), (14, false), (15, false), (16, false), (17, false), (18, false), (19, false), (20, false), (21, false), (22, false), (23, false), (24, false)]
def tb_InvalidGrouping : List (Nat × Bool) := [(0, false), (1, false), (2, false), (3, false), (4, false), (5, false), (6, false), (7, true), (8, false), (9, false), (10, false), (11, false), (12, false), (13, false), (14, false), (15, false), (16, false), (17, false), (18, false), (19, false), (20, false), (21, false), (22, false), (23, false), (24, false)]
def tb_InvalidKnown : List (Nat × Bool) := [(0, false), (1, false), (2, false), (3, false), (4, false), (5, false), (6, false), (7, false), (8, true), (9, false), (10, false), (11, false), (12, false), (13, false), (14, false), (15, false), (16, false), (17, false), (18, false), (19, false), (20, false), (21, false), (22, false), (23, false), (24, false)]
def tb_InvalidName : List (Nat × Bool) := [(0, false), (1, false), (2, false), (3, false), (4, false), (5, false), (6, false), (7, false), (8, false), (9, true), (10, false), (11, false), (12, false), (13, false), (14, false), (15, false), (16, false), (17, false), (18, false), (19, false), (20, false), (21, false), (22, false), (23, false), (24, false)]
def tb_InvalidNodes : List (Nat × Bool) := [(0, false), (1, false), (2, false), (3, false), (4, false), (5, false), (6, false), (7, false), (8, false), (9, false), (10, false), (11, true), (12, false), (13, false), (14, false), (15, false), (16, false), (17, false), (18, false), (19, false), (20, false), (21, false), (22, false), (23, false), (24, false)]
def tb_InvalidPins : List (Nat × Bool) := [(0, false), (1, false), (2, false), (3, false), (4, false), (5, false), (6, false), (7, false), (8, false), (9, false), (10, false), (11, false), (12, false), (13, true), (14, false), (15, false), (16, false), (17, false), (18, false), (19, false), (20, false), (21, false), (22, false), (23, false), (24, false)]
def tb_InvalidSize : List (Nat × Bool) := [(0, false), (1, false), (2, false), (3, false), (4, false), (5, false), (6, false), (7, false), (8, false), (9, false), (10, false), (11, false), (12, false), (13, false), (14, true), (15, false), (16, false), (17, false), (18, false), (19, false), (20, false), (21, false), (22, false), (23, false), (24, false)]
def tb_InvalidTerms : List (Nat × Bool) := [(0, false), (1, false), (2, false), (3, false), (4, false), (5, false), (6, false), (7, false), (8, false), (9, false), (10, false), (11, false), (12, false), (13, false), (14, false), (15, true), (16, false), (17, false), (18, false), (19, false), (20, false), (21, false), (22, false), (23, false), (24, false)]
def tb_InvalidText : List (Nat × Bool) := [(0, false), (1, false), (2, false), (3, false), (4, false), (5, false), (6, false), (7, false), (8, false), (9, false), (10, false), (11, false), (12, false), (13, false), (14, false), (15, false), (16, true), (17, false), (18, false), (19, false), (20, false), (21, false), (22, false), (23, false), (24, false)]
def tb_NotImplied : List (Nat × Bool) := [(0, false), (1, false), (2, false), (3, false), (4, false), (5, false), (6, false), (7, false), (8, false), (9, false), (10, false), (11, false), (12, false), (13, false), (14, false), (15, false), (16, false), (17, false), (18, true), (19, false), (20, false), (21, false), (22, false), (23, false), (24, false)]
def tb_NothingToRedo : List (Nat × Bool) := [(0, false), (1, false), (2, false), (3, false), (4, false), (5, false), (6, false), (7, false), (8, false), (9, false), (10, false), (11, false), (12, false), (13, false), (14, false), (15, false), (16, false), (17, false), (18, false), (19, true), (20, false), (21, false), (22, false), (23, false), (24, false)]
def tb_NothingToUndo : List (Nat × Bool) := [(0, false), (1, false), (2, false), (3, false), (4, false), (5, false), (6, false), (7, false), (8, false), (9, false), (10, false), (11, false), (12, false), (13, false), (14, false), (15, false), (16, false), (17, false), (18, false), (19, false), (20, true), (21, false), (22, false), (23, false), (24, false)]
def tb_UnknownAsker : List (Nat × Bool) := [(0, false), (1, false), (2, false), (3, false), (4, false), (5, false), (6, false), (7, false), (8, false), (9, false), (10, false), (11, false), (12, false), (13, false), (14, false), (15, false), (16, false), (17, false), (18, false), (19, false), (20, false), (21, false), (22, false), (23, true), (24, false)]
def tb_ValueError : List (Nat × Bool) := [(0, true), (1, true), (2, true), (3, true), (4, true), (5, true), (6, true), (7, true), (8, true), (9, true), (10, true), (11, true), (12, true), (13, true), (14, true), (15, true), (16, true), (17, true), (18, true), (19, true), (20, true), (21, true), (22, true), (23, true), (24, true)]
def tb_CountError : List (Nat × Bool) := [(0, true), (1, true), (2, true), (3, true), (4, true), (5, true), (6, true), (7, true), (8, true), (9, true), (10, true), (11, true), (12, true), (13, true), (14, true), (15, true), (16, true), (17, true), (18, true), (19, true), (20, true), (21, true), (22, true), (23, true), (24, true)]
abbrev s__law_source : Stmt := topS 27
abbrev s__law_draw : Stmt := topS 28
abbrev s__law_pick : Stmt := topS 29
abbrev s__law_empty : Stmt := topS 32
abbrev s__law_simple : Stmt := topS 31
abbrev s__law_matches : Stmt := topS 30
abbrev s_InvalidBound_init : Stmt := inCls (topS 2) 0
abbrev s_InvalidDeed_init : Stmt := inCls (topS 4) 0
abbrev s_InvalidEdge_init : Stmt := inCls (topS 6) 0
abbrev s_InvalidGraph_init : Stmt := inCls (topS 7) 0
abbrev s_InvalidNode_init : Stmt := inCls (topS 11) 0
abbrev s_InvalidPattern_init : Stmt := inCls (topS 13) 0
abbrev s_KnownTitle_init : Stmt := inCls (topS 18) 0
abbrev s_TooLarge_init : Stmt := inCls (topS 22) 0
abbrev s_TooMany_init : Stmt := inCls (topS 23) 0
abbrev s_UnknownTitle_init : Stmt := inCls (topS 25) 0
abbrev s__law_by_position : Stmt := topS 33
abbrev s__law_by_keyword : Stmt := topS 34
abbrev s__law_fields : Stmt := topS 35
abbrev s__law_holds : Stmt := topS 38
abbrev s__law_contents : Stmt := topS 36
abbrev s__law_held_holds : Stmt := topS 37
abbrev s_law : Stmt := topS 39
def tabs : List TabP := []
def cks0 : List Ck := [kAll T,
  kSys,
  kFree "range",
  kFree "len",
  kFree "abs",
  kFree "int",
  kGlo "_law_source",
  kGlo "_law_draw",
  kGlo "_law_pick",
  kErr T.ns 2,
  kGlo "InvalidChoice",
  kErr T.ns 4,
  kGlo "InvalidDeeds",
  kErr T.ns 7,
  kGlo "InvalidGrouping",
  kErr T.ns 8,
  kGlo "InvalidKnown",
  kErr T.ns 9,
  kGlo "InvalidName",
  kErr T.ns 11,
  kGlo "InvalidNodes",
  kErr T.ns 13,
  kGlo "InvalidPins",
  kErr T.ns 14,
  kGlo "InvalidSize",
  kErr T.ns 15,
  kGlo "InvalidTerms",
  kErr T.ns 16,
  kGlo "InvalidText",
  kErr T.ns 18]
def cks1 : List Ck := [kGlo "NotImplied",
  kErr T.ns 19,
  kGlo "NothingToRedo",
  kErr T.ns 20,
  kGlo "NothingToUndo",
  kErr T.ns 23,
  kGlo "UnknownAsker",
  kGlo "_law_empty",
  kGlo "_law_simple",
  kGlo "InvalidBound",
  kIs (fun K t => PySem.W.kitOne K t (.ref (cAt T.ns K 1))) T [] tb_InvalidBound,
  kFree "isinstance",
  kGlo "InvalidDeed",
  kIs (fun K t => PySem.W.kitOne K t (.ref (cAt T.ns K 3))) T [] tb_InvalidDeed,
  kGlo "InvalidEdge",
  kIs (fun K t => PySem.W.kitOne K t (.ref (cAt T.ns K 5))) T [] tb_InvalidEdge,
  kGlo "InvalidGraph",
  kIs (fun K t => PySem.W.kitOne K t (.ref (cAt T.ns K 6))) T [] tb_InvalidGraph,
  kGlo "InvalidNode",
  kIs (fun K t => PySem.W.kitOne K t (.ref (cAt T.ns K 10))) T [] tb_InvalidNode,
  kGlo "InvalidPattern",
  kIs (fun K t => PySem.W.kitOne K t (.ref (cAt T.ns K 12))) T [] tb_InvalidPattern,
  kGlo "KnownTitle",
  kIs (fun K t => PySem.W.kitOne K t (.ref (cAt T.ns K 17))) T [] tb_KnownTitle,
  kGlo "TooLarge",
  kIs (fun K t => PySem.W.kitOne K t (.ref (cAt T.ns K 21))) T [] tb_TooLarge,
  kGlo "TooMany",
  kIs (fun K t => PySem.W.kitOne K t (.ref (cAt T.ns K 22))) T [] tb_TooMany,
  kGlo "UnknownTitle",
  kIs (fun K t => PySem.W.kitOne K t (.ref (cAt T.ns K 24))) T [] tb_UnknownTitle]
def cks2 : List Ck := [kIs (fun K t => PySem.W.kitOne K t (.ref (cAt T.ns K 2))) T [] tb_InvalidChoice,
  kIs (fun K t => PySem.W.kitOne K t (.ref (cAt T.ns K 4))) T [] tb_InvalidDeeds,
  kIs (fun K t => PySem.W.kitOne K t (.ref (cAt T.ns K 7))) T [] tb_InvalidGrouping,
  kIs (fun K t => PySem.W.kitOne K t (.ref (cAt T.ns K 8))) T [] tb_InvalidKnown,
  kIs (fun K t => PySem.W.kitOne K t (.ref (cAt T.ns K 9))) T [] tb_InvalidName,
  kIs (fun K t => PySem.W.kitOne K t (.ref (cAt T.ns K 11))) T [] tb_InvalidNodes,
  kIs (fun K t => PySem.W.kitOne K t (.ref (cAt T.ns K 13))) T [] tb_InvalidPins,
  kIs (fun K t => PySem.W.kitOne K t (.ref (cAt T.ns K 14))) T [] tb_InvalidSize,
  kIs (fun K t => PySem.W.kitOne K t (.ref (cAt T.ns K 15))) T [] tb_InvalidTerms,
  kIs (fun K t => PySem.W.kitOne K t (.ref (cAt T.ns K 16))) T [] tb_InvalidText,
  kIs (fun K t => PySem.W.kitOne K t (.ref (cAt T.ns K 18))) T [] tb_NotImplied,
  kIs (fun K t => PySem.W.kitOne K t (.ref (cAt T.ns K 19))) T [] tb_NothingToRedo,
  kIs (fun K t => PySem.W.kitOne K t (.ref (cAt T.ns K 20))) T [] tb_NothingToUndo,
  kIs (fun K t => PySem.W.kitOne K t (.ref (cAt T.ns K 23))) T [] tb_UnknownAsker,
  kFree "ValueError",
  kIs (fun K t => PySem.W.kitOne K t (.type "ValueError")) T [] tb_ValueError,
  kGlo "CountError",
  kIs (fun K t => PySem.W.kitOne K t (.ref (cAt T.ns K 0))) T [] tb_CountError,
  kGlo "_law_matches",
  kErr T.ns 0,
  kDig,
  kFree "repr",
  kOex T.ns 1 "value",
  kInit T.ns 0,
  kOex T.ns 3 "number",
  kOex T.ns 5 "edge",
  kOex T.ns 6 "reason",
  kOex T.ns 10 "node",
  kOex T.ns 12 "reason",
  kOex T.ns 17 "title"]
def cks3 : List Ck := [kOex T.ns 21 "count",
  kOex T.ns 22 "count",
  kOex T.ns 24 "title",
  kGlo "_law_by_position",
  kGlo "_law_by_keyword",
  kFldX T [1] "value",
  kFldX T [3] "number",
  kFldX T [5] "edge",
  kFldX T [6, 12] "reason",
  kFldX T [10] "node",
  kFldX T [17, 24] "title",
  kFldX T [21, 22] "count",
  kGlo "_law_fields",
  kGlo "_law_holds",
  kGlo "_law_contents",
  kGlo "_law_held_holds",
  kGlo "law"]
def cks : List Ck := cks0 ++ cks1 ++ cks2 ++ cks3
def fns : List DefP := [⟨fun K => He.ga K "_law_source", "_law_source", "_law_source", s__law_source, [], []⟩,
  ⟨fun K => He.ga K "_law_draw", "_law_draw", "_law_draw", s__law_draw, [], []⟩,
  ⟨fun K => He.ga K "_law_pick", "_law_pick", "_law_pick", s__law_pick, [], []⟩,
  ⟨fun K => He.ga K "_law_empty", "_law_empty", "_law_empty", s__law_empty, [], []⟩,
  ⟨fun K => He.ga K "_law_simple", "_law_simple", "_law_simple", s__law_simple, [], []⟩,
  ⟨fun K => He.ga K "_law_matches", "_law_matches", "_law_matches", s__law_matches, [], []⟩,
  ⟨fun K => He.ma K (cAt T.ns K 1) "__init__", "__init__", "InvalidBound.__init__", s_InvalidBound_init, [], []⟩,
  ⟨fun K => He.ma K (cAt T.ns K 3) "__init__", "__init__", "InvalidDeed.__init__", s_InvalidDeed_init, [], []⟩,
  ⟨fun K => He.ma K (cAt T.ns K 5) "__init__", "__init__", "InvalidEdge.__init__", s_InvalidEdge_init, [], []⟩,
  ⟨fun K => He.ma K (cAt T.ns K 6) "__init__", "__init__", "InvalidGraph.__init__", s_InvalidGraph_init, [], []⟩,
  ⟨fun K => He.ma K (cAt T.ns K 10) "__init__", "__init__", "InvalidNode.__init__", s_InvalidNode_init, [], []⟩,
  ⟨fun K => He.ma K (cAt T.ns K 12) "__init__", "__init__", "InvalidPattern.__init__", s_InvalidPattern_init, [], []⟩,
  ⟨fun K => He.ma K (cAt T.ns K 17) "__init__", "__init__", "KnownTitle.__init__", s_KnownTitle_init, [], []⟩,
  ⟨fun K => He.ma K (cAt T.ns K 21) "__init__", "__init__", "TooLarge.__init__", s_TooLarge_init, [], []⟩,
  ⟨fun K => He.ma K (cAt T.ns K 22) "__init__", "__init__", "TooMany.__init__", s_TooMany_init, [], []⟩,
  ⟨fun K => He.ma K (cAt T.ns K 24) "__init__", "__init__", "UnknownTitle.__init__", s_UnknownTitle_init, [], []⟩,
  ⟨fun K => He.ga K "_law_by_position", "_law_by_position", "_law_by_position", s__law_by_position, [], []⟩,
  ⟨fun K => He.ga K "_law_by_keyword", "_law_by_keyword", "_law_by_keyword", s__law_by_keyword, [], []⟩,
  ⟨fun K => He.ga K "_law_fields", "_law_fields", "_law_fields", s__law_fields, [], []⟩,
  ⟨fun K => He.ga K "_law_holds", "_law_holds", "_law_holds", s__law_holds, [], []⟩,
  ⟨fun K => He.ga K "_law_contents", "_law_contents", "_law_contents", s__law_contents, [], []⟩,
  ⟨fun K => He.ga K "_law_held_holds", "_law_held_holds", "_law_held_holds", s__law_held_holds, [], []⟩,
  ⟨fun K => He.ga K "law", "law", "law", s_law, [], []⟩]

section
variable {P : Program} {w : World} {K : PySem.W.Frag} {mg : Str → Option Value} {base : Heap} {S : Option (Addr × Addr)} {me : Option Addr}
theorem zf_range (Z : TopT P K w mg cks fns tabs) : mg ("range" : Str) = none := Z.free 2
theorem zf_len (Z : TopT P K w mg cks fns tabs) : mg ("len" : Str) = none := Z.free 3
theorem zf_abs (Z : TopT P K w mg cks fns tabs) : mg ("abs" : Str) = none := Z.free 4
theorem zf_int (Z : TopT P K w mg cks fns tabs) : mg ("int" : Str) = none := Z.free 5
theorem zg__law_source (Z : TopT P K w mg cks fns tabs) : mg ("_law_source" : Str) = some (.ref (He.ga K "_law_source")) := Z.glo 6
theorem zg__law_draw (Z : TopT P K w mg cks fns tabs) : mg ("_law_draw" : Str) = some (.ref (He.ga K "_law_draw")) := Z.glo 7
theorem zg__law_pick (Z : TopT P K w mg cks fns tabs) : mg ("_law_pick" : Str) = some (.ref (He.ga K "_law_pick")) := Z.glo 8
theorem zg_InvalidChoice (Z : TopT P K w mg cks fns tabs) : mg ("InvalidChoice" : Str) = some (.ref (He.ga K "InvalidChoice")) := Z.glo 10
theorem zg_InvalidDeeds (Z : TopT P K w mg cks fns tabs) : mg ("InvalidDeeds" : Str) = some (.ref (He.ga K "InvalidDeeds")) := Z.glo 12
theorem zg_InvalidGrouping (Z : TopT P K w mg cks fns tabs) : mg ("InvalidGrouping" : Str) = some (.ref (He.ga K "InvalidGrouping")) := Z.glo 14
theorem zg_InvalidKnown (Z : TopT P K w mg cks fns tabs) : mg ("InvalidKnown" : Str) = some (.ref (He.ga K "InvalidKnown")) := Z.glo 16
theorem zg_InvalidName (Z : TopT P K w mg cks fns tabs) : mg ("InvalidName" : Str) = some (.ref (He.ga K "InvalidName")) := Z.glo 18
theorem zg_InvalidNodes (Z : TopT P K w mg cks fns tabs) : mg ("InvalidNodes" : Str) = some (.ref (He.ga K "InvalidNodes")) := Z.glo 20
theorem zg_InvalidPins (Z : TopT P K w mg cks fns tabs) : mg ("InvalidPins" : Str) = some (.ref (He.ga K "InvalidPins")) := Z.glo 22
theorem zg_InvalidSize (Z : TopT P K w mg cks fns tabs) : mg ("InvalidSize" : Str) = some (.ref (He.ga K "InvalidSize")) := Z.glo 24
theorem zg_InvalidTerms (Z : TopT P K w mg cks fns tabs) : mg ("InvalidTerms" : Str) = some (.ref (He.ga K "InvalidTerms")) := Z.glo 26
theorem zg_InvalidText (Z : TopT P K w mg cks fns tabs) : mg ("InvalidText" : Str) = some (.ref (He.ga K "InvalidText")) := Z.glo 28
theorem zg_NotImplied (Z : TopT P K w mg cks fns tabs) : mg ("NotImplied" : Str) = some (.ref (He.ga K "NotImplied")) := Z.glo 30
theorem zg_NothingToRedo (Z : TopT P K w mg cks fns tabs) : mg ("NothingToRedo" : Str) = some (.ref (He.ga K "NothingToRedo")) := Z.glo 32
theorem zg_NothingToUndo (Z : TopT P K w mg cks fns tabs) : mg ("NothingToUndo" : Str) = some (.ref (He.ga K "NothingToUndo")) := Z.glo 34
theorem zg_UnknownAsker (Z : TopT P K w mg cks fns tabs) : mg ("UnknownAsker" : Str) = some (.ref (He.ga K "UnknownAsker")) := Z.glo 36
theorem zg__law_empty (Z : TopT P K w mg cks fns tabs) : mg ("_law_empty" : Str) = some (.ref (He.ga K "_law_empty")) := Z.glo 37
theorem zg__law_simple (Z : TopT P K w mg cks fns tabs) : mg ("_law_simple" : Str) = some (.ref (He.ga K "_law_simple")) := Z.glo 38
theorem zg_InvalidBound (Z : TopT P K w mg cks fns tabs) : mg ("InvalidBound" : Str) = some (.ref (He.ga K "InvalidBound")) := Z.glo 39
theorem zi_InvalidBound (Z : TopT P K w mg cks fns tabs) : IsF K (wdm T K S me) ((fun K t => PySem.W.kitOne K t (.ref (cAt T.ns K 1))) K) [] tb_InvalidBound := isF_ok (Z.ok 40) (Z.ok 0)
theorem zf_isinstance (Z : TopT P K w mg cks fns tabs) : mg ("isinstance" : Str) = none := Z.free 41
theorem zg_InvalidDeed (Z : TopT P K w mg cks fns tabs) : mg ("InvalidDeed" : Str) = some (.ref (He.ga K "InvalidDeed")) := Z.glo 42
theorem zi_InvalidDeed (Z : TopT P K w mg cks fns tabs) : IsF K (wdm T K S me) ((fun K t => PySem.W.kitOne K t (.ref (cAt T.ns K 3))) K) [] tb_InvalidDeed := isF_ok (Z.ok 43) (Z.ok 0)
theorem zg_InvalidEdge (Z : TopT P K w mg cks fns tabs) : mg ("InvalidEdge" : Str) = some (.ref (He.ga K "InvalidEdge")) := Z.glo 44
theorem zi_InvalidEdge (Z : TopT P K w mg cks fns tabs) : IsF K (wdm T K S me) ((fun K t => PySem.W.kitOne K t (.ref (cAt T.ns K 5))) K) [] tb_InvalidEdge := isF_ok (Z.ok 45) (Z.ok 0)
theorem zg_InvalidGraph (Z : TopT P K w mg cks fns tabs) : mg ("InvalidGraph" : Str) = some (.ref (He.ga K "InvalidGraph")) := Z.glo 46
theorem zi_InvalidGraph (Z : TopT P K w mg cks fns tabs) : IsF K (wdm T K S me) ((fun K t => PySem.W.kitOne K t (.ref (cAt T.ns K 6))) K) [] tb_InvalidGraph := isF_ok (Z.ok 47) (Z.ok 0)
theorem zg_InvalidNode (Z : TopT P K w mg cks fns tabs) : mg ("InvalidNode" : Str) = some (.ref (He.ga K "InvalidNode")) := Z.glo 48
theorem zi_InvalidNode (Z : TopT P K w mg cks fns tabs) : IsF K (wdm T K S me) ((fun K t => PySem.W.kitOne K t (.ref (cAt T.ns K 10))) K) [] tb_InvalidNode := isF_ok (Z.ok 49) (Z.ok 0)
theorem zg_InvalidPattern (Z : TopT P K w mg cks fns tabs) : mg ("InvalidPattern" : Str) = some (.ref (He.ga K "InvalidPattern")) := Z.glo 50
theorem zi_InvalidPattern (Z : TopT P K w mg cks fns tabs) : IsF K (wdm T K S me) ((fun K t => PySem.W.kitOne K t (.ref (cAt T.ns K 12))) K) [] tb_InvalidPattern := isF_ok (Z.ok 51) (Z.ok 0)
theorem zg_KnownTitle (Z : TopT P K w mg cks fns tabs) : mg ("KnownTitle" : Str) = some (.ref (He.ga K "KnownTitle")) := Z.glo 52
theorem zi_KnownTitle (Z : TopT P K w mg cks fns tabs) : IsF K (wdm T K S me) ((fun K t => PySem.W.kitOne K t (.ref (cAt T.ns K 17))) K) [] tb_KnownTitle := isF_ok (Z.ok 53) (Z.ok 0)
theorem zg_TooLarge (Z : TopT P K w mg cks fns tabs) : mg ("TooLarge" : Str) = some (.ref (He.ga K "TooLarge")) := Z.glo 54
theorem zi_TooLarge (Z : TopT P K w mg cks fns tabs) : IsF K (wdm T K S me) ((fun K t => PySem.W.kitOne K t (.ref (cAt T.ns K 21))) K) [] tb_TooLarge := isF_ok (Z.ok 55) (Z.ok 0)
theorem zg_TooMany (Z : TopT P K w mg cks fns tabs) : mg ("TooMany" : Str) = some (.ref (He.ga K "TooMany")) := Z.glo 56
theorem zi_TooMany (Z : TopT P K w mg cks fns tabs) : IsF K (wdm T K S me) ((fun K t => PySem.W.kitOne K t (.ref (cAt T.ns K 22))) K) [] tb_TooMany := isF_ok (Z.ok 57) (Z.ok 0)
theorem zg_UnknownTitle (Z : TopT P K w mg cks fns tabs) : mg ("UnknownTitle" : Str) = some (.ref (He.ga K "UnknownTitle")) := Z.glo 58
theorem zi_UnknownTitle (Z : TopT P K w mg cks fns tabs) : IsF K (wdm T K S me) ((fun K t => PySem.W.kitOne K t (.ref (cAt T.ns K 24))) K) [] tb_UnknownTitle := isF_ok (Z.ok 59) (Z.ok 0)
theorem zi_InvalidChoice (Z : TopT P K w mg cks fns tabs) : IsF K (wdm T K S me) ((fun K t => PySem.W.kitOne K t (.ref (cAt T.ns K 2))) K) [] tb_InvalidChoice := isF_ok (Z.ok 60) (Z.ok 0)
theorem zi_InvalidDeeds (Z : TopT P K w mg cks fns tabs) : IsF K (wdm T K S me) ((fun K t => PySem.W.kitOne K t (.ref (cAt T.ns K 4))) K) [] tb_InvalidDeeds := isF_ok (Z.ok 61) (Z.ok 0)
theorem zi_InvalidGrouping (Z : TopT P K w mg cks fns tabs) : IsF K (wdm T K S me) ((fun K t => PySem.W.kitOne K t (.ref (cAt T.ns K 7))) K) [] tb_InvalidGrouping := isF_ok (Z.ok 62) (Z.ok 0)
theorem zi_InvalidKnown (Z : TopT P K w mg cks fns tabs) : IsF K (wdm T K S me) ((fun K t => PySem.W.kitOne K t (.ref (cAt T.ns K 8))) K) [] tb_InvalidKnown := isF_ok (Z.ok 63) (Z.ok 0)
theorem zi_InvalidName (Z : TopT P K w mg cks fns tabs) : IsF K (wdm T K S me) ((fun K t => PySem.W.kitOne K t (.ref (cAt T.ns K 9))) K) [] tb_InvalidName := isF_ok (Z.ok 64) (Z.ok 0)
theorem zi_InvalidNodes (Z : TopT P K w mg cks fns tabs) : IsF K (wdm T K S me) ((fun K t => PySem.W.kitOne K t (.ref (cAt T.ns K 11))) K) [] tb_InvalidNodes := isF_ok (Z.ok 65) (Z.ok 0)
theorem zi_InvalidPins (Z : TopT P K w mg cks fns tabs) : IsF K (wdm T K S me) ((fun K t => PySem.W.kitOne K t (.ref (cAt T.ns K 13))) K) [] tb_InvalidPins := isF_ok (Z.ok 66) (Z.ok 0)
theorem zi_InvalidSize (Z : TopT P K w mg cks fns tabs) : IsF K (wdm T K S me) ((fun K t => PySem.W.kitOne K t (.ref (cAt T.ns K 14))) K) [] tb_InvalidSize := isF_ok (Z.ok 67) (Z.ok 0)
theorem zi_InvalidTerms (Z : TopT P K w mg cks fns tabs) : IsF K (wdm T K S me) ((fun K t => PySem.W.kitOne K t (.ref (cAt T.ns K 15))) K) [] tb_InvalidTerms := isF_ok (Z.ok 68) (Z.ok 0)
theorem zi_InvalidText (Z : TopT P K w mg cks fns tabs) : IsF K (wdm T K S me) ((fun K t => PySem.W.kitOne K t (.ref (cAt T.ns K 16))) K) [] tb_InvalidText := isF_ok (Z.ok 69) (Z.ok 0)
theorem zi_NotImplied (Z : TopT P K w mg cks fns tabs) : IsF K (wdm T K S me) ((fun K t => PySem.W.kitOne K t (.ref (cAt T.ns K 18))) K) [] tb_NotImplied := isF_ok (Z.ok 70) (Z.ok 0)
theorem zi_NothingToRedo (Z : TopT P K w mg cks fns tabs) : IsF K (wdm T K S me) ((fun K t => PySem.W.kitOne K t (.ref (cAt T.ns K 19))) K) [] tb_NothingToRedo := isF_ok (Z.ok 71) (Z.ok 0)
theorem zi_NothingToUndo (Z : TopT P K w mg cks fns tabs) : IsF K (wdm T K S me) ((fun K t => PySem.W.kitOne K t (.ref (cAt T.ns K 20))) K) [] tb_NothingToUndo := isF_ok (Z.ok 72) (Z.ok 0)
theorem zi_UnknownAsker (Z : TopT P K w mg cks fns tabs) : IsF K (wdm T K S me) ((fun K t => PySem.W.kitOne K t (.ref (cAt T.ns K 23))) K) [] tb_UnknownAsker := isF_ok (Z.ok 73) (Z.ok 0)
theorem zf_ValueError (Z : TopT P K w mg cks fns tabs) : mg ("ValueError" : Str) = none := Z.free 74
theorem zi_ValueError (Z : TopT P K w mg cks fns tabs) : IsF K (wdm T K S me) ((fun K t => PySem.W.kitOne K t (.type "ValueError")) K) [] tb_ValueError := isF_ok (Z.ok 75) (Z.ok 0)
theorem zg_CountError (Z : TopT P K w mg cks fns tabs) : mg ("CountError" : Str) = some (.ref (He.ga K "CountError")) := Z.glo 76
theorem zi_CountError (Z : TopT P K w mg cks fns tabs) : IsF K (wdm T K S me) ((fun K t => PySem.W.kitOne K t (.ref (cAt T.ns K 0))) K) [] tb_CountError := isF_ok (Z.ok 77) (Z.ok 0)
theorem zg__law_matches (Z : TopT P K w mg cks fns tabs) : mg ("_law_matches" : Str) = some (.ref (He.ga K "_law_matches")) := Z.glo 78
theorem zf_repr (Z : TopT P K w mg cks fns tabs) : mg ("repr" : Str) = none := Z.free 81
theorem zg__law_by_position (Z : TopT P K w mg cks fns tabs) : mg ("_law_by_position" : Str) = some (.ref (He.ga K "_law_by_position")) := Z.glo 93
theorem zg__law_by_keyword (Z : TopT P K w mg cks fns tabs) : mg ("_law_by_keyword" : Str) = some (.ref (He.ga K "_law_by_keyword")) := Z.glo 94
theorem zx_value_1_ (Z : TopT P K w mg cks fns tabs) : FldX K (wdm T K S me) [1] "value" := fldX_ok (Z.ok 95)
theorem zx_number_3_ (Z : TopT P K w mg cks fns tabs) : FldX K (wdm T K S me) [3] "number" := fldX_ok (Z.ok 96)
theorem zx_edge_5_ (Z : TopT P K w mg cks fns tabs) : FldX K (wdm T K S me) [5] "edge" := fldX_ok (Z.ok 97)
theorem zx_reason_6__12_ (Z : TopT P K w mg cks fns tabs) : FldX K (wdm T K S me) [6, 12] "reason" := fldX_ok (Z.ok 98)
theorem zx_node_10_ (Z : TopT P K w mg cks fns tabs) : FldX K (wdm T K S me) [10] "node" := fldX_ok (Z.ok 99)
theorem zx_title_17__24_ (Z : TopT P K w mg cks fns tabs) : FldX K (wdm T K S me) [17, 24] "title" := fldX_ok (Z.ok 100)
theorem zx_count_21__22_ (Z : TopT P K w mg cks fns tabs) : FldX K (wdm T K S me) [21, 22] "count" := fldX_ok (Z.ok 101)
theorem zg__law_fields (Z : TopT P K w mg cks fns tabs) : mg ("_law_fields" : Str) = some (.ref (He.ga K "_law_fields")) := Z.glo 102
theorem zg__law_holds (Z : TopT P K w mg cks fns tabs) : mg ("_law_holds" : Str) = some (.ref (He.ga K "_law_holds")) := Z.glo 103
theorem zg__law_contents (Z : TopT P K w mg cks fns tabs) : mg ("_law_contents" : Str) = some (.ref (He.ga K "_law_contents")) := Z.glo 104
theorem zg__law_held_holds (Z : TopT P K w mg cks fns tabs) : mg ("_law_held_holds" : Str) = some (.ref (He.ga K "_law_held_holds")) := Z.glo 105
theorem zg_law (Z : TopT P K w mg cks fns tabs) : mg ("law" : Str) = some (.ref (He.ga K "law")) := Z.glo 106
/-! _law_source -/
abbrev n__law_source : List Str := ["_law_script", "_law_cells", "_law_k"]
abbrev p__law_source : List Str := ["_law_script"]
theorem sc__law_source : FnScope n__law_source p__law_source (defScope s__law_source) := ⟨rfl, rfl, rfl, by decide +kernel, rfl, by decide +kernel, by decide +kernel⟩
theorem ok__law_source (Z : TopT P K w mg cks fns tabs) : DefOk P w K mg base "_law_source" p__law_source 1 [] (SpSrc K) := by
  obtain ⟨fd, F⟩ := Z.fn 0
  refine ⟨_, fd, [], funG (FunT.of F) sc__law_source (fun vs H Q E h => ?_) (fun cdv A outer s H vs Q E hg hr h => ⟨tSource K (wd T K none) H E, ?_, source_all rfl rfl h⟩), (zg__law_source Z), F.kp, .nil, FunD.bindsN (ps := p__law_source) F fun _ _ _ _ _ _ us hl => match us, hl with | [_], _ => rfl⟩
  · obtain ⟨p, ms, rfl, _⟩ := h
    rfl
  · exact (pss_cons (ps_set (i := 1) sc__law_source.nd rfl (.inl rfl) (pe_slice sl_list (pv 0) po_none (po_some pe_int))) (pss_cons (ms_for (C := ⟨wd T K none, H, fun _ => none⟩) (ex := exE (wd T K none) E) (passes_of rfl) rfl (mi_rng1 rfl (zf_range Z) (pma_cons (PM.to_rd (pm_callB (c_len rfl) rfl (zf_len Z) PySem.boot_len (pma_cons (pvR 1) pma_nil))) pma_nil)) (mg_name (i := 2) sc__law_source.nd rfl (.inl rfl)) (ms_one (ms_if (pt_cmp1 (OpR_rd d_ge) (PM.to_rd (pm_callB c_abs rfl (zf_abs Z) PyProof.Rows.boot_abs (pma_cons (PM.to_rd (pm_ix rfl (pvR 1) (PM.to_rd (pvV 2)))) pma_nil))) (PM.to_rd (pm_bin d_pow (PM.to_rd pm_int) (PM.to_rd pm_int))) (nomark _)) (ms_one (ms_setIx (i := 1) rfl (.inl rfl) (pm_bin d_mod (PM.to_rd (pm_callTy c_int rfl (zf_int Z) PyProof.Rows.boot_int (pma_cons (PM.to_rd (pm_ix rfl (pvR 1) (PM.to_rd (pvV 2)))) pma_nil))) (PM.to_rd (pm_bin d_pow (PM.to_rd (pm_bin d_pow (PM.to_rd pm_int) (PM.to_rd pm_int))) (PM.to_rd pm_int)))) (PM.to_rd (pvV 2)))) ms_nil))) (pss_cons (ms_if (C := ⟨wd T K none, H, fun _ => none⟩) (ex := exE (wd T K none) E) (pt_cmp1 (OpR_rd (d_eq rfl (hu64 hr))) (pvR 1) (PM.fr_rd (pm_lst pma_nil)) (nomark _)) (ms_one (ms_setO (i := 1) sc__law_source.nd rfl (.inl rfl) (pm_lst (pma_cons pm_int pma_nil)))) ms_nil) (pss_one (ps_ret (pe_lst (pa_cons (pv 1) (pa_cons pe_int pa_nil))))))))

/-! _law_draw -/
abbrev n__law_draw : List Str := ["_law_source_here", "_law_limit", "_law_cells", "_law_turn", "_law_place", "_law_cell", "_law_figure", "_law_other"]
abbrev p__law_draw : List Str := ["_law_source_here", "_law_limit"]
theorem sc__law_draw : FnScope n__law_draw p__law_draw (defScope s__law_draw) := ⟨rfl, rfl, rfl, by decide +kernel, rfl, by decide +kernel, by decide +kernel⟩
abbrev m__law_draw : List D → M D := drawM
theorem ok__law_draw (Z : TopT P K w mg cks fns tabs) : DefOk P w K mg base "_law_draw" p__law_draw 1 [] (SpD (wdm T K S me) [.val, .val] m__law_draw) := by
  obtain ⟨fd, F⟩ := Z.fn 1
  refine ⟨_, fd, [], funG (FunT.of F) sc__law_draw (fun vs H Q E h => ?_) (fun cdv A outer s H vs Q E hg hr h => ?_), (zg__law_draw Z), F.kp, .nil, FunD.bindsN (ps := p__law_draw) F fun _ _ _ _ _ _ us hl => match us, hl with | [_, _], _ => rfl⟩
  · obtain ⟨n, I, ds, _, ra, _⟩ := h
    exact ra.len.1
  · obtain ⟨I, q⟩ := draw_all (K := K) (N := n__law_draw) (mo := [.no]) rfl rfl (fun l t c p => drTail1_ok) h
    refine ⟨_, ?_, q⟩
    exact pss_cons (ps_asg (pv 0) (pg_lst rfl (pgs_cons (pg_name (i := 2) sc__law_draw.nd rfl (.inl rfl)) (pgs_cons (pg_name (i := 3) sc__law_draw.nd rfl (.inl rfl)) pgs_nil))))
      (pss_cons (ps_set (i := 4) sc__law_draw.nd rfl (.inl rfl) (pe_op op_mod (pe_callTy call_int1 rfl (zf_int Z) PyProof.Rows.boot_int (pa_cons (pv 3) pa_nil)) (pe_callB call_len_seq rfl (zf_len Z) PySem.boot_len (pa_cons (pv 2) pa_nil))))
      (pss_cons (ps_set (i := 5) sc__law_draw.nd rfl (.inl rfl) (pe_ix ix_list (pv 2) (pv 4) (fun _ _ => rfl)))
      (pss_cons (ps_asg (pe_op op_add (pv 3) pe_int) (pg_sub (pv 0) pe_int set_list))
      (pss_cons (ps_if (pt_cmpR op_ge (pv 5) (pe_op op_powW pe_int pe_int) (nomark _)) (pss_cons (ps_asg (pe_op op_fdivW (pv 5) (pv 1)) (pg_sub (pv 2) (pv 4) set_list)) (pss_one (ps_ret (pe_op op_mod (pe_callTy call_int1 rfl (zf_int Z) PyProof.Rows.boot_int (pa_cons (pv 5) pa_nil)) (pv 1))))) pss_nil)
      (ms_cons (ms_set (i := 6) sc__law_draw.nd rfl (.inl rfl) (pm_bin d_mod (dint (zf_int Z) (pm_bin (d_add rfl) (pm_bin (d_add rfl) (pm_bin d_mulI (pm_bin d_mod (dint (zf_int Z) (pvV 5)).to_rd pm_int.to_rd).to_rd pm_int.to_rd).to_rd (pm_bin d_mulI (pm_bin d_mulI (pvV 3).to_rd (pvV 3).to_rd).to_rd pm_int.to_rd).to_rd).to_rd pm_int.to_rd)).to_rd pm_int.to_rd))
      (ms_cons (ms_set (i := 6) sc__law_draw.nd rfl (.inl rfl) (pm_bin d_mod (dint (zf_int Z) (pm_bin d_mulI (pvV 6).to_rd (pvV 6).to_rd)).to_rd pm_int.to_rd))
      (ms_cons (ms_set (i := 6) sc__law_draw.nd rfl (.inl rfl) (pm_bin d_mod (dint (zf_int Z) (pm_bin d_mulI (pvV 6).to_rd (pvV 6).to_rd)).to_rd pm_int.to_rd))
      (ms_cons (ms_if (pt_cmp1 (OpR_rd d_gt) (pvV 1).to_rd (pm_bin d_pow pm_int.to_rd pm_int.to_rd).to_rd (nomark _))
        (ms_cons (ms_set (i := 7) sc__law_draw.nd rfl (.inl rfl) (pm_bin d_mod (dint (zf_int Z) (pm_bin (d_add rfl) (pm_bin (d_add rfl) (pm_bin d_mulI (pvV 6).to_rd pm_int.to_rd).to_rd (pm_bin d_mulI (pvV 3).to_rd pm_int.to_rd).to_rd).to_rd pm_int.to_rd)).to_rd pm_int.to_rd))
          (ms_one (ms_set (i := 6) sc__law_draw.nd rfl (.inl rfl) (pm_bin d_mulI (pvV 6).to_rd (pm_bin (d_add rfl) (pm_bin d_mulI (pm_bin d_mulI (pvV 7).to_rd (pvV 7).to_rd).to_rd (pvV 7).to_rd).to_rd pm_int.to_rd).to_rd)))) ms_nil)
      (ms_one (ms_ret (pm_bin d_mod (dint (zf_int Z) (pvV 6)).to_rd (pvV 1).to_rd)))))))))))

/-! _law_pick -/
abbrev n__law_pick : List Str := ["_law_source_here", "_law_parts"]
abbrev p__law_pick : List Str := ["_law_source_here", "_law_parts"]
theorem sc__law_pick : FnScope n__law_pick p__law_pick (defScope s__law_pick) := ⟨rfl, rfl, rfl, by decide +kernel, rfl, by decide +kernel, by decide +kernel⟩
def b__law_pick : PD.Env → M (Fl × PD.Env) :=
    (sRet (e2 ixM (eV 1) (eCall m__law_draw (eCons (eV 0) (eCons (eCall (arg1 lenM) (eCons (eV 1) eNil)) eNil)))))
def m__law_pick : List D → M D := fun ds => run 2 b__law_pick (slots [.val, .val] ds)
theorem ok__law_pick (Z : TopT P K w mg cks fns tabs) : DefOk P w K mg base "_law_pick" p__law_pick 2 [] (SpD (wdm T K S me) [.val, .val] m__law_pick) := by
  obtain ⟨fd, F⟩ := Z.fn 2
  exact ⟨_, fd, [], fn_body (N := n__law_pick) (FunT.of F) sc__law_pick rfl (by decide) fun cdv A outer s' H E I hg hr =>
    (ms_one (ms_ret (pm_ix rfl (PM.to_rd (pvV 1)) (PM.to_rd (pm_callD (ok__law_draw Z) rfl (takes_E (takes_of rfl rfl rfl rfl)) hg (hr.mono (by decide)) rfl (pma_cons (pvV 0) (pma_cons (pm_callB (c_len rfl) rfl (zf_len Z) PySem.boot_len (pma_cons (PM.to_rd (pvV 1)) pma_nil)) pma_nil))))))), (zg__law_pick Z), F.kp, .nil, FunD.bindsN (ps := p__law_pick) F fun _ _ _ _ _ _ us hl => match us, hl with | [_, _], _ => rfl⟩

theorem er_InvalidChoice (Z : TopT P K w mg cks fns tabs) : ErOk K mg "InvalidChoice" (cAt T.ns K 2) := erOk (Z.ok 9) (zg_InvalidChoice Z)
theorem er_InvalidDeeds (Z : TopT P K w mg cks fns tabs) : ErOk K mg "InvalidDeeds" (cAt T.ns K 4) := erOk (Z.ok 11) (zg_InvalidDeeds Z)
theorem er_InvalidGrouping (Z : TopT P K w mg cks fns tabs) : ErOk K mg "InvalidGrouping" (cAt T.ns K 7) := erOk (Z.ok 13) (zg_InvalidGrouping Z)
theorem er_InvalidKnown (Z : TopT P K w mg cks fns tabs) : ErOk K mg "InvalidKnown" (cAt T.ns K 8) := erOk (Z.ok 15) (zg_InvalidKnown Z)
theorem er_InvalidName (Z : TopT P K w mg cks fns tabs) : ErOk K mg "InvalidName" (cAt T.ns K 9) := erOk (Z.ok 17) (zg_InvalidName Z)
theorem er_InvalidNodes (Z : TopT P K w mg cks fns tabs) : ErOk K mg "InvalidNodes" (cAt T.ns K 11) := erOk (Z.ok 19) (zg_InvalidNodes Z)
theorem er_InvalidPins (Z : TopT P K w mg cks fns tabs) : ErOk K mg "InvalidPins" (cAt T.ns K 13) := erOk (Z.ok 21) (zg_InvalidPins Z)
theorem er_InvalidSize (Z : TopT P K w mg cks fns tabs) : ErOk K mg "InvalidSize" (cAt T.ns K 14) := erOk (Z.ok 23) (zg_InvalidSize Z)
theorem er_InvalidTerms (Z : TopT P K w mg cks fns tabs) : ErOk K mg "InvalidTerms" (cAt T.ns K 15) := erOk (Z.ok 25) (zg_InvalidTerms Z)
theorem er_InvalidText (Z : TopT P K w mg cks fns tabs) : ErOk K mg "InvalidText" (cAt T.ns K 16) := erOk (Z.ok 27) (zg_InvalidText Z)
theorem er_NotImplied (Z : TopT P K w mg cks fns tabs) : ErOk K mg "NotImplied" (cAt T.ns K 18) := erOk (Z.ok 29) (zg_NotImplied Z)
theorem er_NothingToRedo (Z : TopT P K w mg cks fns tabs) : ErOk K mg "NothingToRedo" (cAt T.ns K 19) := erOk (Z.ok 31) (zg_NothingToRedo Z)
theorem er_NothingToUndo (Z : TopT P K w mg cks fns tabs) : ErOk K mg "NothingToUndo" (cAt T.ns K 20) := erOk (Z.ok 33) (zg_NothingToUndo Z)
theorem er_UnknownAsker (Z : TopT P K w mg cks fns tabs) : ErOk K mg "UnknownAsker" (cAt T.ns K 23) := erOk (Z.ok 35) (zg_UnknownAsker Z)
/-! _law_empty -/
abbrev n__law_empty : List Str := ["_law_found"]
abbrev p__law_empty : List Str := []
theorem sc__law_empty : FnScope n__law_empty p__law_empty (defScope s__law_empty) := ⟨rfl, rfl, rfl, by decide +kernel, rfl, by decide +kernel, by decide +kernel⟩
def b__law_empty : PD.Env → M (Fl × PD.Env) :=
    (sSeq (sSet 0 (eLst (eCons (fun _ => M.ret (D.obj 2 [])) (eCons (fun _ => M.ret (D.obj 4 [])) (eCons (fun _ => M.ret (D.obj 7 [])) (eCons (fun _ => M.ret (D.obj 8 [])) eNil))))))
    (sSeq (sSet 0 (e2 addM (eV 0) (eLst (eCons (fun _ => M.ret (D.obj 9 [])) (eCons (fun _ => M.ret (D.obj 11 [])) (eCons (fun _ => M.ret (D.obj 13 [])) (eCons (fun _ => M.ret (D.obj 14 [])) eNil)))))))
    (sSeq (sSet 0 (e2 addM (eV 0) (eLst (eCons (fun _ => M.ret (D.obj 15 [])) (eCons (fun _ => M.ret (D.obj 16 [])) (eCons (fun _ => M.ret (D.obj 18 [])) (eCons (fun _ => M.ret (D.obj 19 [])) eNil)))))))
    (sSeq (sSet 0 (e2 addM (eV 0) (eLst (eCons (fun _ => M.ret (D.obj 20 [])) (eCons (fun _ => M.ret (D.obj 23 [])) eNil)))))
    (sRet (eV 0))))))
def m__law_empty : List D → M D := fun ds => run 1 b__law_empty (slots [] ds)
theorem ok__law_empty (Z : TopT P K w mg cks fns tabs) : DefOk P w K mg base "_law_empty" p__law_empty 1 [] (SpD (wdm T K S me) [] m__law_empty) := by
  obtain ⟨fd, F⟩ := Z.fn 3
  exact ⟨_, fd, [], fn_body (N := n__law_empty) (FunT.of F) sc__law_empty rfl (by decide) fun cdv A outer s' H E I hg hr =>
    (ms_cons (ms_set (i := 0) sc__law_empty.nd rfl (.inl rfl) (PM.fr_val (pm_lst (pma_cons (pm_mkN (c := 2) (er_InvalidChoice Z) rfl rfl) (pma_cons (pm_mkN (c := 4) (er_InvalidDeeds Z) rfl rfl) (pma_cons (pm_mkN (c := 7) (er_InvalidGrouping Z) rfl rfl) (pma_cons (pm_mkN (c := 8) (er_InvalidKnown Z) rfl rfl) pma_nil)))))))
    (ms_cons (ms_set (i := 0) sc__law_empty.nd rfl (.inl rfl) (pm_bin (d_add rfl) (PM.to_rd (pvV 0)) (PM.fr_rd (pm_lst (pma_cons (pm_mkN (c := 9) (er_InvalidName Z) rfl rfl) (pma_cons (pm_mkN (c := 11) (er_InvalidNodes Z) rfl rfl) (pma_cons (pm_mkN (c := 13) (er_InvalidPins Z) rfl rfl) (pma_cons (pm_mkN (c := 14) (er_InvalidSize Z) rfl rfl) pma_nil))))))))
    (ms_cons (ms_set (i := 0) sc__law_empty.nd rfl (.inl rfl) (pm_bin (d_add rfl) (PM.to_rd (pvV 0)) (PM.fr_rd (pm_lst (pma_cons (pm_mkN (c := 15) (er_InvalidTerms Z) rfl rfl) (pma_cons (pm_mkN (c := 16) (er_InvalidText Z) rfl rfl) (pma_cons (pm_mkN (c := 18) (er_NotImplied Z) rfl rfl) (pma_cons (pm_mkN (c := 19) (er_NothingToRedo Z) rfl rfl) pma_nil))))))))
    (ms_cons (ms_set (i := 0) sc__law_empty.nd rfl (.inl rfl) (pm_bin (d_add rfl) (PM.to_rd (pvV 0)) (PM.fr_rd (pm_lst (pma_cons (pm_mkN (c := 20) (er_NothingToUndo Z) rfl rfl) (pma_cons (pm_mkN (c := 23) (er_UnknownAsker Z) rfl rfl) pma_nil))))))
    (ms_one (ms_ret (pvV 0))))))), (zg__law_empty Z), F.kp, .nil, FunD.bindsN (ps := p__law_empty) F fun _ _ _ _ _ _ us hl => match us, hl with | [], _ => rfl⟩

/-! _law_simple -/
abbrev n__law_simple : List Str := ["_law_text", "_law_found"]
abbrev p__law_simple : List Str := ["_law_text"]
theorem sc__law_simple : FnScope n__law_simple p__law_simple (defScope s__law_simple) := ⟨rfl, rfl, rfl, by decide +kernel, rfl, by decide +kernel, by decide +kernel⟩
def b__law_simple : PD.Env → M (Fl × PD.Env) :=
    (sSeq (sSet 1 (eLst (eCons (fun v => (eV 0) v >>= fun _ => M.ret (D.obj 2 [])) (eCons (fun v => (eV 0) v >>= fun _ => M.ret (D.obj 4 [])) (eCons (fun v => (eV 0) v >>= fun _ => M.ret (D.obj 7 [])) (eCons (fun v => (eV 0) v >>= fun _ => M.ret (D.obj 8 [])) eNil))))))
    (sSeq (sSet 1 (e2 addM (eV 1) (eLst (eCons (fun v => (eV 0) v >>= fun _ => M.ret (D.obj 9 [])) (eCons (fun v => (eV 0) v >>= fun _ => M.ret (D.obj 11 [])) (eCons (fun v => (eV 0) v >>= fun _ => M.ret (D.obj 13 [])) (eCons (fun v => (eV 0) v >>= fun _ => M.ret (D.obj 14 [])) eNil)))))))
    (sSeq (sSet 1 (e2 addM (eV 1) (eLst (eCons (fun v => (eV 0) v >>= fun _ => M.ret (D.obj 15 [])) (eCons (fun v => (eV 0) v >>= fun _ => M.ret (D.obj 16 [])) (eCons (fun v => (eV 0) v >>= fun _ => M.ret (D.obj 18 [])) (eCons (fun v => (eV 0) v >>= fun _ => M.ret (D.obj 19 [])) eNil)))))))
    (sSeq (sSet 1 (e2 addM (eV 1) (eLst (eCons (fun v => (eV 0) v >>= fun _ => M.ret (D.obj 20 [])) (eCons (fun v => (eV 0) v >>= fun _ => M.ret (D.obj 23 [])) eNil)))))
    (sRet (eV 1))))))
def m__law_simple : List D → M D := fun ds => run 2 b__law_simple (slots [.val] ds)
theorem ok__law_simple (Z : TopT P K w mg cks fns tabs) : DefOk P w K mg base "_law_simple" p__law_simple 1 [] (SpD (wdm T K S me) [.val] m__law_simple) := by
  obtain ⟨fd, F⟩ := Z.fn 4
  exact ⟨_, fd, [], fn_body (N := n__law_simple) (FunT.of F) sc__law_simple rfl (by decide) fun cdv A outer s' H E I hg hr =>
    (ms_cons (ms_set (i := 1) sc__law_simple.nd rfl (.inl rfl) (PM.fr_val (pm_lst (pma_cons (pm_mkA (c := 2) (er_InvalidChoice Z) rfl rfl (pvV 0)) (pma_cons (pm_mkA (c := 4) (er_InvalidDeeds Z) rfl rfl (pvV 0)) (pma_cons (pm_mkA (c := 7) (er_InvalidGrouping Z) rfl rfl (pvV 0)) (pma_cons (pm_mkA (c := 8) (er_InvalidKnown Z) rfl rfl (pvV 0)) pma_nil)))))))
    (ms_cons (ms_set (i := 1) sc__law_simple.nd rfl (.inl rfl) (pm_bin (d_add rfl) (PM.to_rd (pvV 1)) (PM.fr_rd (pm_lst (pma_cons (pm_mkA (c := 9) (er_InvalidName Z) rfl rfl (pvV 0)) (pma_cons (pm_mkA (c := 11) (er_InvalidNodes Z) rfl rfl (pvV 0)) (pma_cons (pm_mkA (c := 13) (er_InvalidPins Z) rfl rfl (pvV 0)) (pma_cons (pm_mkA (c := 14) (er_InvalidSize Z) rfl rfl (pvV 0)) pma_nil))))))))
    (ms_cons (ms_set (i := 1) sc__law_simple.nd rfl (.inl rfl) (pm_bin (d_add rfl) (PM.to_rd (pvV 1)) (PM.fr_rd (pm_lst (pma_cons (pm_mkA (c := 15) (er_InvalidTerms Z) rfl rfl (pvV 0)) (pma_cons (pm_mkA (c := 16) (er_InvalidText Z) rfl rfl (pvV 0)) (pma_cons (pm_mkA (c := 18) (er_NotImplied Z) rfl rfl (pvV 0)) (pma_cons (pm_mkA (c := 19) (er_NothingToRedo Z) rfl rfl (pvV 0)) pma_nil))))))))
    (ms_cons (ms_set (i := 1) sc__law_simple.nd rfl (.inl rfl) (pm_bin (d_add rfl) (PM.to_rd (pvV 1)) (PM.fr_rd (pm_lst (pma_cons (pm_mkA (c := 20) (er_NothingToUndo Z) rfl rfl (pvV 0)) (pma_cons (pm_mkA (c := 23) (er_UnknownAsker Z) rfl rfl (pvV 0)) pma_nil))))))
    (ms_one (ms_ret (pvV 1))))))), (zg__law_simple Z), F.kp, .nil, FunD.bindsN (ps := p__law_simple) F fun _ _ _ _ _ _ us hl => match us, hl with | [_], _ => rfl⟩

/-! _law_matches -/
abbrev n__law_matches : List Str := ["_law_error", "_law_hits", "_law_base", "_law_k"]
abbrev p__law_matches : List Str := ["_law_error"]
theorem sc__law_matches : FnScope n__law_matches p__law_matches (defScope s__law_matches) := ⟨rfl, rfl, rfl, by decide +kernel, rfl, by decide +kernel, by decide +kernel⟩
def b__law_matches : PD.Env → M (Fl × PD.Env) :=
    (sSeq (sSet 1 (eLst (eCons (e1 (isM [] tb_InvalidBound) (eV 0)) (eCons (e1 (isM [] tb_InvalidDeed) (eV 0)) (eCons (e1 (isM [] tb_InvalidEdge) (eV 0)) eNil)))))
    (sSeq (sSet 1 (e2 addM (eV 1) (eLst (eCons (e1 (isM [] tb_InvalidGraph) (eV 0)) (eCons (e1 (isM [] tb_InvalidNode) (eV 0)) (eCons (e1 (isM [] tb_InvalidPattern) (eV 0)) eNil))))))
    (sSeq (sSet 1 (e2 addM (eV 1) (eLst (eCons (e1 (isM [] tb_KnownTitle) (eV 0)) (eCons (e1 (isM [] tb_TooLarge) (eV 0)) (eCons (e1 (isM [] tb_TooMany) (eV 0)) eNil))))))
    (sSeq (sSet 1 (e2 addM (eV 1) (eLst (eCons (e1 (isM [] tb_UnknownTitle) (eV 0)) (eCons (e1 (isM [] tb_InvalidChoice) (eV 0)) (eCons (e1 (isM [] tb_InvalidDeeds) (eV 0)) eNil))))))
    (sSeq (sSet 1 (e2 addM (eV 1) (eLst (eCons (e1 (isM [] tb_InvalidGrouping) (eV 0)) (eCons (e1 (isM [] tb_InvalidKnown) (eV 0)) (eCons (e1 (isM [] tb_InvalidName) (eV 0)) eNil))))))
    (sSeq (sSet 1 (e2 addM (eV 1) (eLst (eCons (e1 (isM [] tb_InvalidNodes) (eV 0)) (eCons (e1 (isM [] tb_InvalidPins) (eV 0)) (eCons (e1 (isM [] tb_InvalidSize) (eV 0)) eNil))))))
    (sSeq (sSet 1 (e2 addM (eV 1) (eLst (eCons (e1 (isM [] tb_InvalidTerms) (eV 0)) (eCons (e1 (isM [] tb_InvalidText) (eV 0)) (eCons (e1 (isM [] tb_NotImplied) (eV 0)) eNil))))))
    (sSeq (sSet 1 (e2 addM (eV 1) (eLst (eCons (e1 (isM [] tb_NothingToRedo) (eV 0)) (eCons (e1 (isM [] tb_NothingToUndo) (eV 0)) (eCons (e1 (isM [] tb_UnknownAsker) (eV 0)) eNil))))))
    (sSeq (sSet 2 (eAndV (e1 (isM [] tb_CountError) (eV 0)) (e1 (isM [] tb_ValueError) (eV 0))))
    (sRetF (eComp [3] (iCall rng1M (eCons (eC (.int 24)) eNil)) (tgN 3) (eAnd (eTest (e2 ixM (eV 1) (eV 3))) (eTest (eV 2))) (eV 3))))))))))))
def m__law_matches : List D → M D := fun ds => runN 4 b__law_matches (slots [.val] ds)
theorem ok__law_matches (Z : TopT P K w mg cks fns tabs) : DefOk P w K mg base "_law_matches" p__law_matches 1 [] (SpDF (wdm T K S me) [.val] m__law_matches) := by
  obtain ⟨fd, F⟩ := Z.fn 5
  exact ⟨_, fd, [], fn_bodyF (N := n__law_matches) (FunT.of F) sc__law_matches rfl (by decide) fun cdv A outer s' H E I hg hr =>
    (ms_cons (ms_set (i := 1) sc__law_matches.nd rfl (.inr rfl) (PM.fr_val (pm_lst (pma_cons (pm_is rfl rfl (zf_isinstance Z) (zi_InvalidBound Z) (.own _) (pe_glob rfl (zg_InvalidBound Z) rfl) (PM.to_rd (pvV 0))) (pma_cons (pm_is rfl rfl (zf_isinstance Z) (zi_InvalidDeed Z) (.own _) (pe_glob rfl (zg_InvalidDeed Z) rfl) (PM.to_rd (pvV 0))) (pma_cons (pm_is rfl rfl (zf_isinstance Z) (zi_InvalidEdge Z) (.own _) (pe_glob rfl (zg_InvalidEdge Z) rfl) (PM.to_rd (pvV 0))) pma_nil))))))
    (ms_cons (ms_set (i := 1) sc__law_matches.nd rfl (.inr rfl) (pm_bin (d_add rfl) (PM.to_rd (pvV 1)) (PM.fr_rd (pm_lst (pma_cons (pm_is rfl rfl (zf_isinstance Z) (zi_InvalidGraph Z) (.own _) (pe_glob rfl (zg_InvalidGraph Z) rfl) (PM.to_rd (pvV 0))) (pma_cons (pm_is rfl rfl (zf_isinstance Z) (zi_InvalidNode Z) (.own _) (pe_glob rfl (zg_InvalidNode Z) rfl) (PM.to_rd (pvV 0))) (pma_cons (pm_is rfl rfl (zf_isinstance Z) (zi_InvalidPattern Z) (.own _) (pe_glob rfl (zg_InvalidPattern Z) rfl) (PM.to_rd (pvV 0))) pma_nil)))))))
    (ms_cons (ms_set (i := 1) sc__law_matches.nd rfl (.inr rfl) (pm_bin (d_add rfl) (PM.to_rd (pvV 1)) (PM.fr_rd (pm_lst (pma_cons (pm_is rfl rfl (zf_isinstance Z) (zi_KnownTitle Z) (.own _) (pe_glob rfl (zg_KnownTitle Z) rfl) (PM.to_rd (pvV 0))) (pma_cons (pm_is rfl rfl (zf_isinstance Z) (zi_TooLarge Z) (.own _) (pe_glob rfl (zg_TooLarge Z) rfl) (PM.to_rd (pvV 0))) (pma_cons (pm_is rfl rfl (zf_isinstance Z) (zi_TooMany Z) (.own _) (pe_glob rfl (zg_TooMany Z) rfl) (PM.to_rd (pvV 0))) pma_nil)))))))
    (ms_cons (ms_set (i := 1) sc__law_matches.nd rfl (.inr rfl) (pm_bin (d_add rfl) (PM.to_rd (pvV 1)) (PM.fr_rd (pm_lst (pma_cons (pm_is rfl rfl (zf_isinstance Z) (zi_UnknownTitle Z) (.own _) (pe_glob rfl (zg_UnknownTitle Z) rfl) (PM.to_rd (pvV 0))) (pma_cons (pm_is rfl rfl (zf_isinstance Z) (zi_InvalidChoice Z) (.own _) (pe_glob rfl (zg_InvalidChoice Z) rfl) (PM.to_rd (pvV 0))) (pma_cons (pm_is rfl rfl (zf_isinstance Z) (zi_InvalidDeeds Z) (.own _) (pe_glob rfl (zg_InvalidDeeds Z) rfl) (PM.to_rd (pvV 0))) pma_nil)))))))
    (ms_cons (ms_set (i := 1) sc__law_matches.nd rfl (.inr rfl) (pm_bin (d_add rfl) (PM.to_rd (pvV 1)) (PM.fr_rd (pm_lst (pma_cons (pm_is rfl rfl (zf_isinstance Z) (zi_InvalidGrouping Z) (.own _) (pe_glob rfl (zg_InvalidGrouping Z) rfl) (PM.to_rd (pvV 0))) (pma_cons (pm_is rfl rfl (zf_isinstance Z) (zi_InvalidKnown Z) (.own _) (pe_glob rfl (zg_InvalidKnown Z) rfl) (PM.to_rd (pvV 0))) (pma_cons (pm_is rfl rfl (zf_isinstance Z) (zi_InvalidName Z) (.own _) (pe_glob rfl (zg_InvalidName Z) rfl) (PM.to_rd (pvV 0))) pma_nil)))))))
    (ms_cons (ms_set (i := 1) sc__law_matches.nd rfl (.inr rfl) (pm_bin (d_add rfl) (PM.to_rd (pvV 1)) (PM.fr_rd (pm_lst (pma_cons (pm_is rfl rfl (zf_isinstance Z) (zi_InvalidNodes Z) (.own _) (pe_glob rfl (zg_InvalidNodes Z) rfl) (PM.to_rd (pvV 0))) (pma_cons (pm_is rfl rfl (zf_isinstance Z) (zi_InvalidPins Z) (.own _) (pe_glob rfl (zg_InvalidPins Z) rfl) (PM.to_rd (pvV 0))) (pma_cons (pm_is rfl rfl (zf_isinstance Z) (zi_InvalidSize Z) (.own _) (pe_glob rfl (zg_InvalidSize Z) rfl) (PM.to_rd (pvV 0))) pma_nil)))))))
    (ms_cons (ms_set (i := 1) sc__law_matches.nd rfl (.inr rfl) (pm_bin (d_add rfl) (PM.to_rd (pvV 1)) (PM.fr_rd (pm_lst (pma_cons (pm_is rfl rfl (zf_isinstance Z) (zi_InvalidTerms Z) (.own _) (pe_glob rfl (zg_InvalidTerms Z) rfl) (PM.to_rd (pvV 0))) (pma_cons (pm_is rfl rfl (zf_isinstance Z) (zi_InvalidText Z) (.own _) (pe_glob rfl (zg_InvalidText Z) rfl) (PM.to_rd (pvV 0))) (pma_cons (pm_is rfl rfl (zf_isinstance Z) (zi_NotImplied Z) (.own _) (pe_glob rfl (zg_NotImplied Z) rfl) (PM.to_rd (pvV 0))) pma_nil)))))))
    (ms_cons (ms_set (i := 1) sc__law_matches.nd rfl (.inr rfl) (pm_bin (d_add rfl) (PM.to_rd (pvV 1)) (PM.fr_rd (pm_lst (pma_cons (pm_is rfl rfl (zf_isinstance Z) (zi_NothingToRedo Z) (.own _) (pe_glob rfl (zg_NothingToRedo Z) rfl) (PM.to_rd (pvV 0))) (pma_cons (pm_is rfl rfl (zf_isinstance Z) (zi_NothingToUndo Z) (.own _) (pe_glob rfl (zg_NothingToUndo Z) rfl) (PM.to_rd (pvV 0))) (pma_cons (pm_is rfl rfl (zf_isinstance Z) (zi_UnknownAsker Z) (.own _) (pe_glob rfl (zg_UnknownAsker Z) rfl) (PM.to_rd (pvV 0))) pma_nil)))))))
    (ms_cons (ms_set (i := 2) sc__law_matches.nd rfl (.inr rfl) (pm_and (PM.to_rd (pm_is rfl rfl (zf_isinstance Z) (zi_CountError Z) (.own _) (pe_glob rfl (zg_CountError Z) rfl) (PM.to_rd (pvV 0)))) (pm_one (pm_is rfl rfl (zf_isinstance Z) (zi_ValueError Z) (.ty _) (pe_bltn rfl (zf_ValueError Z) boot_VE rfl) (PM.to_rd (pvV 0))))))
    (ms_one (ms_retF (pm_lc (own := [("_law_k", 3)]) rfl sc__law_matches.nd (mi_rng1 rfl (zf_range Z) (pma_cons (PM.to_rd pm_int) pma_nil)) (blkOk_by (N := n__law_matches) (sc := defScope s__law_matches) (by decide +kernel)) (fun _ _ _ _ _ _ _ => (mg_name (i := 3) sc__law_matches.nd rfl (.inl rfl))) (fun _ _ _ _ _ _ _ => (mts_one (PMW.toT (pmw_and (pt_of (PM.to_rd (pm_ix rfl (PM.to_rd (pvV 1)) (PM.to_rd (pvV 3))))) (pmw_and1 (pt_of (PM.to_rd (pvV 2)))))))) (fun _ _ _ _ _ _ _ => (pvV 3)))))))))))))), (zg__law_matches Z), F.kp, .nil, FunD.bindsN (ps := p__law_matches) F fun _ _ _ _ _ _ us hl => match us, hl with | [_], _ => rfl⟩

theorem er_CountError (Z : TopT P K w mg cks fns tabs) : ErOk K mg "CountError" (cAt T.ns K 0) := erOk (Z.ok 79) (zg_CountError Z)
theorem nf_InvalidBound : T.fl.getD 1 Str.empty ≠ Str.empty := by decide
theorem sc_InvalidBound_init : FnScope ["self", "value"] ["self", "value"] (defScope s_InvalidBound_init) := ⟨rfl, rfl, rfl, by decide +kernel, rfl, by decide +kernel, by decide +kernel⟩
theorem ex_InvalidBound (Z : TopT P K w mg cks fns tabs) : ExOk P w K mg base "InvalidBound" 1 (cAt T.ns K 1) "value" := by
  obtain ⟨fd, F⟩ := Z.fn 6
  obtain ⟨T0, T1, T2, T3⟩ := kOex_ok (Z.ok 82)
  have b := FunD.bindsN (ps := ["self", "value"]) F fun _ _ _ _ _ _ us hl => match us, hl with | [_, _], _ => rfl
  exact ⟨_, fd, "value", T0, T2, T3, F.ok sc_InvalidBound_init SpX.len (fun cdv A outer s H vs Q E hr h =>
    ⟨_, pss_cons (ps_expr (pe_cinit rfl (zg_CountError Z) (kInit_ok (ns := T.ns) (c := 0) (Z.ok 83)) (pa_cons (pv 0) (pa_cons pe_str pa_nil)))) (pss_one (ps_ost (pv 0) (pv 1))), xinit_read rfl T0 T1 h⟩), (zg_InvalidBound Z), b⟩
theorem nf_InvalidDeed : T.fl.getD 3 Str.empty ≠ Str.empty := by decide
theorem sc_InvalidDeed_init : FnScope ["self", "number"] ["self", "number"] (defScope s_InvalidDeed_init) := ⟨rfl, rfl, rfl, by decide +kernel, rfl, by decide +kernel, by decide +kernel⟩
theorem ex_InvalidDeed (Z : TopT P K w mg cks fns tabs) : ExOk P w K mg base "InvalidDeed" 1 (cAt T.ns K 3) "number" := by
  obtain ⟨fd, F⟩ := Z.fn 7
  obtain ⟨T0, T1, T2, T3⟩ := kOex_ok (Z.ok 84)
  have b := FunD.bindsN (ps := ["self", "number"]) F fun _ _ _ _ _ _ us hl => match us, hl with | [_, _], _ => rfl
  exact ⟨_, fd, "number", T0, T2, T3, F.ok sc_InvalidDeed_init SpX.len (fun cdv A outer s H vs Q E hr h =>
    ⟨_, pss_cons (ps_expr (pe_cinit rfl (zg_CountError Z) (kInit_ok (ns := T.ns) (c := 0) (Z.ok 83)) (pa_cons (pv 0) (pa_cons pe_str pa_nil)))) (pss_one (ps_ost (pv 0) (pv 1))), xinit_read rfl T0 T1 h⟩), (zg_InvalidDeed Z), b⟩
theorem nf_InvalidEdge : T.fl.getD 5 Str.empty ≠ Str.empty := by decide
theorem sc_InvalidEdge_init : FnScope ["self", "edge"] ["self", "edge"] (defScope s_InvalidEdge_init) := ⟨rfl, rfl, rfl, by decide +kernel, rfl, by decide +kernel, by decide +kernel⟩
theorem ex_InvalidEdge (Z : TopT P K w mg cks fns tabs) : ExOk P w K mg base "InvalidEdge" 1 (cAt T.ns K 5) "edge" := by
  obtain ⟨fd, F⟩ := Z.fn 8
  obtain ⟨T0, T1, T2, T3⟩ := kOex_ok (Z.ok 85)
  have b := FunD.bindsN (ps := ["self", "edge"]) F fun _ _ _ _ _ _ us hl => match us, hl with | [_, _], _ => rfl
  exact ⟨_, fd, "edge", T0, T2, T3, F.ok sc_InvalidEdge_init SpX.len (fun cdv A outer s H vs Q E hr h =>
    ⟨_, pss_cons (ps_expr (pe_cinit rfl (zg_CountError Z) (kInit_ok (ns := T.ns) (c := 0) (Z.ok 83)) (pa_cons (pv 0) (pa_cons pe_str pa_nil)))) (pss_one (ps_ost (pv 0) (pv 1))), xinit_read rfl T0 T1 h⟩), (zg_InvalidEdge Z), b⟩
theorem nf_InvalidGraph : T.fl.getD 6 Str.empty ≠ Str.empty := by decide
theorem sc_InvalidGraph_init : FnScope ["self", "reason"] ["self", "reason"] (defScope s_InvalidGraph_init) := ⟨rfl, rfl, rfl, by decide +kernel, rfl, by decide +kernel, by decide +kernel⟩
theorem ex_InvalidGraph (Z : TopT P K w mg cks fns tabs) : ExOk P w K mg base "InvalidGraph" 1 (cAt T.ns K 6) "reason" := by
  obtain ⟨fd, F⟩ := Z.fn 9
  obtain ⟨T0, T1, T2, T3⟩ := kOex_ok (Z.ok 86)
  have b := FunD.bindsN (ps := ["self", "reason"]) F fun _ _ _ _ _ _ us hl => match us, hl with | [_, _], _ => rfl
  exact ⟨_, fd, "reason", T0, T2, T3, F.ok sc_InvalidGraph_init SpX.len (fun cdv A outer s H vs Q E hr h =>
    ⟨_, pss_cons (ps_expr (pe_cinit rfl (zg_CountError Z) (kInit_ok (ns := T.ns) (c := 0) (Z.ok 83)) (pa_cons (pv 0) (pa_cons pe_str pa_nil)))) (pss_one (ps_ost (pv 0) (pv 1))), xinit_read rfl T0 T1 h⟩), (zg_InvalidGraph Z), b⟩
theorem nf_InvalidNode : T.fl.getD 10 Str.empty ≠ Str.empty := by decide
theorem sc_InvalidNode_init : FnScope ["self", "node"] ["self", "node"] (defScope s_InvalidNode_init) := ⟨rfl, rfl, rfl, by decide +kernel, rfl, by decide +kernel, by decide +kernel⟩
theorem ex_InvalidNode (Z : TopT P K w mg cks fns tabs) : ExOk P w K mg base "InvalidNode" 1 (cAt T.ns K 10) "node" := by
  obtain ⟨fd, F⟩ := Z.fn 10
  obtain ⟨T0, T1, T2, T3⟩ := kOex_ok (Z.ok 87)
  have b := FunD.bindsN (ps := ["self", "node"]) F fun _ _ _ _ _ _ us hl => match us, hl with | [_, _], _ => rfl
  exact ⟨_, fd, "node", T0, T2, T3, F.ok sc_InvalidNode_init SpX.len (fun cdv A outer s H vs Q E hr h =>
    ⟨_, pss_cons (ps_expr (pe_cinit rfl (zg_CountError Z) (kInit_ok (ns := T.ns) (c := 0) (Z.ok 83)) (pa_cons (pv 0) (pa_cons pe_str pa_nil)))) (pss_one (ps_ost (pv 0) (pv 1))), xinit_read rfl T0 T1 h⟩), (zg_InvalidNode Z), b⟩
theorem nf_InvalidPattern : T.fl.getD 12 Str.empty ≠ Str.empty := by decide
theorem sc_InvalidPattern_init : FnScope ["self", "reason"] ["self", "reason"] (defScope s_InvalidPattern_init) := ⟨rfl, rfl, rfl, by decide +kernel, rfl, by decide +kernel, by decide +kernel⟩
theorem ex_InvalidPattern (Z : TopT P K w mg cks fns tabs) : ExOk P w K mg base "InvalidPattern" 1 (cAt T.ns K 12) "reason" := by
  obtain ⟨fd, F⟩ := Z.fn 11
  obtain ⟨T0, T1, T2, T3⟩ := kOex_ok (Z.ok 88)
  have b := FunD.bindsN (ps := ["self", "reason"]) F fun _ _ _ _ _ _ us hl => match us, hl with | [_, _], _ => rfl
  exact ⟨_, fd, "reason", T0, T2, T3, F.ok sc_InvalidPattern_init SpX.len (fun cdv A outer s H vs Q E hr h =>
    ⟨_, pss_cons (ps_expr (pe_cinit rfl (zg_CountError Z) (kInit_ok (ns := T.ns) (c := 0) (Z.ok 83)) (pa_cons (pv 0) (pa_cons pe_str pa_nil)))) (pss_one (ps_ost (pv 0) (pv 1))), xinit_read rfl T0 T1 h⟩), (zg_InvalidPattern Z), b⟩
theorem nf_KnownTitle : T.fl.getD 17 Str.empty ≠ Str.empty := by decide
theorem sc_KnownTitle_init : FnScope ["self", "title"] ["self", "title"] (defScope s_KnownTitle_init) := ⟨rfl, rfl, rfl, by decide +kernel, rfl, by decide +kernel, by decide +kernel⟩
theorem ex_KnownTitle (Z : TopT P K w mg cks fns tabs) : ExOk P w K mg base "KnownTitle" 1 (cAt T.ns K 17) "title" := by
  obtain ⟨fd, F⟩ := Z.fn 12
  obtain ⟨T0, T1, T2, T3⟩ := kOex_ok (Z.ok 89)
  have b := FunD.bindsN (ps := ["self", "title"]) F fun _ _ _ _ _ _ us hl => match us, hl with | [_, _], _ => rfl
  exact ⟨_, fd, "title", T0, T2, T3, F.ok sc_KnownTitle_init SpX.len (fun cdv A outer s H vs Q E hr h =>
    ⟨_, pss_cons (ps_expr (pe_cinit rfl (zg_CountError Z) (kInit_ok (ns := T.ns) (c := 0) (Z.ok 83)) (pa_cons (pv 0) (pa_cons pe_str pa_nil)))) (pss_one (ps_ost (pv 0) (pv 1))), xinit_read rfl T0 T1 h⟩), (zg_KnownTitle Z), b⟩
theorem nf_TooLarge : T.fl.getD 21 Str.empty ≠ Str.empty := by decide
theorem sc_TooLarge_init : FnScope ["self", "count"] ["self", "count"] (defScope s_TooLarge_init) := ⟨rfl, rfl, rfl, by decide +kernel, rfl, by decide +kernel, by decide +kernel⟩
theorem ex_TooLarge (Z : TopT P K w mg cks fns tabs) : ExOk P w K mg base "TooLarge" 1 (cAt T.ns K 21) "count" := by
  obtain ⟨fd, F⟩ := Z.fn 13
  obtain ⟨T0, T1, T2, T3⟩ := kOex_ok (Z.ok 90)
  have b := FunD.bindsN (ps := ["self", "count"]) F fun _ _ _ _ _ _ us hl => match us, hl with | [_, _], _ => rfl
  exact ⟨_, fd, "count", T0, T2, T3, F.ok sc_TooLarge_init SpX.len (fun cdv A outer s H vs Q E hr h =>
    ⟨_, pss_cons (ps_expr (pe_cinit rfl (zg_CountError Z) (kInit_ok (ns := T.ns) (c := 0) (Z.ok 83)) (pa_cons (pv 0) (pa_cons pe_str pa_nil)))) (pss_one (ps_ost (pv 0) (pv 1))), xinit_read rfl T0 T1 h⟩), (zg_TooLarge Z), b⟩
theorem nf_TooMany : T.fl.getD 22 Str.empty ≠ Str.empty := by decide
theorem sc_TooMany_init : FnScope ["self", "count"] ["self", "count"] (defScope s_TooMany_init) := ⟨rfl, rfl, rfl, by decide +kernel, rfl, by decide +kernel, by decide +kernel⟩
theorem ex_TooMany (Z : TopT P K w mg cks fns tabs) : ExOk P w K mg base "TooMany" 1 (cAt T.ns K 22) "count" := by
  obtain ⟨fd, F⟩ := Z.fn 14
  obtain ⟨T0, T1, T2, T3⟩ := kOex_ok (Z.ok 91)
  have b := FunD.bindsN (ps := ["self", "count"]) F fun _ _ _ _ _ _ us hl => match us, hl with | [_, _], _ => rfl
  exact ⟨_, fd, "count", T0, T2, T3, F.ok sc_TooMany_init SpX.len (fun cdv A outer s H vs Q E hr h =>
    ⟨_, pss_cons (ps_expr (pe_cinit rfl (zg_CountError Z) (kInit_ok (ns := T.ns) (c := 0) (Z.ok 83)) (pa_cons (pv 0) (pa_cons pe_str pa_nil)))) (pss_one (ps_ost (pv 0) (pv 1))), xinit_read rfl T0 T1 h⟩), (zg_TooMany Z), b⟩
theorem nf_UnknownTitle : T.fl.getD 24 Str.empty ≠ Str.empty := by decide
theorem sc_UnknownTitle_init : FnScope ["self", "title"] ["self", "title"] (defScope s_UnknownTitle_init) := ⟨rfl, rfl, rfl, by decide +kernel, rfl, by decide +kernel, by decide +kernel⟩
theorem ex_UnknownTitle (Z : TopT P K w mg cks fns tabs) : ExOk P w K mg base "UnknownTitle" 1 (cAt T.ns K 24) "title" := by
  obtain ⟨fd, F⟩ := Z.fn 15
  obtain ⟨T0, T1, T2, T3⟩ := kOex_ok (Z.ok 92)
  have b := FunD.bindsN (ps := ["self", "title"]) F fun _ _ _ _ _ _ us hl => match us, hl with | [_, _], _ => rfl
  exact ⟨_, fd, "title", T0, T2, T3, F.ok sc_UnknownTitle_init SpX.len (fun cdv A outer s H vs Q E hr h =>
    ⟨_, pss_cons (ps_expr (pe_cinit rfl (zg_CountError Z) (kInit_ok (ns := T.ns) (c := 0) (Z.ok 83)) (pa_cons (pv 0) (pa_cons pe_str pa_nil)))) (pss_one (ps_ost (pv 0) (pv 1))), xinit_read rfl T0 T1 h⟩), (zg_UnknownTitle Z), b⟩
/-! _law_by_position -/
abbrev n__law_by_position : List Str := ["_law_content", "_law_found"]
abbrev p__law_by_position : List Str := ["_law_content"]
theorem sc__law_by_position : FnScope n__law_by_position p__law_by_position (defScope s__law_by_position) := ⟨rfl, rfl, rfl, by decide +kernel, rfl, by decide +kernel, by decide +kernel⟩
def b__law_by_position : PD.Env → M (Fl × PD.Env) :=
    (sSeq (sSet 1 (eLst (eCons (eMkX 1 "value" (eV 0)) (eCons (eMkX 3 "number" (eV 0)) (eCons (eMkX 5 "edge" (eV 0)) (eCons (eMkX 6 "reason" (eV 0)) eNil))))))
    (sSeq (sSet 1 (e2 addM (eV 1) (eLst (eCons (eMkX 10 "node" (eV 0)) (eCons (eMkX 12 "reason" (eV 0)) (eCons (eMkX 17 "title" (eV 0)) (eCons (eMkX 21 "count" (eV 0)) eNil)))))))
    (sSeq (sSet 1 (e2 addM (eV 1) (eLst (eCons (eMkX 22 "count" (eV 0)) (eCons (eMkX 24 "title" (eV 0)) eNil)))))
    (sRet (eV 1)))))
def m__law_by_position : List D → M D := fun ds => run 2 b__law_by_position (slots [.val] ds)
theorem ok__law_by_position (Z : TopT P K w mg cks fns tabs) : DefOk P w K mg base "_law_by_position" p__law_by_position 3 [] (SpD (wdm T K S me) [.val] m__law_by_position) := by
  obtain ⟨fd, F⟩ := Z.fn 16
  exact ⟨_, fd, [], fn_body (N := n__law_by_position) (FunT.of F) sc__law_by_position rfl (by decide) fun cdv A outer s' H E I hg hr =>
    (ms_cons (ms_set (i := 1) sc__law_by_position.nd rfl (.inl rfl) (PM.fr_val (pm_lst (pma_cons (pm_mk1D (c := 1) (ex_InvalidBound Z) rfl (hr.mono (by decide)) rfl (pvV 0) passL) (pma_cons (pm_mk1D (c := 3) (ex_InvalidDeed Z) rfl (hr.mono (by decide)) rfl (pvV 0) passL) (pma_cons (pm_mk1D (c := 5) (ex_InvalidEdge Z) rfl (hr.mono (by decide)) rfl (pvV 0) passL) (pma_cons (pm_mk1D (c := 6) (ex_InvalidGraph Z) rfl (hr.mono (by decide)) rfl (pvV 0) passL) pma_nil)))))))
    (ms_cons (ms_set (i := 1) sc__law_by_position.nd rfl (.inl rfl) (pm_bin (d_add rfl) (PM.to_rd (pvV 1)) (PM.fr_rd (pm_lst (pma_cons (pm_mk1D (c := 10) (ex_InvalidNode Z) rfl (hr.mono (by decide)) rfl (pvV 0) passL) (pma_cons (pm_mk1D (c := 12) (ex_InvalidPattern Z) rfl (hr.mono (by decide)) rfl (pvV 0) passL) (pma_cons (pm_mk1D (c := 17) (ex_KnownTitle Z) rfl (hr.mono (by decide)) rfl (pvV 0) passL) (pma_cons (pm_mk1D (c := 21) (ex_TooLarge Z) rfl (hr.mono (by decide)) rfl (pvV 0) passL) pma_nil))))))))
    (ms_cons (ms_set (i := 1) sc__law_by_position.nd rfl (.inl rfl) (pm_bin (d_add rfl) (PM.to_rd (pvV 1)) (PM.fr_rd (pm_lst (pma_cons (pm_mk1D (c := 22) (ex_TooMany Z) rfl (hr.mono (by decide)) rfl (pvV 0) passL) (pma_cons (pm_mk1D (c := 24) (ex_UnknownTitle Z) rfl (hr.mono (by decide)) rfl (pvV 0) passL) pma_nil))))))
    (ms_one (ms_ret (pvV 1)))))), (zg__law_by_position Z), F.kp, .nil, FunD.bindsN (ps := p__law_by_position) F fun _ _ _ _ _ _ us hl => match us, hl with | [_], _ => rfl⟩

theorem xk_InvalidBound (Z : TopT P K w mg cks fns tabs) : ExKOk P w K mg base "InvalidBound" 1 (cAt T.ns K 1) "value" "value" := by
  obtain ⟨fd, F⟩ := Z.fn 6
  obtain ⟨T0, T1, T2, T3⟩ := kOex_ok (Z.ok 82)
  exact ⟨_, fd, T0, T2, T3, F.ok sc_InvalidBound_init SpX.len (fun cdv A outer s H vs Q E hr h =>
    ⟨_, pss_cons (ps_expr (pe_cinit rfl (zg_CountError Z) (kInit_ok (ns := T.ns) (c := 0) (Z.ok 83)) (pa_cons (pv 0) (pa_cons pe_str pa_nil)))) (pss_one (ps_ost (pv 0) (pv 1))), xinit_read rfl T0 T1 h⟩), (zg_InvalidBound Z), FunD.bindsK1 F "value" fun _ _ _ _ _ _ _ _ => rfl⟩
theorem xk_InvalidDeed (Z : TopT P K w mg cks fns tabs) : ExKOk P w K mg base "InvalidDeed" 1 (cAt T.ns K 3) "number" "number" := by
  obtain ⟨fd, F⟩ := Z.fn 7
  obtain ⟨T0, T1, T2, T3⟩ := kOex_ok (Z.ok 84)
  exact ⟨_, fd, T0, T2, T3, F.ok sc_InvalidDeed_init SpX.len (fun cdv A outer s H vs Q E hr h =>
    ⟨_, pss_cons (ps_expr (pe_cinit rfl (zg_CountError Z) (kInit_ok (ns := T.ns) (c := 0) (Z.ok 83)) (pa_cons (pv 0) (pa_cons pe_str pa_nil)))) (pss_one (ps_ost (pv 0) (pv 1))), xinit_read rfl T0 T1 h⟩), (zg_InvalidDeed Z), FunD.bindsK1 F "number" fun _ _ _ _ _ _ _ _ => rfl⟩
theorem xk_InvalidEdge (Z : TopT P K w mg cks fns tabs) : ExKOk P w K mg base "InvalidEdge" 1 (cAt T.ns K 5) "edge" "edge" := by
  obtain ⟨fd, F⟩ := Z.fn 8
  obtain ⟨T0, T1, T2, T3⟩ := kOex_ok (Z.ok 85)
  exact ⟨_, fd, T0, T2, T3, F.ok sc_InvalidEdge_init SpX.len (fun cdv A outer s H vs Q E hr h =>
    ⟨_, pss_cons (ps_expr (pe_cinit rfl (zg_CountError Z) (kInit_ok (ns := T.ns) (c := 0) (Z.ok 83)) (pa_cons (pv 0) (pa_cons pe_str pa_nil)))) (pss_one (ps_ost (pv 0) (pv 1))), xinit_read rfl T0 T1 h⟩), (zg_InvalidEdge Z), FunD.bindsK1 F "edge" fun _ _ _ _ _ _ _ _ => rfl⟩
theorem xk_InvalidGraph (Z : TopT P K w mg cks fns tabs) : ExKOk P w K mg base "InvalidGraph" 1 (cAt T.ns K 6) "reason" "reason" := by
  obtain ⟨fd, F⟩ := Z.fn 9
  obtain ⟨T0, T1, T2, T3⟩ := kOex_ok (Z.ok 86)
  exact ⟨_, fd, T0, T2, T3, F.ok sc_InvalidGraph_init SpX.len (fun cdv A outer s H vs Q E hr h =>
    ⟨_, pss_cons (ps_expr (pe_cinit rfl (zg_CountError Z) (kInit_ok (ns := T.ns) (c := 0) (Z.ok 83)) (pa_cons (pv 0) (pa_cons pe_str pa_nil)))) (pss_one (ps_ost (pv 0) (pv 1))), xinit_read rfl T0 T1 h⟩), (zg_InvalidGraph Z), FunD.bindsK1 F "reason" fun _ _ _ _ _ _ _ _ => rfl⟩
theorem xk_InvalidNode (Z : TopT P K w mg cks fns tabs) : ExKOk P w K mg base "InvalidNode" 1 (cAt T.ns K 10) "node" "node" := by
  obtain ⟨fd, F⟩ := Z.fn 10
  obtain ⟨T0, T1, T2, T3⟩ := kOex_ok (Z.ok 87)
  exact ⟨_, fd, T0, T2, T3, F.ok sc_InvalidNode_init SpX.len (fun cdv A outer s H vs Q E hr h =>
    ⟨_, pss_cons (ps_expr (pe_cinit rfl (zg_CountError Z) (kInit_ok (ns := T.ns) (c := 0) (Z.ok 83)) (pa_cons (pv 0) (pa_cons pe_str pa_nil)))) (pss_one (ps_ost (pv 0) (pv 1))), xinit_read rfl T0 T1 h⟩), (zg_InvalidNode Z), FunD.bindsK1 F "node" fun _ _ _ _ _ _ _ _ => rfl⟩
theorem xk_InvalidPattern (Z : TopT P K w mg cks fns tabs) : ExKOk P w K mg base "InvalidPattern" 1 (cAt T.ns K 12) "reason" "reason" := by
  obtain ⟨fd, F⟩ := Z.fn 11
  obtain ⟨T0, T1, T2, T3⟩ := kOex_ok (Z.ok 88)
  exact ⟨_, fd, T0, T2, T3, F.ok sc_InvalidPattern_init SpX.len (fun cdv A outer s H vs Q E hr h =>
    ⟨_, pss_cons (ps_expr (pe_cinit rfl (zg_CountError Z) (kInit_ok (ns := T.ns) (c := 0) (Z.ok 83)) (pa_cons (pv 0) (pa_cons pe_str pa_nil)))) (pss_one (ps_ost (pv 0) (pv 1))), xinit_read rfl T0 T1 h⟩), (zg_InvalidPattern Z), FunD.bindsK1 F "reason" fun _ _ _ _ _ _ _ _ => rfl⟩
theorem xk_KnownTitle (Z : TopT P K w mg cks fns tabs) : ExKOk P w K mg base "KnownTitle" 1 (cAt T.ns K 17) "title" "title" := by
  obtain ⟨fd, F⟩ := Z.fn 12
  obtain ⟨T0, T1, T2, T3⟩ := kOex_ok (Z.ok 89)
  exact ⟨_, fd, T0, T2, T3, F.ok sc_KnownTitle_init SpX.len (fun cdv A outer s H vs Q E hr h =>
    ⟨_, pss_cons (ps_expr (pe_cinit rfl (zg_CountError Z) (kInit_ok (ns := T.ns) (c := 0) (Z.ok 83)) (pa_cons (pv 0) (pa_cons pe_str pa_nil)))) (pss_one (ps_ost (pv 0) (pv 1))), xinit_read rfl T0 T1 h⟩), (zg_KnownTitle Z), FunD.bindsK1 F "title" fun _ _ _ _ _ _ _ _ => rfl⟩
theorem xk_TooLarge (Z : TopT P K w mg cks fns tabs) : ExKOk P w K mg base "TooLarge" 1 (cAt T.ns K 21) "count" "count" := by
  obtain ⟨fd, F⟩ := Z.fn 13
  obtain ⟨T0, T1, T2, T3⟩ := kOex_ok (Z.ok 90)
  exact ⟨_, fd, T0, T2, T3, F.ok sc_TooLarge_init SpX.len (fun cdv A outer s H vs Q E hr h =>
    ⟨_, pss_cons (ps_expr (pe_cinit rfl (zg_CountError Z) (kInit_ok (ns := T.ns) (c := 0) (Z.ok 83)) (pa_cons (pv 0) (pa_cons pe_str pa_nil)))) (pss_one (ps_ost (pv 0) (pv 1))), xinit_read rfl T0 T1 h⟩), (zg_TooLarge Z), FunD.bindsK1 F "count" fun _ _ _ _ _ _ _ _ => rfl⟩
theorem xk_TooMany (Z : TopT P K w mg cks fns tabs) : ExKOk P w K mg base "TooMany" 1 (cAt T.ns K 22) "count" "count" := by
  obtain ⟨fd, F⟩ := Z.fn 14
  obtain ⟨T0, T1, T2, T3⟩ := kOex_ok (Z.ok 91)
  exact ⟨_, fd, T0, T2, T3, F.ok sc_TooMany_init SpX.len (fun cdv A outer s H vs Q E hr h =>
    ⟨_, pss_cons (ps_expr (pe_cinit rfl (zg_CountError Z) (kInit_ok (ns := T.ns) (c := 0) (Z.ok 83)) (pa_cons (pv 0) (pa_cons pe_str pa_nil)))) (pss_one (ps_ost (pv 0) (pv 1))), xinit_read rfl T0 T1 h⟩), (zg_TooMany Z), FunD.bindsK1 F "count" fun _ _ _ _ _ _ _ _ => rfl⟩
theorem xk_UnknownTitle (Z : TopT P K w mg cks fns tabs) : ExKOk P w K mg base "UnknownTitle" 1 (cAt T.ns K 24) "title" "title" := by
  obtain ⟨fd, F⟩ := Z.fn 15
  obtain ⟨T0, T1, T2, T3⟩ := kOex_ok (Z.ok 92)
  exact ⟨_, fd, T0, T2, T3, F.ok sc_UnknownTitle_init SpX.len (fun cdv A outer s H vs Q E hr h =>
    ⟨_, pss_cons (ps_expr (pe_cinit rfl (zg_CountError Z) (kInit_ok (ns := T.ns) (c := 0) (Z.ok 83)) (pa_cons (pv 0) (pa_cons pe_str pa_nil)))) (pss_one (ps_ost (pv 0) (pv 1))), xinit_read rfl T0 T1 h⟩), (zg_UnknownTitle Z), FunD.bindsK1 F "title" fun _ _ _ _ _ _ _ _ => rfl⟩
/-! _law_by_keyword -/
abbrev n__law_by_keyword : List Str := ["_law_content", "_law_found"]
abbrev p__law_by_keyword : List Str := ["_law_content"]
theorem sc__law_by_keyword : FnScope n__law_by_keyword p__law_by_keyword (defScope s__law_by_keyword) := ⟨rfl, rfl, rfl, by decide +kernel, rfl, by decide +kernel, by decide +kernel⟩
def b__law_by_keyword : PD.Env → M (Fl × PD.Env) :=
    (sSeq (sSet 1 (eLst (eCons (eMkX 1 "value" (eV 0)) (eCons (eMkX 3 "number" (eV 0)) (eCons (eMkX 5 "edge" (eV 0)) eNil)))))
    (sSeq (sSet 1 (e2 addM (eV 1) (eLst (eCons (eMkX 6 "reason" (eV 0)) (eCons (eMkX 10 "node" (eV 0)) (eCons (eMkX 12 "reason" (eV 0)) eNil))))))
    (sSeq (sSet 1 (e2 addM (eV 1) (eLst (eCons (eMkX 17 "title" (eV 0)) (eCons (eMkX 21 "count" (eV 0)) (eCons (eMkX 22 "count" (eV 0)) eNil))))))
    (sSeq (sSet 1 (e2 addM (eV 1) (eLst (eCons (eMkX 24 "title" (eV 0)) eNil))))
    (sRet (eV 1))))))
def m__law_by_keyword : List D → M D := fun ds => run 2 b__law_by_keyword (slots [.val] ds)
theorem ok__law_by_keyword (Z : TopT P K w mg cks fns tabs) : DefOk P w K mg base "_law_by_keyword" p__law_by_keyword 3 [] (SpD (wdm T K S me) [.val] m__law_by_keyword) := by
  obtain ⟨fd, F⟩ := Z.fn 17
  exact ⟨_, fd, [], fn_body (N := n__law_by_keyword) (FunT.of F) sc__law_by_keyword rfl (by decide) fun cdv A outer s' H E I hg hr =>
    (ms_cons (ms_set (i := 1) sc__law_by_keyword.nd rfl (.inl rfl) (PM.fr_val (pm_lst (pma_cons (pm_mk1K (c := 1) (y := "value") (xk_InvalidBound Z) rfl (hr.mono (by decide)) rfl (pvV 0) passL) (pma_cons (pm_mk1K (c := 3) (y := "number") (xk_InvalidDeed Z) rfl (hr.mono (by decide)) rfl (pvV 0) passL) (pma_cons (pm_mk1K (c := 5) (y := "edge") (xk_InvalidEdge Z) rfl (hr.mono (by decide)) rfl (pvV 0) passL) pma_nil))))))
    (ms_cons (ms_set (i := 1) sc__law_by_keyword.nd rfl (.inl rfl) (pm_bin (d_add rfl) (PM.to_rd (pvV 1)) (PM.fr_rd (pm_lst (pma_cons (pm_mk1K (c := 6) (y := "reason") (xk_InvalidGraph Z) rfl (hr.mono (by decide)) rfl (pvV 0) passL) (pma_cons (pm_mk1K (c := 10) (y := "node") (xk_InvalidNode Z) rfl (hr.mono (by decide)) rfl (pvV 0) passL) (pma_cons (pm_mk1K (c := 12) (y := "reason") (xk_InvalidPattern Z) rfl (hr.mono (by decide)) rfl (pvV 0) passL) pma_nil)))))))
    (ms_cons (ms_set (i := 1) sc__law_by_keyword.nd rfl (.inl rfl) (pm_bin (d_add rfl) (PM.to_rd (pvV 1)) (PM.fr_rd (pm_lst (pma_cons (pm_mk1K (c := 17) (y := "title") (xk_KnownTitle Z) rfl (hr.mono (by decide)) rfl (pvV 0) passL) (pma_cons (pm_mk1K (c := 21) (y := "count") (xk_TooLarge Z) rfl (hr.mono (by decide)) rfl (pvV 0) passL) (pma_cons (pm_mk1K (c := 22) (y := "count") (xk_TooMany Z) rfl (hr.mono (by decide)) rfl (pvV 0) passL) pma_nil)))))))
    (ms_cons (ms_set (i := 1) sc__law_by_keyword.nd rfl (.inl rfl) (pm_bin (d_add rfl) (PM.to_rd (pvV 1)) (PM.fr_rd (pm_lst (pma_cons (pm_mk1K (c := 24) (y := "title") (xk_UnknownTitle Z) rfl (hr.mono (by decide)) rfl (pvV 0) passL) pma_nil)))))
    (ms_one (ms_ret (pvV 1))))))), (zg__law_by_keyword Z), F.kp, .nil, FunD.bindsN (ps := p__law_by_keyword) F fun _ _ _ _ _ _ us hl => match us, hl with | [_], _ => rfl⟩

/-! _law_fields -/
abbrev n__law_fields : List Str := ["_law_group", "_law_found"]
abbrev p__law_fields : List Str := ["_law_group"]
theorem sc__law_fields : FnScope n__law_fields p__law_fields (defScope s__law_fields) := ⟨rfl, rfl, rfl, by decide +kernel, rfl, by decide +kernel, by decide +kernel⟩
def b__law_fields : PD.Env → M (Fl × PD.Env) :=
    (sSeq (sSet 1 (eLst (eCons (e1 (fldM [1] ("value" : Str)) (e2 ixM (eV 0) (eC (.int 0)))) (eCons (e1 (fldM [3] ("number" : Str)) (e2 ixM (eV 0) (eC (.int 1)))) (eCons (e1 (fldM [5] ("edge" : Str)) (e2 ixM (eV 0) (eC (.int 2)))) (eCons (e1 (fldM [6, 12] ("reason" : Str)) (e2 ixM (eV 0) (eC (.int 3)))) (eCons (e1 (fldM [10] ("node" : Str)) (e2 ixM (eV 0) (eC (.int 4)))) (eCons (e1 (fldM [6, 12] ("reason" : Str)) (e2 ixM (eV 0) (eC (.int 5)))) eNil))))))))
    (sSeq (sSet 1 (e2 addM (eV 1) (eLst (eCons (e1 (fldM [17, 24] ("title" : Str)) (e2 ixM (eV 0) (eC (.int 6)))) (eCons (e1 (fldM [21, 22] ("count" : Str)) (e2 ixM (eV 0) (eC (.int 7)))) (eCons (e1 (fldM [21, 22] ("count" : Str)) (e2 ixM (eV 0) (eC (.int 8)))) (eCons (e1 (fldM [17, 24] ("title" : Str)) (e2 ixM (eV 0) (eC (.int 9)))) eNil)))))))
    (sRet (eV 1))))
def m__law_fields : List D → M D := fun ds => run 2 b__law_fields (slots [.val] ds)
theorem ok__law_fields (Z : TopT P K w mg cks fns tabs) : DefOk P w K mg base "_law_fields" p__law_fields 1 [] (SpD (wdm T K S me) [.val] m__law_fields) := by
  obtain ⟨fd, F⟩ := Z.fn 18
  exact ⟨_, fd, [], fn_body (N := n__law_fields) (FunT.of F) sc__law_fields rfl (by decide) fun cdv A outer s' H E I hg hr =>
    (ms_cons (ms_set (i := 1) sc__law_fields.nd rfl (.inl rfl) (PM.fr_val (pm_lst (pma_cons (pm_fldX (zx_value_1_ Z) (PM.to_rd (pm_ix rfl (PM.to_rd (pvV 0)) (PM.to_rd pm_int)))) (pma_cons (pm_fldX (zx_number_3_ Z) (PM.to_rd (pm_ix rfl (PM.to_rd (pvV 0)) (PM.to_rd pm_int)))) (pma_cons (pm_fldX (zx_edge_5_ Z) (PM.to_rd (pm_ix rfl (PM.to_rd (pvV 0)) (PM.to_rd pm_int)))) (pma_cons (pm_fldX (zx_reason_6__12_ Z) (PM.to_rd (pm_ix rfl (PM.to_rd (pvV 0)) (PM.to_rd pm_int)))) (pma_cons (pm_fldX (zx_node_10_ Z) (PM.to_rd (pm_ix rfl (PM.to_rd (pvV 0)) (PM.to_rd pm_int)))) (pma_cons (pm_fldX (zx_reason_6__12_ Z) (PM.to_rd (pm_ix rfl (PM.to_rd (pvV 0)) (PM.to_rd pm_int)))) pma_nil)))))))))
    (ms_cons (ms_set (i := 1) sc__law_fields.nd rfl (.inl rfl) (pm_bin (d_add rfl) (PM.to_rd (pvV 1)) (PM.fr_rd (pm_lst (pma_cons (pm_fldX (zx_title_17__24_ Z) (PM.to_rd (pm_ix rfl (PM.to_rd (pvV 0)) (PM.to_rd pm_int)))) (pma_cons (pm_fldX (zx_count_21__22_ Z) (PM.to_rd (pm_ix rfl (PM.to_rd (pvV 0)) (PM.to_rd pm_int)))) (pma_cons (pm_fldX (zx_count_21__22_ Z) (PM.to_rd (pm_ix rfl (PM.to_rd (pvV 0)) (PM.to_rd pm_int)))) (pma_cons (pm_fldX (zx_title_17__24_ Z) (PM.to_rd (pm_ix rfl (PM.to_rd (pvV 0)) (PM.to_rd pm_int)))) pma_nil))))))))
    (ms_one (ms_ret (pvV 1))))), (zg__law_fields Z), F.kp, .nil, FunD.bindsN (ps := p__law_fields) F fun _ _ _ _ _ _ us hl => match us, hl with | [_], _ => rfl⟩

/-! _law_holds -/
abbrev n__law_holds : List Str := ["_law_contents_here", "_law_before", "_law_content", "_law_groups", "_law_k", "_law_error", "_law_j", "_law_part"]
abbrev p__law_holds : List Str := ["_law_contents_here"]
theorem sc__law_holds : FnScope n__law_holds p__law_holds (defScope s__law_holds) := ⟨rfl, rfl, rfl, by decide +kernel, rfl, by decide +kernel, by decide +kernel⟩
def b__law_holds : PD.Env → M (Fl × PD.Env) :=
    (sSeq (sSet 1 (eComp [2] (iSeq (eV 0)) (tgN 2) eYes (eCall (arg1 reprBM) (eCons (eV 2) eNil))))
    (sSeq (sSet 3 (e2 addM (eComp [2] (iSeq (eV 0)) (tgN 2) eYes (eCall m__law_by_position (eCons (eV 2) eNil))) (eComp [2] (iSeq (eV 0)) (tgN 2) eYes (eCall m__law_by_keyword (eCons (eV 2) eNil)))))
    (sSeq (sFor (iCall rng1M (eCons (eCall (arg1 lenM) (eCons (eV 3) eNil)) eNil)) (tgN 4) (sSeq (sIf (eTest (e2 neM (eComp [5] (iSeq (e2 ixM (eV 3) (eV 4))) (tgN 5) eYes (eCall m__law_matches (eCons (eV 5) eNil))) (eComp [6] (iCall rng1M (eCons (eC (.int 10)) eNil)) (tgN 6) eYes (eLst (eCons (eV 6) eNil))))) (sRet (eC (.bl false))) sSkip)
    (sIf (eTest (e2 neM (eComp [7] (iSeq (eCall m__law_fields (eCons (e2 ixM (eV 3) (eV 4)) eNil))) (tgN 7) (eTest (e2 neM (eCall (arg1 reprBM) (eCons (eV 7) eNil)) (e2 ixM (eV 1) (e2 modM (eCall (arg1 intM) (eCons (eV 4) eNil)) (eCall (arg1 lenM) (eCons (eV 0) eNil)))))) (eV 7)) (eLst eNil))) (sRet (eC (.bl false))) sSkip)))
    (sRet (e2 eqM (eComp [2] (iSeq (eV 0)) (tgN 2) eYes (eCall (arg1 reprBM) (eCons (eV 2) eNil))) (eV 1))))))
def m__law_holds : List D → M D := fun ds => run 8 b__law_holds (slots [.val] ds)
theorem ok__law_holds (Z : TopT P K w mg cks fns tabs) : DefOk P w K mg base "_law_holds" p__law_holds 4 [] (SpD (wdm T K S me) [.val] m__law_holds) := by
  obtain ⟨fd, F⟩ := Z.fn 19
  exact ⟨_, fd, [], fn_body (N := n__law_holds) (FunT.of F) sc__law_holds rfl (by decide) fun cdv A outer s' H E I hg hr =>
    (ms_cons (ms_set (i := 1) sc__law_holds.nd rfl (.inr rfl) (PM.fr_val (pm_lc (own := [("_law_content", 2)]) rfl sc__law_holds.nd (mi_seq rfl (PM.val_st (pvV 0))) (blkOk_by (N := n__law_holds) (sc := defScope s__law_holds) (by decide +kernel)) (fun _ _ _ _ _ _ _ => (mg_name (i := 2) sc__law_holds.nd rfl (.inl rfl))) (fun _ _ _ _ _ _ _ => mts_nil) (fun _ _ _ _ _ _ _ => (pm_callB (c_reprB rfl (Z.ok 1) (Z.ok 80) hg (hu62 hr)) rfl (zf_repr Z) PyProof.Rows.boot_repr (pma_cons (PM.to_rd (pvV 2)) pma_nil))))))
    (ms_cons (ms_set (i := 3) sc__law_holds.nd rfl (.inl rfl) (pm_bin (d_add rfl) (PM.fr_rd (pm_lc (own := [("_law_content", 2)]) rfl sc__law_holds.nd (mi_seq rfl (PM.val_st (pvV 0))) (blkOk_by (N := n__law_holds) (sc := defScope s__law_holds) (by decide +kernel)) (fun _ _ _ _ _ _ _ => (mg_name (i := 2) sc__law_holds.nd rfl (.inl rfl))) (fun _ _ _ _ _ _ _ => mts_nil) (fun _ _ _ _ _ _ _ => (pm_callD (ok__law_by_position Z) rfl takes_no hg (hr.mono (by decide)) rfl (pma_cons (pvV 2) pma_nil))))) (PM.fr_rd (pm_lc (own := [("_law_content", 2)]) rfl sc__law_holds.nd (mi_seq rfl (PM.val_st (pvV 0))) (blkOk_by (N := n__law_holds) (sc := defScope s__law_holds) (by decide +kernel)) (fun _ _ _ _ _ _ _ => (mg_name (i := 2) sc__law_holds.nd rfl (.inl rfl))) (fun _ _ _ _ _ _ _ => mts_nil) (fun _ _ _ _ _ _ _ => (pm_callD (ok__law_by_keyword Z) rfl takes_no hg (hr.mono (by decide)) rfl (pma_cons (pvV 2) pma_nil)))))))
    (ms_cons (ms_for (passes_of rfl) rfl (mi_rng1 rfl (zf_range Z) (pma_cons (PM.to_rd (pm_callB (c_len rfl) rfl (zf_len Z) PySem.boot_len (pma_cons (PM.to_rd (pvV 3)) pma_nil))) pma_nil)) (mg_name (i := 4) sc__law_holds.nd rfl (.inr rfl)) (ms_cons (ms_if (pt_cmp1 (OpR_rd (d_ne rfl (hu64 hr))) (PM.fr_rd (pm_lc (own := [("_law_error", 5)]) rfl sc__law_holds.nd (mi_seq rfl (PM.val_st (pm_ix rfl (PM.to_rd (pvV 3)) (PM.to_rd (pvV 4))))) (blkOk_by (N := n__law_holds) (sc := defScope s__law_holds) (by decide +kernel)) (fun _ _ _ _ _ _ _ => (mg_name (i := 5) sc__law_holds.nd rfl (.inl rfl))) (fun _ _ _ _ _ _ _ => mts_nil) (fun _ _ _ _ _ _ _ => (PM.fr_val (pm_callDF (ok__law_matches Z) rfl takes_no hg (hr.mono (by decide)) rfl (pma_cons (pvV 5) pma_nil)))))) (PM.fr_rd (pm_lc (own := [("_law_j", 6)]) rfl sc__law_holds.nd (mi_rng1 rfl (zf_range Z) (pma_cons (PM.to_rd pm_int) pma_nil)) (blkOk_by (N := n__law_holds) (sc := defScope s__law_holds) (by decide +kernel)) (fun _ _ _ _ _ _ _ => (mg_name (i := 6) sc__law_holds.nd rfl (.inl rfl))) (fun _ _ _ _ _ _ _ => mts_nil) (fun _ _ _ _ _ _ _ => (PM.fr_val (pm_lst (pma_cons (pvV 6) pma_nil)))))) (nomark _)) (ms_one (ms_ret pm_bl)) ms_nil)
    (ms_one (ms_if (pt_cmp1 (OpR_rd (d_ne rfl (hu64 hr))) (PM.fr_rd (pm_lc (own := [("_law_part", 7)]) rfl sc__law_holds.nd (mi_seq rfl (PM.val_st (pm_callD (ok__law_fields Z) rfl (takes_E (takes_of rfl rfl rfl rfl)) hg (hr.mono (by decide)) rfl (pma_cons (pm_ix rfl (PM.to_rd (pvV 3)) (PM.to_rd (pvV 4))) pma_nil)))) (blkOk_by (N := n__law_holds) (sc := defScope s__law_holds) (by decide +kernel)) (fun _ _ _ _ _ _ _ => (mg_name (i := 7) sc__law_holds.nd rfl (.inl rfl))) (fun _ _ _ _ _ _ _ => (mts_one (pt_cmp1 (OpR_rd (d_ne rfl (hu64 hr))) (PM.to_rd (pm_callB (c_reprB rfl (Z.ok 1) (Z.ok 80) hg (hu62 hr)) rfl (zf_repr Z) PyProof.Rows.boot_repr (pma_cons (PM.to_rd (pvV 7)) pma_nil))) (PM.to_rd (pm_ix rfl (PM.to_rd (pvV 1)) (PM.to_rd (pm_bin d_mod (PM.to_rd (pm_callTy c_int rfl (zf_int Z) PyProof.Rows.boot_int (pma_cons (PM.to_rd (pvV 4)) pma_nil))) (PM.to_rd (pm_callB (c_len rfl) rfl (zf_len Z) PySem.boot_len (pma_cons (PM.to_rd (pvV 0)) pma_nil))))))) (nomark _)))) (fun _ _ _ _ _ _ _ => (pvV 7)))) (PM.fr_rd (pm_lst pma_nil)) (nomark _)) (ms_one (ms_ret pm_bl)) ms_nil))))
    (ms_one (ms_ret (pm_cmp (d_eq rfl (hu64 hr)) (PM.fr_rd (pm_lc (own := [("_law_content", 2)]) rfl sc__law_holds.nd (mi_seq rfl (PM.val_st (pvV 0))) (blkOk_by (N := n__law_holds) (sc := defScope s__law_holds) (by decide +kernel)) (fun _ _ _ _ _ _ _ => (mg_name (i := 2) sc__law_holds.nd rfl (.inl rfl))) (fun _ _ _ _ _ _ _ => mts_nil) (fun _ _ _ _ _ _ _ => (pm_callB (c_reprB rfl (Z.ok 1) (Z.ok 80) hg (hu62 hr)) rfl (zf_repr Z) PyProof.Rows.boot_repr (pma_cons (PM.to_rd (pvV 2)) pma_nil))))) (PM.to_rd (pvV 1)) (nomark _))))))), (zg__law_holds Z), F.kp, .nil, FunD.bindsN (ps := p__law_holds) F fun _ _ _ _ _ _ us hl => match us, hl with | [_], _ => rfl⟩

/-! _law_contents -/
abbrev n__law_contents : List Str := ["_law_source_here", "_law_great", "_law_k", "_law_contents_here"]
abbrev p__law_contents : List Str := ["_law_source_here"]
theorem sc__law_contents : FnScope n__law_contents p__law_contents (defScope s__law_contents) := ⟨rfl, rfl, rfl, by decide +kernel, rfl, by decide +kernel, by decide +kernel⟩
def b__law_contents : PD.Env → M (Fl × PD.Env) :=
    (sSeq (sSet 1 (e2 powM (eC (.int 10)) (eC (.int 60))))
    (sSeq (sFor (iCall rng1M (eCons (eC (.int 15)) eNil)) (tgN 2) (sSet 1 (e2 mulM (eV 1) (e2 powM (eC (.int 10)) (eC (.int 60))))))
    (sSeq (sSet 2 (eCall m__law_draw (eCons (eV 0) (eCons (e2 powM (eC (.int 10)) (eC (.int 9))) eNil))))
    (sSeq (sSet 3 (eLst (eCons (eC .non) (eCons (eC (.bl false)) (eCons (eC (.bl true)) (eCons (eC (.int 0)) (eCons (eV 2) (eCons (eV 1) (eCons (e2 subM (eC (.int 0)) (eV 1)) (eCons (eC (.str ("" : Str))) (eCons (eC (.str ("a" : Str))) (eCons (eTup eNil) (eCons (eLst eNil) (eCons (eTup (eCons (eC (.str ("rows" : Str))) eNil)) (eCons (eTup (eCons (eC (.str ("row" : Str))) (eCons (eV 2) eNil))) (eCons (eTup (eCons (eC (.str ("r" : Str))) (eCons (eC (.str ("e" : Str))) (eCons (eTup (eCons (eC (.int 1)) (eCons (eC (.int 2)) eNil))) eNil)))) eNil))))))))))))))))
    (sSeq (sSet 3 (e2 addM (eV 3) (eLst (eCons (eTup (eCons (eC (.bl true)) (eCons (eC (.str ("a" : Str))) (eCons (eC (.bl false)) eNil)))) (eCons (eLst (eCons (eLst (eCons (eC (.bl true)) eNil)) (eCons (eC (.int 1)) eNil))) (eCons (eTup (eCons (eC (.int 0)) (eCons (eLst (eCons (eC (.bl false)) eNil)) eNil))) (eCons (eLst (eCons (eC (.int 3)) (eCons (eC (.int 1)) (eCons (eC (.int 2)) eNil)))) (eCons (eLst (eCons (eLst (eCons (eC (.int 2)) eNil)) (eCons (eLst (eCons (eC (.int 1)) eNil)) eNil))) (eCons (eLst (eCons (eC (.int 1)) (eCons (eLst (eCons (eV 2) eNil)) eNil))) (eCons (eTup (eCons (eC (.str ("" : Str))) (eCons (eV 1) eNil))) eNil))))))))))
    (sSeq (sSet 3 (e2 addM (eV 3) (eLst (eCons (eTup (eCons (eC .non) eNil)) (eCons (eTup (eCons (eTup eNil) (eCons (eLst eNil) eNil))) (eCons (eC (.str ("{0}" : Str))) (eCons (eTup (eCons (eC (.str ("{x}" : Str))) (eCons (eC (.int 1)) (eCons (eC (.int 2)) eNil)))) (eCons (eC (.dct [])) (eCons (eDisp [((eC (.str ("a" : Str))), (eLst (eCons (eV 2) eNil)))]) (eCons (e2 repLM (eLst (eCons (eV 2) eNil)) (eC (.int 150))) (eCons (e2 repSM (eC (.str ("row " : Str))) (eC (.int 200))) (eCons (eC (.str ("one " : Str))) eNil))))))))))))
    (sRet (e2 addM (eV 3) (eLst (eCons (eDisp [((eC (.int 1)), (eC (.int 0))), ((eC (.str ("a" : Str))), (eC .non))]) (eCons (e2 repTM (eTup (eCons (eC (.str ("r" : Str))) (eCons (eC (.str ("s" : Str))) eNil))) (eC (.int 200))) (eCons (eC (.str ("\n" : Str))) eNil))))))))))))
def m__law_contents : List D → M D := fun ds => run 4 b__law_contents (slots [.val] ds)
theorem ok__law_contents (Z : TopT P K w mg cks fns tabs) : DefOk P w K mg base "_law_contents" p__law_contents 2 [] (SpD (wdm T K S me) [.val] m__law_contents) := by
  obtain ⟨fd, F⟩ := Z.fn 20
  exact ⟨_, fd, [], fn_body (N := n__law_contents) (FunT.of F) sc__law_contents rfl (by decide) fun cdv A outer s' H E I hg hr =>
    (ms_cons (ms_set (i := 1) sc__law_contents.nd rfl (.inl rfl) (pm_bin d_pow (PM.to_rd pm_int) (PM.to_rd pm_int)))
    (ms_cons (ms_for (passes_of rfl) rfl (mi_rng1 rfl (zf_range Z) (pma_cons (PM.to_rd pm_int) pma_nil)) (mg_name (i := 2) sc__law_contents.nd rfl (.inl rfl)) (ms_one (ms_set (i := 1) sc__law_contents.nd rfl (.inl rfl) (pm_bin d_mulI (PM.to_rd (pvV 1)) (PM.to_rd (pm_bin d_pow (PM.to_rd pm_int) (PM.to_rd pm_int)))))))
    (ms_cons (ms_set (i := 2) sc__law_contents.nd rfl (.inl rfl) (pm_callD (ok__law_draw Z) rfl (takes_E (takes_of rfl rfl rfl rfl)) hg (hr.mono (by decide)) rfl (pma_cons (pvV 0) (pma_cons (pm_bin d_pow (PM.to_rd pm_int) (PM.to_rd pm_int)) pma_nil))))
    (ms_cons (ms_set (i := 3) sc__law_contents.nd rfl (.inl rfl) (PM.fr_val (pm_lst (pma_cons pm_non (pma_cons pm_bl (pma_cons pm_bl (pma_cons pm_int (pma_cons (pvV 2) (pma_cons (pvV 1) (pma_cons (pm_bin d_sub (PM.to_rd pm_int) (PM.to_rd (pvV 1))) (pma_cons pm_str (pma_cons pm_str (pma_cons (pm_tup pma_nil) (pma_cons (PM.fr_val (pm_lst pma_nil)) (pma_cons (pm_tup (pma_cons pm_str pma_nil)) (pma_cons (pm_tup (pma_cons pm_str (pma_cons (pvV 2) pma_nil))) (pma_cons (pm_tup (pma_cons pm_str (pma_cons pm_str (pma_cons (pm_tup (pma_cons pm_int (pma_cons pm_int pma_nil))) pma_nil)))) pma_nil)))))))))))))))))
    (ms_cons (ms_set (i := 3) sc__law_contents.nd rfl (.inl rfl) (pm_bin (d_add rfl) (PM.to_rd (pvV 3)) (PM.fr_rd (pm_lst (pma_cons (pm_tup (pma_cons pm_bl (pma_cons pm_str (pma_cons pm_bl pma_nil)))) (pma_cons (PM.fr_val (pm_lst (pma_cons (PM.fr_val (pm_lst (pma_cons pm_bl pma_nil))) (pma_cons pm_int pma_nil)))) (pma_cons (pm_tup (pma_cons pm_int (pma_cons (PM.fr_val (pm_lst (pma_cons pm_bl pma_nil))) pma_nil))) (pma_cons (PM.fr_val (pm_lst (pma_cons pm_int (pma_cons pm_int (pma_cons pm_int pma_nil))))) (pma_cons (PM.fr_val (pm_lst (pma_cons (PM.fr_val (pm_lst (pma_cons pm_int pma_nil))) (pma_cons (PM.fr_val (pm_lst (pma_cons pm_int pma_nil))) pma_nil)))) (pma_cons (PM.fr_val (pm_lst (pma_cons pm_int (pma_cons (PM.fr_val (pm_lst (pma_cons (pvV 2) pma_nil))) pma_nil)))) (pma_cons (pm_tup (pma_cons pm_str (pma_cons (pvV 1) pma_nil))) pma_nil)))))))))))
    (ms_cons (ms_set (i := 3) sc__law_contents.nd rfl (.inl rfl) (pm_bin (d_add rfl) (PM.to_rd (pvV 3)) (PM.fr_rd (pm_lst (pma_cons (pm_tup (pma_cons pm_non pma_nil)) (pma_cons (pm_tup (pma_cons (pm_tup pma_nil) (pma_cons (PM.fr_val (pm_lst pma_nil)) pma_nil))) (pma_cons pm_str (pma_cons (pm_tup (pma_cons pm_str (pma_cons pm_int (pma_cons pm_int pma_nil)))) (pma_cons (PM.fr_val pm_dict0) (pma_cons (PM.fr_val (pm_disp (.cons (fun _ _ => pm_str) (fun _ _ => (PM.fr_val (pm_lst (pma_cons (pvV 2) pma_nil)))) .nil))) (pma_cons (PM.fr_val (pm_bin d_rep (PM.fr_rd (pm_lst (pma_cons (pvV 2) pma_nil))) (PM.to_rd pm_int))) (pma_cons (pm_bin d_repS (PM.to_rd pm_str) (PM.to_rd pm_int)) (pma_cons pm_str pma_nil)))))))))))))
    (ms_one (ms_ret (pm_bin (d_add rfl) (PM.to_rd (pvV 3)) (PM.fr_rd (pm_lst (pma_cons (PM.fr_val (pm_disp (.cons (fun _ _ => pm_int) (fun _ _ => pm_int) (.cons (fun _ _ => pm_str) (fun _ _ => pm_non) .nil)))) (pma_cons (pm_bin (d_repT rfl) (PM.to_rd (pm_tup (pma_cons pm_str (pma_cons pm_str pma_nil)))) (PM.to_rd pm_int)) (pma_cons pm_str pma_nil)))))))))))))), (zg__law_contents Z), F.kp, .nil, FunD.bindsN (ps := p__law_contents) F fun _ _ _ _ _ _ us hl => match us, hl with | [_], _ => rfl⟩

/-! _law_held_holds -/
abbrev n__law_held_holds : List Str := ["_law_some", "_law_groups", "_law_group", "_law_part"]
abbrev p__law_held_holds : List Str := []
theorem sc__law_held_holds : FnScope n__law_held_holds p__law_held_holds (defScope s__law_held_holds) := ⟨rfl, rfl, rfl, by decide +kernel, rfl, by decide +kernel, by decide +kernel⟩
def b__law_held_holds : PD.Env → M (Fl × PD.Env) :=
    (sSeq (sSetO 0 (eLst (eCons (eC (.int 1)) eNil)))
    (sHold 0 (hSeq (hStm (sSet 1 (eLst (eCons (eCall m__law_by_position (eCons (eV 0) eNil)) (eCons (eCall m__law_by_keyword (eCons (eV 0) eNil)) eNil)))))
    (hSeq (hApp 0 (eC (.int 2)))
    (hSeq (hFor 0 (iSeq (eV 1)) (tgN 2) (hIf (eTest (e2 neM (eComp [3] (iSeq (eCall m__law_fields (eCons (eV 2) eNil))) (tgN 3) (eTest (e2 neM (eV 3) (eLst (eCons (eC (.int 1)) (eCons (eC (.int 2)) eNil))))) (eV 3)) (eLst eNil))) (hStm (sRet (eC (.bl false)))) hSkip))
    (hStm (sRet (eC (.bl true)))))))))
def m__law_held_holds : List D → M D := fun ds => run 4 b__law_held_holds (slots [] ds)
theorem ok__law_held_holds (Z : TopT P K w mg cks fns tabs) : DefOk P w K mg base "_law_held_holds" p__law_held_holds 4 [] (SpD (wdm T K S me) [] m__law_held_holds) := by
  obtain ⟨fd, F⟩ := Z.fn 21
  exact ⟨_, fd, [], fn_body (N := n__law_held_holds) (FunT.of F) sc__law_held_holds rfl (by decide) fun cdv A outer s' H E I hg hr =>
    (ms_cons (ms_setO (i := 0) sc__law_held_holds.nd rfl (.inl rfl) (pm_lst (pma_cons pm_int pma_nil)))
    (ms_hold (Wf := fun S => wdm T K S me) (i := 0) rfl (fun _ _ => ⟨rfl, rfl, rfl, rfl⟩) (h_cons (h_stm (fun _ _ => ⟨rfl, rfl, rfl, rfl⟩) (fun ha_ _ _ => (ms_set (i := 1) sc__law_held_holds.nd rfl (.inl rfl) (PM.fr_val (pm_lst (pma_cons (pm_callD (ok__law_by_position Z) rfl takes_no hg (hr.mono (by decide)) rfl (pma_cons (pvV 0) pma_nil)) (pma_cons (pm_callD (ok__law_by_keyword Z) rfl takes_no hg (hr.mono (by decide)) rfl (pma_cons (pvV 0) pma_nil)) pma_nil)))))))
    (h_cons (h_app (i := 0) (fun _ _ => ⟨rfl, rfl, rfl, rfl⟩) rfl (.inl rfl) (fun ha_ _ _ => pm_int))
    (h_cons (h_for (i := 0) (fun _ _ => ⟨rfl, rfl, rfl, rfl⟩) (passes_of rfl) rfl (fun ha_ _ _ => (mi_seq rfl (PM.val_st (pvV 1)))) (fun _ _ _ => (mg_name (i := 2) sc__law_held_holds.nd rfl (.inl rfl))) (h_one (h_if (fun _ _ => ⟨rfl, rfl, rfl, rfl⟩) (fun _ _ => (pt_cmp1 (OpR_rd (d_ne rfl (hu64 hr))) (PM.fr_rd (pm_lc (own := [("_law_part", 3)]) rfl sc__law_held_holds.nd (mi_seq rfl (PM.val_st (pm_callD (ok__law_fields Z) rfl takes_no hg (hr.mono (by decide)) rfl (pma_cons (pvV 2) pma_nil)))) (blkOk_by (N := n__law_held_holds) (sc := defScope s__law_held_holds) (by decide +kernel)) (fun _ _ _ _ _ _ _ => (mg_name (i := 3) sc__law_held_holds.nd rfl (.inl rfl))) (fun _ _ _ _ _ _ _ => (mts_one (pt_cmp1 (OpR_rd (d_ne rfl (hu64 hr))) (PM.to_rd (pvV 3)) (PM.fr_rd (pm_lst (pma_cons pm_int (pma_cons pm_int pma_nil)))) (nomark _)))) (fun _ _ _ _ _ _ _ => (pvV 3)))) (PM.fr_rd (pm_lst pma_nil)) (nomark _))) (h_one (h_stm (fun _ _ => ⟨rfl, rfl, rfl, rfl⟩) (fun ha_ _ _ => (ms_ret pm_bl)))) h_nil)))
    (h_one (h_stm (fun _ _ => ⟨rfl, rfl, rfl, rfl⟩) (fun ha_ _ _ => (ms_ret pm_bl))))))))), (zg__law_held_holds Z), F.kp, .nil, FunD.bindsN (ps := p__law_held_holds) F fun _ _ _ _ _ _ us hl => match us, hl with | [], _ => rfl⟩

/-! law -/
abbrev n_law : List Str := ["_law_script", "_law_source_here", "_law_text", "_law_group", "_law_error", "_law_k"]
abbrev p_law : List Str := ["_law_script"]
theorem sc_law : FnScope n_law p_law (defScope s_law) := ⟨rfl, rfl, rfl, by decide +kernel, rfl, by decide +kernel, by decide +kernel⟩
def b_law : PD.Env → M (Fl × PD.Env) :=
    (sSeq (sSet 2 (eCall m__law_pick (eCons (eV 1) (eCons (eLst (eCons (eC (.str ("a" : Str))) (eCons (eC (.str ("row r" : Str))) (eCons (eC (.str ("Not found." : Str))) (eCons (eC (.str ("{x}" : Str))) (eCons (eC (.str ("0" : Str))) eNil)))))) eNil))))
    (sSeq (sFor (iSeq (eLst (eCons (eCall m__law_empty eNil) (eCons (eCall m__law_simple (eCons (eC (.str ("" : Str))) eNil)) (eCons (eCall m__law_simple (eCons (eV 2) eNil)) eNil))))) (tgN 3) (sIf (eTest (e2 neM (eComp [4] (iSeq (eV 3)) (tgN 4) eYes (eCall m__law_matches (eCons (eV 4) eNil))) (eComp [5] (iCall rng2M (eCons (eC (.int 10)) (eCons (eC (.int 24)) eNil))) (tgN 5) eYes (eLst (eCons (eV 5) eNil))))) (sRet (eC (.bl false))) sSkip))
    (sSeq (sFor (iSeq (eLst (eCons (fun _ => M.ret (D.obj 0 [])) (eCons (fun _ => M.ret (D.obj 0 [])) (eCons (fun v => (eV 2) v >>= fun _ => M.ret (D.obj 0 [])) eNil))))) (tgN 4) (sIf (eOr (eNot (eTest (e1 (isM [] tb_ValueError) (eV 4)))) (eTest (e2 neM (eCall m__law_matches (eCons (eV 4) eNil)) (eLst eNil)))) (sRet (eC (.bl false))) sSkip))
    (sRet (eAndV (eCall m__law_held_holds eNil) (eCall m__law_holds (eCons (eCall m__law_contents (eCons (eV 1) eNil)) eNil)))))))
abbrev e_law : PD.Env := .no :: .v .src :: List.replicate 4 .no
theorem ok_law (Z : TopT P K w mg cks fns tabs) {fd : FuncData} (F : FunT K "law" "law" s_law (He.ga K "law") fd) (hb : AllB (b_law e_law) (2 ^ 399) lawP noE) : FnG P w K mg base (L2.CX P w) 5 (He.ga K "law") fd p_law (SpLaw K) :=
  funG F sc_law (fun vs H Q E h => by obtain ⟨p, ms, rfl, _⟩ := h; rfl) fun cdv A outer s' H vs Q E hg hr h => by
    obtain ⟨f0, fd0, dl, G0, h1, h2, h3, h4⟩ := (ok__law_source (P := P) (w := w) (base := base) Z).ex
    cases h3
    refine ⟨_, ?_, law_read (T := T) (K := K) (N := n_law) (b := b_law) (n := 4) rfl hb h⟩
    exact pss_cons (ps_set (i := 1) sc_law.nd rfl (.inl rfl) (pe_callG (dvs := []) G0 hg (hr.mono (by decide)) rfl h1 h2 h4 .nil (fun σ => passF) (pa_cons (pv 0) pa_nil))) (pss_any fun S B I0 =>
    (ms_cons (ms_set (i := 2) sc_law.nd rfl (.inl rfl) (pm_callD (ok__law_pick Z) rfl takes_no hg (hr.mono (by decide)) rfl (pma_cons (pvV 1) (pma_cons (PM.fr_val (pm_lst (pma_cons pm_str (pma_cons pm_str (pma_cons pm_str (pma_cons pm_str (pma_cons pm_str pma_nil))))))) pma_nil))))
    (ms_cons (ms_for (passes_of rfl) rfl (mi_seq rfl (PM.val_st (PM.fr_val (pm_lst (pma_cons (pm_callD0 (ok__law_empty Z) rfl takes_no hg (hr.mono (by decide)) rfl) (pma_cons (pm_callD (ok__law_simple Z) rfl takes_no hg (hr.mono (by decide)) rfl (pma_cons pm_str pma_nil)) (pma_cons (pm_callD (ok__law_simple Z) rfl takes_no hg (hr.mono (by decide)) rfl (pma_cons (pvV 2) pma_nil)) pma_nil))))))) (mg_name (i := 3) sc_law.nd rfl (.inl rfl)) (ms_one (ms_if (pt_cmp1 (OpR_rd (d_ne rfl (hu64 hr))) (PM.fr_rd (pm_lc (own := [("_law_error", 4)]) rfl sc_law.nd (mi_seq rfl (PM.val_st (pvV 3))) (blkOk_by (N := n_law) (sc := defScope s_law) (by decide +kernel)) (fun _ _ _ _ _ _ _ => (mg_name (i := 4) sc_law.nd rfl (.inl rfl))) (fun _ _ _ _ _ _ _ => mts_nil) (fun _ _ _ _ _ _ _ => (PM.fr_val (pm_callDF (ok__law_matches Z) rfl takes_no hg (hr.mono (by decide)) rfl (pma_cons (pvV 4) pma_nil)))))) (PM.fr_rd (pm_lc (own := [("_law_k", 5)]) rfl sc_law.nd (mi_rng2 rfl (zf_range Z) (pma_cons (PM.to_rd pm_int) (pma_cons (PM.to_rd pm_int) pma_nil))) (blkOk_by (N := n_law) (sc := defScope s_law) (by decide +kernel)) (fun _ _ _ _ _ _ _ => (mg_name (i := 5) sc_law.nd rfl (.inl rfl))) (fun _ _ _ _ _ _ _ => mts_nil) (fun _ _ _ _ _ _ _ => (PM.fr_val (pm_lst (pma_cons (pvV 5) pma_nil)))))) (nomark _)) (ms_one (ms_ret pm_bl)) ms_nil)))
    (ms_cons (ms_for (passes_of rfl) rfl (mi_seq rfl (PM.val_st (PM.fr_val (pm_lst (pma_cons (pm_mkN (c := 0) (er_CountError Z) rfl rfl) (pma_cons (pm_mk0D (c := 0) (er_CountError Z) rfl rfl) (pma_cons (pm_mkA (c := 0) (er_CountError Z) rfl rfl (pvV 2)) pma_nil))))))) (mg_name (i := 4) sc_law.nd rfl (.inl rfl)) (ms_one (ms_if (PMW.toT (pmw_or (pmt_not (pt_of (PM.to_rd (pm_is rfl rfl (zf_isinstance Z) (zi_ValueError Z) (.ty _) (pe_bltn rfl (zf_ValueError Z) boot_VE rfl) (PM.to_rd (pvV 4)))))) (pmw_or1 (pt_cmp1 (OpR_rd (d_ne rfl (hu64 hr))) (PM.fr_rd (pm_callDF (ok__law_matches Z) rfl takes_no hg (hr.mono (by decide)) rfl (pma_cons (pvV 4) pma_nil))) (PM.fr_rd (pm_lst pma_nil)) (nomark _))))) (ms_one (ms_ret pm_bl)) ms_nil)))
    (ms_one (ms_ret (pm_and (PM.to_rd (pm_callD0 (ok__law_held_holds Z) rfl takes_no hg (hr.mono (by decide)) rfl)) (pm_one (pm_callD (ok__law_holds Z) rfl takes_no hg (hr.mono (by decide)) rfl (pma_cons (pm_callD (ok__law_contents Z) rfl takes_no hg (hr.mono (by decide)) rfl (pma_cons (pvV 1) pma_nil)) pma_nil))))))))))

end
end K05

set_option Elab.async false
set_option linter.all false
set_option maxRecDepth 100000
set_option maxHeartbeats 1000000
/-! PDStep: plain laws, step by step. -/
namespace PD
open PySem
section
variable {s t : Env → M (Fl × Env)} {e e' : Env} {k j : Nat} {θ : Fl × Env → Prop} {χ : Nat → D → Prop}
theorem seq_run (h : s e = .ret (.nx, e')) : sSeq s t e = t e' := by rw [x_seq, h, ret_bind]
theorem seq_rt {d : D} (h : s e = .ret (.rt d, e')) : sSeq s t e = .ret (.rt d, e') := by rw [x_seq, h, ret_bind]
theorem seq_exc {c : Nat} {d : D} (h : s e = .ret (.exc c d, e')) : sSeq s t e = .ret (.exc c d, e') := by rw [x_seq, h, ret_bind]
theorem set_run {i : Nat} {f : Env → M D} {d : D} (h : f e = .ret d) : sSeq (sSet i f) t e = t (e.set i (.v d)) := seq_run (by rw [x_set, h, tryB_ret])
theorem setO_run {i : Nat} {f : Env → M D} {d : D} (h : f e = .ret d) : sSeq (sSetO i f) t e = t (e.set i (.own d)) := seq_run (by rw [x_setO, h, tryB_ret])
theorem if_run {c : Env → M Bool} {a b : Env → M (Fl × Env)} {v : Bool} (h : c e = .ret v) : sIf c a b e = if v = true then a e else b e := by
  rw [x_sif, h, tryB_ret]
theorem if_no {c : Env → M Bool} {a : Env → M (Fl × Env)} (h : c e = .ret false) : sIf c a sSkip e = .ret (.nx, e) := by
  rw [if_run h]
  rfl
theorem if_yes {c : Env → M Bool} {a b : Env → M (Fl × Env)} (h : c e = .ret true) : sIf c a b e = a e := by
  rw [if_run h]
  rfl
theorem if_else {c : Env → M Bool} {a b : Env → M (Fl × Env)} (h : c e = .ret false) : sIf c a b e = b e := by
  rw [if_run h]
  rfl
theorem asg_run {tg : D → Env → Option Env} {f : Env → M D} {d : D} (h : f e = .ret d) (h1 : tg d e = some e') : sSeq (sAsg tg f) t e = t e' := seq_run (by rw [x_asg, h, tryB_ret]; simp only [h1])
/-! draws -/
theorem Rn.asg {tg : D → Env → Option Env} {f : Env → M D} {φ : D → Prop} (h : Rn (f e) k φ noX) (h1 : ∀ d, φ d → ∃ e', tg d e = some e' ∧ Rn (t e') j θ χ) : Rn (sSeq (sAsg tg f) t e) (k + j) θ χ := Rn.seq_nx (η := fun e' => ∃ d, φ d ∧ tg d e = some e') (by
  rw [x_asg]
  refine Rn.tryB (k := k) (j := 0) h (fun d z => ?_) fun _ _ z => z.elim
  obtain ⟨e', h2, _⟩ := h1 d z
  rw [h2]
  exact .ret ⟨rfl, d, z, h2⟩) fun e' ⟨d, z, ee⟩ => by
    obtain ⟨e2, h2, h3⟩ := h1 d z
    rw [ee] at h2
    cases h2
    exact h3
theorem Rn.setO {i : Nat} {f : Env → M D} {φ : D → Prop} (h : Rn (f e) k φ noX) (h1 : ∀ d, φ d → Rn (t (e.set i (.own d))) j θ χ) : Rn (sSeq (sSetO i f) t e) (k + j) θ χ := Rn.seq_nx (η := fun e' => ∃ d, φ d ∧ e' = e.set i (.own d)) (by
  exact (Rn.tryB (j := 0) h (fun d z => Rn.ret (φ := fun r : Fl × Env => r.1 = .nx ∧ ∃ d, φ d ∧ r.2 = e.set i (.own d)) ⟨rfl, d, z, rfl⟩) fun _ _ z => z.elim)) fun e' ⟨d, z, ee⟩ => ee ▸ h1 d z
theorem drawI {l : Int} {α : Type} {f : D → M α} {φ : α → Prop} (h0 : 0 < l) (h1 : l ≤ 16777216) (g : ∀ a : Nat, (a : Int) < l → Rn (f (.int a)) k φ χ) : Rn (drawM [.src, .int l] >>= f) (1 + k) φ χ := Rn.bind (φ := fun d => ∃ i, d = .int i ∧ 0 ≤ i ∧ i < l) (Rn.drawM h0 (Int.lt_of_le_of_lt h1 (by decide +kernel))) fun d ⟨i, e, a, b⟩ => by
  subst e
  obtain ⟨n, rfl⟩ := Int.eq_ofNat_of_zero_le a
  exact g n b
end
/-! comprehensions -/
section
variable {tg : D → Env → Option Env} {ft : Env → M Bool} {fe : Env → M D} {e : Env} {fi : Env → M (List D)} {vs : List Nat}
theorem compM_map {α : Type} (F : α → D) (c : α → Bool) (g : α → D) : ∀ {xs : List α}, (∀ x ∈ xs, ∃ e', tg (F x) e = some e' ∧ ft e' = .ret (c x) ∧ (c x = true → fe e' = .ret (g x))) → compM tg ft fe e (xs.map F) = .ret ((xs.filter c).map g)
  | [], _ => rfl
  | x :: xs, h => by
    obtain ⟨e', h1, h2, h3⟩ := h x List.mem_cons_self
    have ih := compM_map F c g (xs := xs) fun x hx => h x (List.mem_cons_of_mem _ hx)
    rw [List.map_cons, x_compS, h1]
    simp only [h2, ret_bind]
    cases hc : c x with
    | true => simp [h3 hc, ih, hc]
    | false => simp [ih, hc]
theorem compM_all {α : Type} (F : α → D) (g : α → D) {xs : List α} (h : ∀ x ∈ xs, ∃ e', tg (F x) e = some e' ∧ fe e' = .ret (g x)) : compM tg eYes fe e (xs.map F) = .ret (xs.map g) := by
  have := compM_map (tg := tg) (ft := eYes) (fe := fe) (e := e) F (fun _ => true) g (xs := xs) fun x hx => by
    obtain ⟨e', h1, h2⟩ := h x hx
    exact ⟨e', h1, rfl, fun _ => h2⟩
  rw [this, List.filter_eq_self.mpr fun _ _ => rfl]
theorem eComp_map {α : Type} (F : α → D) (c : α → Bool) (g : α → D) {xs : List α} (hi : fi e = .ret (xs.map F)) (hl : xs.length ≤ line) (hv : (vs.any fun i => (e[i]?).any isOwn) = false) (h : ∀ x ∈ xs, ∃ e', tg (F x) (borE (wipeE e vs)) = some e' ∧ ft e' = .ret (c x) ∧ (c x = true → fe e' = .ret (g x))) : eComp vs fi tg ft fe e = .ret (.lst ((xs.filter c).map g)) := by
  rw [x_ecomp, hi, ret_bind, if_pos ⟨by rw [List.length_map]; exact hl, hv⟩, compM_map F c g h]
  rfl
theorem eComp_all {α : Type} (F : α → D) (g : α → D) {xs : List α} (hi : fi e = .ret (xs.map F)) (hl : xs.length ≤ line) (hv : (vs.any fun i => (e[i]?).any isOwn) = false) (h : ∀ x ∈ xs, ∃ e', tg (F x) (borE (wipeE e vs)) = some e' ∧ fe e' = .ret (g x)) : eComp vs fi tg eYes fe e = .ret (.lst (xs.map g)) := by
  rw [x_ecomp, hi, ret_bind, if_pos ⟨by rw [List.length_map]; exact hl, hv⟩, compM_all F g h]
  rfl
end
/-! loops -/
section
variable {tg : D → Env → Option Env} {b t : Env → M (Fl × Env)} {e : Env} {fi : Env → M (List D)} {k : Nat} {θ : Fl × Env → Prop} {χ : Nat → D → Prop}
theorem loop_inv {α : Type} (F : α → D) (Iv : Nat → Env → Prop) : ∀ (xs : List α) (i : Nat) (e : Env), Iv i e →
    (∀ q x e, xs[q]? = some x → Iv (i + q) e → ∃ e' e2, tg (F x) e = some e' ∧ b e' = .ret (.nx, e2) ∧ Iv (i + q + 1) e2) → ∃ e', loopM tg b (xs.map F) e = .ret (.nx, e') ∧ Iv (i + xs.length) e'
  | [], i, e, h, _ => ⟨e, rfl, h⟩
  | d :: ds, i, e, h, hb => by
    obtain ⟨e', e2, h1, h2, h3⟩ := hb 0 d e rfl h
    obtain ⟨e3, h4, h5⟩ := loop_inv F Iv ds (i + 1) e2 h3 fun q x e z1 z2 => by
      have := hb (q + 1) x e (by simpa using z1) (by rw [show i + (q + 1) = i + 1 + q by omega]; exact z2)
      rw [show i + (q + 1) = i + 1 + q by omega] at this
      exact this
    refine ⟨e3, ?_, by rw [List.length_cons, show i + (ds.length + 1) = i + 1 + ds.length by omega]; exact h5⟩
    rw [List.map_cons]
    unfold loopM
    rw [h1]
    simp only [h2, ret_bind]
    exact h4
/-- a loop whose turns change a state -/
theorem loop_fold {α σ : Type} (F : α → D) (st : σ → α → σ) (Iv : σ → Env → Prop) : ∀ (xs : List α) (a : σ) (e : Env), Iv a e → (∀ x ∈ xs, ∀ a e, Iv a e → ∃ e' e2, tg (F x) e = some e' ∧ b e' = .ret (.nx, e2) ∧ Iv (st a x) e2) → ∃ e', loopM tg b (xs.map F) e = .ret (.nx, e') ∧ Iv (xs.foldl st a) e'
  | [], a, e, h, _ => ⟨e, rfl, h⟩
  | x :: xs, a, e, h, hb => by
    obtain ⟨e', e2, h1, h2, h3⟩ := hb x List.mem_cons_self a e h
    obtain ⟨e3, h4, h5⟩ := loop_fold F st Iv xs (st a x) e2 h3 fun y hy => hb y (List.mem_cons_of_mem _ hy)
    refine ⟨e3, ?_, h5⟩
    rw [List.map_cons]
    unfold loopM
    rw [h1]
    simp only [h2, ret_bind]
    exact h4
theorem for_fold {α σ : Type} (F : α → D) (st : σ → α → σ) (Iv : σ → Env → Prop) {xs : List α} {a : σ} (hi : fi e = .ret (xs.map F)) (h : Iv a e) (hb : ∀ x ∈ xs, ∀ a e, Iv a e → ∃ e' e2, tg (F x) e = some e' ∧ b e' = .ret (.nx, e2) ∧ Iv (st a x) e2) : ∃ e', sFor fi tg b e = .ret (.nx, e') ∧ Iv (xs.foldl st a) e' := by
  obtain ⟨e', h1, h2⟩ := loop_fold F st Iv xs a e h hb
  exact ⟨e', by rw [x_for, hi, tryB_ret, h1], h2⟩
theorem for_inv {α : Type} (F : α → D) (Iv : Nat → Env → Prop) {xs : List α} (hi : fi e = .ret (xs.map F)) (h : Iv 0 e) (hb : ∀ q x e, xs[q]? = some x → Iv q e → ∃ e' e2, tg (F x) e = some e' ∧ b e' = .ret (.nx, e2) ∧ Iv (q + 1) e2) : ∃ e', sFor fi tg b e = .ret (.nx, e') ∧ Iv xs.length e' := by
  obtain ⟨e', h1, h2⟩ := loop_inv (tg := tg) (b := b) F Iv xs 0 e h fun q d e hq hI => by
    rw [Nat.zero_add] at hI ⊢
    exact hb q d e hq hI
  rw [Nat.zero_add] at h2
  exact ⟨e', by rw [x_for, hi, tryB_ret, h1], h2⟩
theorem Rn.for_inv {α : Type} (F : α → D) (Iv : Nat → Env → Prop) {xs : List α} (hi : fi e = .ret (xs.map F)) (h : Iv 0 e) (hb : ∀ q x e, xs[q]? = some x → Iv q e → ∃ e' e2, tg (F x) e = some e' ∧ b e' = .ret (.nx, e2) ∧ Iv (q + 1) e2) (g : ∀ e', Iv xs.length e' → Rn (t e') k θ χ) : Rn (sSeq (sFor fi tg b) t e) k θ χ := by
  obtain ⟨e', h1, h2⟩ := PD.for_inv F Iv hi h hb
  rw [seq_run h1]
  exact g e' h2
/-- a loop that draws -/
theorem Rn.forD {α : Type} (F : α → D) (Iv : Nat → Env → Prop) {xs : List α} {j n : Nat} (hi : fi e = .ret (xs.map F)) (h : Iv 0 e) (hn : xs.length ≤ n) (hb : ∀ q x e, xs[q]? = some x → Iv q e → ∃ e', tg (F x) e = some e' ∧ Rn (b e') j (fun r => r.1 = .nx ∧ Iv (q + 1) r.2) χ) (g : ∀ e', Iv xs.length e' → Rn (t e') k θ χ) : Rn (sSeq (sFor fi tg b) t e) (j * n + k) θ χ := by
  refine Rn.seq_nx (η := fun e' => Iv xs.length e') ?_ g
  rw [x_for, hi, tryB_ret]
  refine (Rn.loop (k := j) (θ := fun r => r.1 = .nx ∧ Iv xs.length r.2) (χ := χ) Iv (xs.map F) 0 e h (fun q d e hq hI => ?_) fun e hI => ⟨rfl, ?_⟩).le ?_
  · rw [Nat.zero_add] at hI ⊢
    rw [List.getElem?_map] at hq
    obtain ⟨x, hx, rfl⟩ := Option.map_eq_some_iff.mp hq
    obtain ⟨e', h1, h2⟩ := hb q x e hx hI
    refine ⟨e', h1, h2.imp fun r ⟨a, z⟩ => ?_⟩
    obtain ⟨fl, e2⟩ := r
    obtain rfl : fl = .nx := a
    exact z
  · simpa using hI
  · rw [List.length_map]
    exact Nat.mul_le_mul_left _ hn
end
/-! a def's run -/
theorem Rn.runN {n : Nat} {s : Env → M (Fl × Env)} {args : List Slot} {k : Nat} {φ : D → Prop} (h : Rn (s (args ++ List.replicate (n - args.length) .no)) k (fun r => ∃ d, r.1 = .rtF d ∧ φ d) noX) : Rn (PD.runN n s args) k φ noX := .mk fun m hm => by
  have z := h.un m hm
  unfold PD.runN
  generalize s (args ++ List.replicate (n - args.length) .no) = x at z
  have : ∀ (x : M (Fl × Env)) (m k : Nat) (q : Nat), AllB x m (fun n' r => q ≤ n' + k ∧ ∃ d, r.1 = .rtF d ∧ φ d) (fun n' c d => q ≤ n' + k ∧ noX c d) → AllB (runF x) m (fun n' d => q ≤ n' + k ∧ φ d) (fun n' c d => q ≤ n' + k ∧ noX c d) := fun x => by
    induction x with
    | ret a =>
      intro m k q ⟨h1, d, h2, h3⟩
      obtain ⟨fl, e⟩ := a
      obtain rfl : fl = .rtF d := h2
      exact ⟨h1, h3⟩
    | bad => intro m k q h; exact h
    | raise c d => intro m k q ⟨_, h⟩; exact h.elim
    | draw l f ih =>
      intro m k q ⟨h1, h2, n', e, h3⟩
      exact ⟨h1, h2, n', e, fun i a b => ih i _ _ _ (h3 i a b)⟩
  exact this x m k m z
theorem x_runN {n : Nat} {s : Env → M (Fl × Env)} {args : List Slot} : PD.runN n s args = runF (s (args ++ List.replicate (n - args.length) .no)) := rfl
@[simp] theorem x_runF (r : Fl × Env) : runF (.ret r) = (match r with | (.rtF d, _) => .ret d | (.exc c d, _) => .raise c d | _ => .bad : M D) := by
  obtain ⟨fl, e⟩ := r
  cases fl <;> rfl
@[simp] theorem x_retF {f : Env → M D} {e : Env} : sRetF f e = tryB (f e) e fun d => .ret (.rtF d, e) := rfl
/-! data -/
theorem eqD_refl : ∀ (k : Nat) (d : D), okD k d = true → eqD d d = true := fun k => by
  have hl : ∀ (k : Nat), (∀ d : D, okD k d = true → eqD d d = true) → ∀ xs : List D, xs.all (okD k) = true → eqDs xs xs = true := fun k ih xs => by
    induction xs with
    | nil => intro _; simp [eqDs]
    | cons x xs ihx =>
      intro h
      simp only [List.all_cons, Bool.and_eq_true] at h
      simp [eqDs, ih x h.1, ihx h.2]
  induction k with
  | zero => intro d h; cases d <;> first | (simp [eqD]; done) | cases h
  | succ k ih =>
    intro d h
    cases d with
    | tup xs => simpa [eqD] using hl k ih xs h
    | lst xs => simpa [eqD] using hl k ih xs h
    | obj _ _ => cases h
    | src => cases h
    | dct _ => cases h
    | _ => simp [eqD]
theorem eq_self {d : D} (h : okD 64 d = true) : eqM d d = .ret (.bl true) ∧ neM d d = .ret (.bl false) := by
  unfold eqM neM
  rw [h, eqD_refl 64 d h]
  exact ⟨by simp, by simp⟩
theorem okD_ints (l : List Int) (k : Nat) : okD (k + 1) (.tup (l.map .int)) = true ∧ okD (k + 1) (.lst (l.map .int)) = true := by
  have : (l.map D.int).all (okD k) = true := by
    rw [List.all_eq_true]
    intro d hd
    obtain ⟨i, _, rfl⟩ := List.mem_map.mp hd
    cases k <;> rfl
  exact ⟨this, this⟩
theorem okD_all {k : Nat} {ds : List D} (h : ∀ d ∈ ds, okD k d = true) : okD (k + 1) (.lst ds) = true ∧ okD (k + 1) (.tup ds) = true := ⟨List.all_eq_true.mpr h, List.all_eq_true.mpr h⟩
theorem perm_of {α : Type} {F : α → D} (g : D → α) (hg : ∀ a, g (F a) = a) {ys : List D} {ps : List α} (h : ys.Perm (ps.map F)) : ∃ qs : List α, ys = qs.map F ∧ qs.Perm ps := by
  refine ⟨ys.map g, ?_, ?_⟩
  · rw [List.map_map]
    refine (List.map_id ys).symm.trans (List.map_congr_left fun y hy => ?_)
    obtain ⟨p, _, rfl⟩ := List.mem_map.mp (h.mem_iff.mp hy)
    show F p = F (g (F p))
    rw [hg]
  · have z := h.map g
    rw [List.map_map] at z
    have : ps.map (g ∘ F) = ps := (List.map_congr_left fun p _ => hg p).trans (List.map_id ps)
    rw [this] at z
    exact z
theorem lines {n : Nat} (hn : n ≤ 100000) : n ≤ line := by show _ ≤ 16777216; omega
end PD
namespace PD
open PySem
/-! the numbers below n -/
def L0 (n : Nat) : List Int := (List.range n).map fun (i : Nat) => (i : Int)
theorem L0_map (n : Nat) : (L0 n).map D.int = (List.range' 0 n).map fun (j : Nat) => D.int j := by
  unfold L0
  rw [List.map_map, List.range_eq_range']
  rfl
theorem L0_len (n : Nat) : (L0 n).length = n := by simp [L0]
theorem L0_mem {n : Nat} {v : Int} : v ∈ L0 n ↔ 0 ≤ v ∧ v < n := by
  unfold L0
  rw [List.mem_map]
  constructor
  · rintro ⟨i, hi, rfl⟩
    rw [List.mem_range] at hi
    omega
  · rintro ⟨h0, h1⟩
    exact ⟨v.toNat, by rw [List.mem_range]; omega, by omega⟩
theorem L0_nodup (n : Nat) : (L0 n).Nodup := by
  unfold L0
  exact List.Pairwise.map _ (fun a b hab e => hab (by omega)) (List.nodup_range (n := n))
theorem L0_asc (n : Nat) : (L0 n).Pairwise (· < ·) := by
  unfold L0
  exact List.Pairwise.map _ (fun a b hab => by omega) (List.pairwise_lt_range (n := n))
theorem L0_succ (n : Nat) : L0 (n + 1) = L0 n ++ [(n : Int)] := by
  unfold L0
  rw [List.range_succ, List.map_append]
  rfl
theorem L0_get {n q : Nat} (h : q < n) : (L0 n)[q]? = some (q : Int) := by
  unfold L0
  rw [List.getElem?_map, List.getElem?_range h]
  rfl
theorem rng1_L0 {n : Nat} (h : n ≤ 1000000) : rng1M [.int (n : Nat)] = .ret ((L0 n).map .int) := by
  rw [L0_map]
  exact rng1_ok (show n ≤ 16777216 by omega)
theorem rngLM_L0 {n : Nat} (h : n < 1000000) : rngLM (.int (n : Nat)) = .ret (.lst ((L0 n).map .int)) := by
  show (if ((n : Int)).natAbs < 1000000 then M.ret (D.lst (rngM 0 n)) else M.bad) = _
  rw [if_pos (by omega), L0_map, rng_nat]
theorem rngTM_L0 {n : Nat} (h : n < 1000000) : rngTM (.int (n : Nat)) = .ret (.tup ((L0 n).map .int)) := by
  show (if ((n : Int)).natAbs < 1000000 then M.ret (D.tup (rngM 0 n)) else M.bad) = _
  rw [if_pos (by omega), L0_map, rng_nat]
end PD

set_option Elab.async false
set_option linter.all false
set_option maxRecDepth 100000
set_option maxHeartbeats 1000000
/-! PDStep2: plain laws: two fors, stars. -/
namespace PD
open PySem
section
variable {tg tg1 : D → Env → Option Env} {ft ft1 : Env → M Bool} {fe : Env → M D} {e : Env} {fi fi1 : Env → M (List D)} {vs vs1 js : List Nat}
theorem compM2_map {α β : Type} (F : α → D) (G : β → D) (ys : α → List β) (c : α → β → Bool) (g : α → β → D) (b : Nat) : ∀ (xs : List α) (acc : List D), acc.length + xs.length * b ≤ line →
    (∀ x ∈ xs, (ys x).length ≤ b ∧ ∃ e', tg (F x) e = some e' ∧ ft e' = .ret true ∧ fi1 e' = .ret ((ys x).map G) ∧ ∀ y ∈ ys x, ∃ e2, tg1 (G y) (borE (wipeE (mergeE js 0 e e') vs1)) = some e2 ∧ ft1 e2 = .ret (c x y) ∧ (c x y = true → fe e2 = .ret (g x y))) →
    compM2 js tg ft fi1 tg1 ft1 fe vs1 e (xs.map F) acc = .ret (acc ++ xs.flatMap fun x => ((ys x).filter (c x)).map (g x))
  | [], acc, _, _ => by simp [compM2]
  | x :: xs, acc, hl, h => by
    obtain ⟨hb, e', h1, h2, h3, h4⟩ := h x List.mem_cons_self
    rw [List.length_cons, Nat.add_mul] at hl
    have ih := fun acc' hl' => compM2_map F G ys c g b xs acc' hl' fun x hx => h x (List.mem_cons_of_mem _ hx)
    rw [List.map_cons]
    unfold compM2
    rw [h1]
    have hc := compM_map (tg := tg1) (ft := ft1) (fe := fe) (e := borE (wipeE (mergeE js 0 e e') vs1)) G (c x) (g x) h4
    simp only [h2, ret_bind, if_true, h3, List.length_map]
    rw [if_pos (by omega), hc, ret_bind, ih _ (by
      rw [List.length_append, List.length_map]
      have := List.length_filter_le (c x) (ys x)
      omega)]
    rw [List.flatMap_cons, List.append_assoc]
theorem eComp2_map {α β : Type} (F : α → D) (G : β → D) (ys : α → List β) (c : α → β → Bool) (g : α → β → D) (b : Nat) {xs : List α} (hi : fi e = .ret (xs.map F)) (hl : xs.length * b ≤ line) (hv : (vs.any fun i => (e[i]?).any isOwn) = false)
    (h : ∀ x ∈ xs, (ys x).length ≤ b ∧ ∃ e', tg (F x) (borE (wipeE e vs)) = some e' ∧ ft e' = .ret true ∧ fi1 e' = .ret ((ys x).map G) ∧ ∀ y ∈ ys x, ∃ e2, tg1 (G y) (borE (wipeE (mergeE js 0 (borE (wipeE e vs)) e') vs1)) = some e2 ∧ ft1 e2 = .ret (c x y) ∧ (c x y = true → fe e2 = .ret (g x y))) :
    eComp2 vs js vs1 fi tg ft fi1 tg1 ft1 fe e = .ret (.lst (xs.flatMap fun x => ((ys x).filter (c x)).map (g x))) := by
  unfold eComp2
  rw [hi, ret_bind, if_pos hv, compM2_map F G ys c g b xs [] (by simpa using hl) h]
  rfl
end
@[simp] theorem x_iseqv {f : Env → M D} {e : Env} : iSeqV f e = f e >>= itemsVM := rfl
@[simp] theorem x_itvL (xs : List D) : itemsVM (.lst xs) = .ret xs := rfl
@[simp] theorem x_itvT (xs : List D) : itemsVM (.tup xs) = .ret xs := rfl
@[simp] theorem x_star {f : Env → M D} {g : Env → M (List D)} {e : Env} : eStar f g e = f e >>= itemsVM >>= fun xs => g e >>= fun ys => .ret (xs ++ ys) := rfl
/-- a value among ints, lists of ints, pairs -/
theorem in_ints (l : List Int) (v : Int) : inM (.int v) (.tup (l.map .int)) = .ret (.bl (decide (v ∈ l))) ∧ inM (.int v) (.lst (l.map .int)) = .ret (.bl (decide (v ∈ l))) := by
  have h1 : (okD 64 (.int v) && (l.map D.int).all (okD 64)) = true := by
    rw [show okD 64 (.int v) = true from rfl, Bool.true_and, List.all_eq_true]
    intro d hd
    obtain ⟨q, _, rfl⟩ := List.mem_map.mp hd
    rfl
  have h2 : ((l.map D.int).any fun y => eqD y (.int v)) = decide (v ∈ l) := by
    induction l with
    | nil => simp
    | cons a r ih =>
      have hr : (okD 64 (.int v) && (r.map D.int).all (okD 64)) = true := by
        rw [List.map_cons, List.all_cons] at h1
        simp only [Bool.and_eq_true] at h1 ⊢
        exact ⟨h1.1, h1.2.2⟩
      rw [List.map_cons, List.any_cons, ih hr]
      by_cases h : a = v
      · subst h; simp [eqD]
      · have h' : ¬ v = a := fun z => h z.symm
        simp [eqD, h, h']
  constructor
  · show (if (okD 64 (.int v) && (l.map D.int).all (okD 64)) = true then M.ret _ else M.bad) = _
    rw [if_pos h1, h2]
  · show (if (okD 64 (.int v) && (l.map D.int).all (okD 64)) = true then M.ret _ else M.bad) = _
    rw [if_pos h1, h2]
theorem notin_ints (l : List Int) (v : Int) : notInM (.int v) (.tup (l.map .int)) = .ret (.bl (!decide (v ∈ l))) ∧ notInM (.int v) (.lst (l.map .int)) = .ret (.bl (!decide (v ∈ l))) := by
  constructor
  · show (inM (.int v) (.tup (l.map .int)) >>= boolM >>= fun b => M.ret (D.bl (!b))) = _
    rw [(in_ints l v).1]
    rfl
  · show (inM (.int v) (.lst (l.map .int)) >>= boolM >>= fun b => M.ret (D.bl (!b))) = _
    rw [(in_ints l v).2]
    rfl
theorem Rn.ifNo {c : Env → M Bool} {a t : Env → M (Fl × Env)} {e : Env} {k j : Nat} {θ : Fl × Env → Prop} {χ : Nat → D → Prop} (h : Rn (c e) k (fun b => b = false) noX) (g : Rn (t e) j θ χ) : Rn (sSeq (sIf c a sSkip) t e) (k + j) θ χ := Rn.seq_nx (η := fun e' => e' = e) (by
  rw [x_sif]
  exact Rn.tryB (j := 0) (χ2 := χ) h (fun b hb => by subst hb; exact .ret ⟨rfl, rfl⟩) fun _ _ z => z.elim) fun e' he => by subst he; exact g
theorem ix_zero (x : D) (l : List D) : ixM (.lst (x :: l)) (.int 0) = .ret x := by
  have : (placeI 0 (x :: l).length).bind (fun k => (x :: l)[k]?) = some x := by
    unfold placeI
    rw [if_pos (by decide), if_pos (by rw [List.length_cons]; omega)]
    rfl
  show (match (placeI 0 (x :: l).length).bind (fun k => (x :: l)[k]?) with
    | some x => M.ret x
    | none => .bad) = _
  rw [this]
end PD

set_option Elab.async false
set_option linter.all false
set_option maxRecDepth 100000
set_option maxHeartbeats 1000000
/-! PDDraw: what the laws' own drawing defs bring. -/
namespace PD
open PySem
abbrev dr (l : Int) : M D := drawM [.src, .int l]
theorem dr_ok {l : Int} (h0 : 0 < l) (h1 : l ≤ 16777216) : Rn (dr l) 1 (fun d => ∃ i, d = .int i ∧ 0 ≤ i ∧ i < l) noX := Rn.drawM h0 (Int.lt_of_le_of_lt h1 (by decide +kernel))
theorem Rn.nxt {s t : Env → M (Fl × Env)} {e e' : Env} {k : Nat} {θ : Fl × Env → Prop} {χ : Nat → D → Prop} (h : s e = .ret (.nx, e')) (g : Rn (t e') k θ χ) : Rn (sSeq s t e) k θ χ := by
  rw [seq_run h]
  exact g
theorem Rn.eqr {α : Type} {m : M α} {a : α} {k : Nat} {φ : α → Prop} {χ : Nat → D → Prop} (h : m = .ret a) (g : φ a) : Rn m k φ χ := by
  rw [h]
  exact .ret g
/-- the laws' _law_shuffled -/
def bShuf : Env → M (Fl × Env) :=
    (sSeq (sSetO 2 (eLst eNil))
    (sSeq (sFor (iSeq (eV 1)) (tgN 3) (sIns 2 (eCall drawM (eCons (eV 0) (eCons (e2 addM (eCall (arg1 lenM) (eCons (eR 2) eNil)) (eC (.int 1))) eNil))) (eV 3)))
    (sRetO 2)))
theorem shuf_ok {xs : List D} (hl : xs.length < 1000000) : Rn (PD.runN 4 bShuf [.v .src, .v (.lst xs)]) (1 * xs.length) (fun d => ∃ ys, d = .lst ys ∧ ys.Perm xs) noX := by
  refine Rn.runN ?_
  have e : bShuf ([.v .src, .v (.lst xs)] ++ List.replicate (4 - ([.v .src, .v (.lst xs)] : Env).length) .no) = loopM (tgN 3) (sIns 2 (eCall drawM (eCons (eV 0) (eCons (e2 addM (eCall (arg1 lenM) (eCons (eR 2) eNil)) (eC (.int 1))) eNil))) (eV 3)) xs [.v .src, .v (.lst xs), .own (.lst []), .no] >>= fun r => match r with | (.nx, e') => sRetO 2 e' | r => .ret r := by
    simp [bShuf] <;> rfl
  rw [e, show 1 * xs.length = 1 * xs.length + 0 from rfl]
  refine Rn.bind (Rn.loop (θ := fun r => r.1 = .nx ∧ ∃ ys s, r.2 = [.v .src, .v (.lst xs), .own (.lst ys), s] ∧ ys.Perm xs) (χ := noX) (fun q e => q ≤ xs.length ∧ ∃ ys s, e = [.v .src, .v (.lst xs), .own (.lst ys), s] ∧ ys.Perm (xs.take q)) xs 0 _ ⟨Nat.zero_le _, [], .no, rfl, by simp⟩ ?_ ?_) ?_
  · rintro q d _ hq ⟨_, ys, s, rfl, hy⟩
    refine ⟨_, rfl, ?_⟩
    rw [Nat.zero_add] at hy ⊢
    have hqlt : q < xs.length := (List.getElem?_eq_some_iff.mp hq).1
    have hyl : ys.length = q := by rw [hy.length_eq, List.length_take]; omega
    have e2 : sIns 2 (eCall drawM (eCons (eV 0) (eCons (e2 addM (eCall (arg1 lenM) (eCons (eR 2) eNil)) (eC (.int 1))) eNil))) (eV 3) [.v .src, .v (.lst xs), .own (.lst ys), .v d] = tryB (dr (ys.length + 1)) [.v .src, .v (.lst xs), .own (.lst ys), .v d] fun k => match k with
        | .int k => if ys.length < line ∧ 0 ≤ k ∧ k.natAbs < 1000000000 then .ret (.nx, [.v .src, .v (.lst xs), .own (.lst (ys.take k.toNat ++ [d] ++ ys.drop k.toNat)), .v d]) else .bad
        | _ => .bad := by
      simp [sIns] <;> rfl
    rw [show ([.v .src, .v (.lst xs), .own (.lst ys), s] : PD.Env).set 3 (.v d) = [.v .src, .v (.lst xs), .own (.lst ys), .v d] from rfl, e2]
    have hlt : ys.length < line := by show ys.length < 16777216; omega
    refine Rn.tryB (k := 1) (j := 0) (dr_ok (by omega) (by omega)) (fun k ⟨i, ek, h1, h2⟩ => ?_) fun _ _ z => z.elim
    subst ek
    show Rn (if ys.length < line ∧ 0 ≤ i ∧ i.natAbs < 1000000000 then _ else _) _ _ _
    rw [if_pos ⟨hlt, h1, by omega⟩]
    refine .ret ⟨hqlt, _, _, rfl, ?_⟩
    have et : xs.take (q + 1) = xs.take q ++ [d] := by rw [List.take_add_one, hq]; rfl
    rw [et]
    have p1 : (ys.take i.toNat ++ [d] ++ ys.drop i.toNat).Perm (ys.take i.toNat ++ ys.drop i.toNat ++ [d]) := by
      rw [List.append_assoc, List.append_assoc]
      exact (List.perm_append_comm).append_left _
    rw [List.take_append_drop] at p1
    exact p1.trans (hy.append_right _)
  · rintro _ ⟨_, ys, s, rfl, hy⟩
    exact ⟨rfl, ys, s, rfl, by simpa using hy⟩
  · rintro ⟨fl, e'⟩ ⟨h, ys, s, h2, hy⟩
    obtain rfl : fl = .nx := h
    obtain rfl : e' = _ := h2
    exact .ret ⟨_, rfl, ys, rfl, hy⟩
def seqV : D → Option (List D)
  | .tup xs => some xs
  | .lst xs => some xs
  | _ => none
theorem ix_seqV {ed : D} {xs : List D} {q : Nat} (h : seqV ed = some xs) (hq : q < xs.length) : ixM ed (.int q) = .ret xs[q] := by
  have e : ((placeI q xs.length).bind fun k => xs[k]?) = some xs[q] := by
    unfold placeI
    rw [if_pos (by omega), if_pos (by omega)]
    simp [hq]
  cases ed <;> cases h <;> (unfold ixM; simp only [e])
theorem len_seqV {ed : D} {xs : List D} (h : seqV ed = some xs) : lenM ed = .ret (.int xs.length) := by
  cases ed <;> cases h <;> rfl
/-- the laws' _law_choose -/
def bChoose : Env → M (Fl × Env) :=
    (sRet (e2 ixM (eV 1) (eCall drawM (eCons (eV 0) (eCons (eCall (arg1 lenM) (eCons (eV 1) eNil)) eNil)))))
theorem choose_ok {ed : D} {xs : List D} (h : seqV ed = some xs) (h0 : 0 < xs.length) (hl : xs.length ≤ 16777216) : Rn (PD.run 2 bChoose [.v .src, .v ed]) 1 (fun d => d ∈ xs) noX := by
  refine Rn.run ?_
  have e : bChoose ([.v .src, .v ed] ++ List.replicate (2 - ([.v .src, .v ed] : Env).length) .no) = tryB (dr xs.length >>= fun i => ixM ed i) [.v .src, .v ed] fun d => .ret (.rt d, [.v .src, .v ed]) := by
    show bChoose [.v .src, .v ed] = _
    simp only [bChoose, x_ret, x_e2, len_seqV h, ret_bind, x_eV, x_getVS, x_getV0, x_call, x_cons, x_nil, x_arg1]
  rw [e]
  refine Rn.tryB (k := 1) (j := 0) (φ := fun d => d ∈ xs) (Rn.bind (k := 1) (j := 0) (dr_ok (by omega) (by omega)) fun d ⟨i, ei, h1, h2⟩ => ?_) (fun d hd => .ret hd) fun _ _ z => z.elim
  subst ei
  obtain ⟨q, rfl⟩ := Int.eq_ofNat_of_zero_le h1
  have hq : q < xs.length := by omega
  rw [ix_seqV h hq]
  exact .ret (List.getElem_mem hq)
end PD

set_option Elab.async false
set_option linter.all false
set_option maxRecDepth 100000
set_option maxHeartbeats 1000000
/-! PDSigns: texts of data: every sign is one that a text may hold. -/
namespace PD
open PySem
theorem sg_app {x y : Str} (h1 : strOkD x = true) (h2 : strOkD y = true) : strOkD (x ++ y) = true := by
  unfold strOkD at *
  show (x.cps ++ y.cps).all _ = true
  rw [Array.all_append, h1, h2]
  rfl
theorem sg_str (s : String) : strOkD (Str.ofString s) = true := by
  unfold strOkD
  rw [Str.ofString_eq_toList]
  rw [← Array.all_toList, List.all_eq_true]
  intro c hc
  obtain ⟨ch, _, rfl⟩ := List.mem_map.mp (show c ∈ s.toList.map Char.toNat from hc)
  refine decide_eq_true ?_
  have h : ch.val.toNat.isValidChar := ch.valid
  show ch.val.toNat < 1114112
  rcases h with h | ⟨_, h⟩ <;> omega
theorem sg_from : ∀ (ts : List Str) (k : Nat) (acc : Str), (∀ t ∈ ts, strOkD t = true) → strOkD acc = true → strOkD (textFrom k acc ts) = true
  | [], _, _, _, h => h
  | t :: ts, k, acc, h, ha => by
    refine sg_from ts (k + 1) _ (fun u hu => h u (List.mem_cons_of_mem _ hu)) ?_
    exact sg_app (sg_app ha (sg_str _)) (h t List.mem_cons_self)
theorem sg_join : ∀ (ts : List Str), (∀ t ∈ ts, strOkD t = true) → strOkD (Str.join ", " ts) = true
  | [], _ => by decide +kernel
  | [x], h => h x List.mem_cons_self
  | x :: y :: r, h => by
    have ih := sg_join (y :: r) fun t ht => h t (List.mem_cons_of_mem _ ht)
    show strOkD (x ++ _ ++ Str.join ", " (y :: r)) = true
    exact sg_app (sg_app (h x List.mem_cons_self) (sg_str _)) ih
mutual
/-- texts within whose reprs are of signs -/
def okS : D → Bool
  | .str x => strOkD (reprText x)
  | .tup xs => okSs xs
  | .lst xs => okSs xs
  | .dct kvs => okSk kvs
  | _ => true
def okSs : List D → Bool
  | [] => true
  | x :: xs => okS x && okSs xs
def okSk : List (D × D) → Bool
  | [] => true
  | (k, v) :: r => okS k && okS v && okSk r
end
mutual
theorem sg_shown : ∀ (d : D), okS d = true → strOkD (toPz d).shown = true
  | .non, _ => sg_str "None"
  | .bl true, _ => sg_str "True"
  | .bl false, _ => sg_str "False"
  | .int i, _ => by unfold toPz; simp only [PyData.shown]; exact sg_str _
  | .str x, h => by unfold toPz; simp only [PyData.shown]; simpa [okS] using h
  | .lst xs, h => by
    unfold toPz
    simp only [PyData.shown]
    exact sg_app (sg_from _ 0 _ (sg_shows xs (by simpa [okS] using h)) (sg_str "[")) (sg_str "]")
  | .tup xs, h => by
    unfold toPz
    simp only [PyData.shown]
    exact sg_app (sg_app (sg_str "(") (sg_join _ (sg_shows xs (by simpa [okS] using h)))) (sg_str _)
  | .dct xs, h => by
    unfold toPz
    simp only [PyData.shown]
    exact sg_app (sg_app (sg_str "{") (sg_join _ (sg_showk xs (by simpa [okS] using h)))) (sg_str "}")
  | .obj _ _, _ => by unfold toPz; simp only [PyData.shown]; exact sg_str "None"
  | .src, _ => by unfold toPz; simp only [PyData.shown]; exact sg_str "None"
theorem sg_shows : ∀ (xs : List D), okSs xs = true → ∀ t ∈ PyData.shownAll (toPzs xs), strOkD t = true
  | [], _, t, ht => by unfold toPzs at ht; simp [PyData.shownAll] at ht
  | x :: xs, h, t, ht => by
    obtain ⟨h1, h2⟩ := Bool.and_eq_true_iff.mp (show (okS x && okSs xs) = true by simpa [okSs] using h)
    unfold toPzs at ht
    simp only [PyData.shownAll, List.mem_cons] at ht
    rcases ht with rfl | ht
    · exact sg_shown x h1
    · exact sg_shows xs h2 t ht
theorem sg_showk : ∀ (xs : List (D × D)), okSk xs = true → ∀ t ∈ PyData.shownKv (toPzk xs), strOkD t = true
  | [], _, t, ht => by unfold toPzk at ht; simp [PyData.shownKv] at ht
  | (k, v) :: xs, h, t, ht => by
    obtain ⟨h0, h2⟩ := Bool.and_eq_true_iff.mp (show (okS k && okS v && okSk xs) = true by simpa [okSk] using h)
    obtain ⟨h1, h3⟩ := Bool.and_eq_true_iff.mp h0
    unfold toPzk at ht
    simp only [PyData.shownKv, List.mem_cons] at ht
    rcases ht with rfl | ht
    · exact sg_app (sg_app (sg_shown k h1) (sg_str _)) (sg_shown v h3)
    · exact sg_showk xs h2 t ht
end
mutual
theorem shB_of : ∀ (d : PyData), d.showable = true → shB d = true
  | .none, _ => rfl
  | .bool _, _ => rfl
  | .str _, _ => rfl
  | .int i, h => by
    have h : i.natAbs.log2 < 1920 := by simpa [PyData.showable] using h
    exact decide_eq_true (by omega)
  | .list xs, h => by unfold shB; exact shBs_of xs (by simpa [PyData.showable] using h)
  | .tuple xs, h => by unfold shB; exact shBs_of xs (by simpa [PyData.showable] using h)
  | .dict xs, h => by unfold shB; exact shBk_of xs (by simpa [PyData.showable] using h)
theorem shBs_of : ∀ (xs : List PyData), PyData.showableAll xs = true → shBs xs = true
  | [], _ => rfl
  | x :: xs, h => by
    obtain ⟨h1, h2⟩ := Bool.and_eq_true_iff.mp (show (x.showable && PyData.showableAll xs) = true by simpa [PyData.showableAll] using h)
    unfold shBs
    rw [shB_of x h1, shBs_of xs h2]
    rfl
theorem shBk_of : ∀ (xs : List (PyData × PyData)), PyData.showableKv xs = true → shBk xs = true
  | [], _ => rfl
  | (k, v) :: xs, h => by
    obtain ⟨h0, h2⟩ := Bool.and_eq_true_iff.mp (show (k.showable && v.showable && PyData.showableKv xs) = true by simpa [PyData.showableKv] using h)
    obtain ⟨h1, h3⟩ := Bool.and_eq_true_iff.mp h0
    unfold shBk
    rw [shB_of k h1, shB_of v h3, shBk_of xs h2]
    rfl
end
theorem reprBM_ok {d : D} (h1 : okR 60 d = true) (h2 : okT d = true) (h3 : wl d ≤ line) : reprBM d = .ret (.str (toPz d).shown) := by
  obtain ⟨a, b⟩ := shown_le d h2
  exact if_pos ⟨h1, shB_of _ b, Nat.le_trans a h3⟩
end PD

set_option Elab.async false
set_option linter.all false
set_option maxRecDepth 100000
set_option maxHeartbeats 1000000
namespace K05
open PySem PD
abbrev fldL : List (Nat × Str) := [(1, "value"), (3, "number"), (5, "edge"), (6, "reason"), (10, "node"), (12, "reason"), (17, "title"), (21, "count"), (22, "count"), (24, "title")]
abbrev objs (d : D) : List D := fldL.map fun p => D.obj p.1 [(p.2, d)]
theorem by_pos (d : D) : m__law_by_position [d] = .ret (.lst (objs d)) := by kernel_rfl
theorem by_key (d : D) : m__law_by_keyword [d] = .ret (.lst (objs d)) := by kernel_rfl
theorem fields_ok (d : D) : m__law_fields [.lst (objs d)] = .ret (.lst (List.replicate 10 d)) := by kernel_rfl
theorem matches_ok (d : D) (a b c i : D) : (noR (compM (tgN 5) eYes (eCall m__law_matches (eCons (eV 5) eNil)) [.v a, .v b, .no, .v c, .v i, .no, .no, .no] (objs d))) = .ret ((List.range' 0 10).map fun (j : Nat) => D.lst [.int j]) := by kernel_rfl
end K05
namespace K05
open PySem PD
/-- its repr, and the signs of it -/
def G (d : D) : Prop := reprBM d = .ret (.str (toPz d).shown) ∧ strOkD (toPz d).shown = true
abbrev rp (d : D) : D := .str (toPz d).shown
theorem holds_ok {ds : List D} (h : ∀ d ∈ ds, G d) (hl : ds.length ≤ 1000) : m__law_holds [.lst ds] = .ret (.bl true) := by
  have hr : ∀ (s1 s3 s4 : Slot), (eComp [2] (iSeq (eV 0)) (tgN 2) eYes (eCall (arg1 reprBM) (eCons (eV 2) eNil))) [.v (.lst ds), s1, .no, s3, s4, .no, .no, .no] = .ret (.lst (ds.map rp)) := fun s1 s3 s4 => by
    refine eComp_all (F := id) (g := rp) (xs := ds) (by rw [List.map_id]; rfl) (lines (by omega)) rfl fun d hd => ⟨_, rfl, ?_⟩
    show (M.ret [d] >>= arg1 reprBM) = _
    rw [ret_bind, x_arg1, (h d hd).1]
  have hp : ∀ (s1 : Slot), (eComp [2] (iSeq (eV 0)) (tgN 2) eYes (eCall m__law_by_position (eCons (eV 2) eNil))) [.v (.lst ds), s1, .no, .no, .no, .no, .no, .no] = .ret (.lst (ds.map fun d => .lst (objs d))) := fun s1 => by
    refine eComp_all (F := id) (g := fun d => .lst (objs d)) (xs := ds) (by rw [List.map_id]; rfl) (lines (by omega)) rfl fun d hd => ⟨_, rfl, ?_⟩
    show (M.ret [d] >>= m__law_by_position) = _
    rw [ret_bind, by_pos]
  have hk : ∀ (s1 : Slot), (eComp [2] (iSeq (eV 0)) (tgN 2) eYes (eCall m__law_by_keyword (eCons (eV 2) eNil))) [.v (.lst ds), s1, .no, .no, .no, .no, .no, .no] = .ret (.lst (ds.map fun d => .lst (objs d))) := fun s1 => by
    refine eComp_all (F := id) (g := fun d => .lst (objs d)) (xs := ds) (by rw [List.map_id]; rfl) (lines (by omega)) rfl fun d hd => ⟨_, rfl, ?_⟩
    show (M.ret [d] >>= m__law_by_keyword) = _
    rw [ret_bind, by_key]
  have hts : okD 64 (.lst (ds.map rp)) = true := (okD_all (k := 63) fun d hd => by
    obtain ⟨x, hx, rfl⟩ := List.mem_map.mp hd
    exact (h x hx).2).1
  show runM (b__law_holds [.v (.lst ds), .no, .no, .no, .no, .no, .no, .no]) = _
  unfold b__law_holds
  rw [set_run (hr .no .no .no)]
  have hg : (e2 addM (eComp [2] (iSeq (eV 0)) (tgN 2) eYes (eCall m__law_by_position (eCons (eV 2) eNil))) (eComp [2] (iSeq (eV 0)) (tgN 2) eYes (eCall m__law_by_keyword (eCons (eV 2) eNil)))) [.v (.lst ds), .v (.lst (ds.map rp)), .no, .no, .no, .no, .no, .no] = .ret (.lst ((ds ++ ds).map fun d => .lst (objs d))) := by
    rw [x_e2, hp, ret_bind, hk, ret_bind, x_addL, if_pos (lines (by simp only [List.length_map]; omega)), List.map_append]
  show runM (sSeq (sSet 3 _) _ [.v (.lst ds), .v (.lst (ds.map rp)), .no, .no, .no, .no, .no, .no]) = _
  rw [set_run hg]
  show runM (sSeq (sFor _ _ _) _ [.v (.lst ds), .v (.lst (ds.map rp)), .no, .v (.lst ((ds ++ ds).map fun d => .lst (objs d))), .no, .no, .no, .no]) = _
  have hit : (iCall rng1M (eCons (eCall (arg1 lenM) (eCons (eV 3) eNil)) eNil)) [.v (.lst ds), .v (.lst (ds.map rp)), .no, .v (.lst ((ds ++ ds).map fun d => .lst (objs d))), .no, .no, .no, .no] = .ret ((List.range' 0 (ds ++ ds).length).map fun (j : Nat) => D.int j) := by
    show rng1M [.int ((ds ++ ds).map fun d => D.lst (objs d)).length] = _
    rw [List.length_map, rng1_ok (lines (by rw [List.length_append]; omega))]
  have hfor := for_inv (tg := tgN 4) (b := (sSeq (sIf (eTest (e2 neM (eComp [5] (iSeq (e2 ixM (eV 3) (eV 4))) (tgN 5) eYes (eCall m__law_matches (eCons (eV 5) eNil))) (eComp [6] (iCall rng1M (eCons (eC (.int 10)) eNil)) (tgN 6) eYes (eLst (eCons (eV 6) eNil))))) (sRet (eC (.bl false))) sSkip)
    (sIf (eTest (e2 neM (eComp [7] (iSeq (eCall m__law_fields (eCons (e2 ixM (eV 3) (eV 4)) eNil))) (tgN 7) (eTest (e2 neM (eCall (arg1 reprBM) (eCons (eV 7) eNil)) (e2 ixM (eV 1) (e2 modM (eCall (arg1 intM) (eCons (eV 4) eNil)) (eCall (arg1 lenM) (eCons (eV 0) eNil)))))) (eV 7)) (eLst eNil))) (sRet (eC (.bl false))) sSkip))) (fun (j : Nat) => D.int j) (fun _ e => ∃ s4, e = [.v (.lst ds), .v (.lst (ds.map rp)), .no, .v (.lst ((ds ++ ds).map fun d => .lst (objs d))), s4, .no, .no, .no]) hit ⟨.no, rfl⟩ ?_
  · obtain ⟨e', h1, s4, rfl⟩ := hfor
    rw [seq_run h1, x_ret]
    have : (e2 eqM (eComp [2] (iSeq (eV 0)) (tgN 2) eYes (eCall (arg1 reprBM) (eCons (eV 2) eNil))) (eV 1)) [.v (.lst ds), .v (.lst (ds.map rp)), .no, .v (.lst ((ds ++ ds).map fun d => .lst (objs d))), s4, .no, .no, .no] = .ret (.bl true) := by
      rw [x_e2, hr, ret_bind]
      show eqM (.lst (ds.map rp)) (.lst (ds.map rp)) = _
      exact (PD.eq_self hts).1
    rw [this]
    rfl
  · rintro q i _ hq ⟨s4, rfl⟩
    have hi : i = q ∧ q < (ds ++ ds).length := by
      obtain ⟨hlt, e⟩ := List.getElem?_eq_some_iff.mp hq
      rw [List.getElem_range'] at e
      rw [List.length_range'] at hlt
      exact ⟨by omega, hlt⟩
    obtain ⟨rfl, hlt⟩ := hi
    have hn : ds.length ≠ 0 := fun z => by
      rw [List.length_append, z] at hlt
      omega
    have hm : i % ds.length < ds.length := Nat.mod_lt _ (by omega)
    obtain ⟨d, hd⟩ : ∃ d, d = ds[i % ds.length] := ⟨_, rfl⟩
    have hdm : d ∈ ds := hd ▸ List.getElem_mem hm
    have hgi : ((ds ++ ds).map fun d => D.lst (objs d))[i]'(by rw [List.length_map]; exact hlt) = .lst (objs d) := by
      rw [List.getElem_map, hd]
      congr 2
      rw [List.getElem_append]
      split
      · rename_i hh
        congr 1
        rw [Nat.mod_eq_of_lt hh]
      · rename_i hh
        congr 1
        rw [List.length_append] at hlt
        rw [Nat.mod_eq_sub_mod (by omega), Nat.mod_eq_of_lt (by omega)]
    have hix : ixM (.lst ((ds ++ ds).map fun d => .lst (objs d))) (.int i) = .ret (.lst (objs d)) := by
      rw [ix_seqV (xs := (ds ++ ds).map fun d => .lst (objs d)) rfl (by rw [List.length_map]; exact hlt), hgi]
    have hit2 : ixM (.lst (ds.map rp)) (.int ((i % ds.length : Nat) : Int)) = .ret (rp d) := by
      rw [ix_seqV (xs := ds.map rp) rfl (by rw [List.length_map]; exact hm), List.getElem_map, hd]
    refine ⟨_, [.v (.lst ds), .v (.lst (ds.map rp)), .no, .v (.lst ((ds ++ ds).map fun d => .lst (objs d))), .v (.int i), .no, .no, .no], rfl, ?_, ⟨_, rfl⟩⟩
    show sSeq (sIf _ _ _) _ [.v (.lst ds), .v (.lst (ds.map rp)), .no, .v (.lst ((ds ++ ds).map fun d => .lst (objs d))), .v (.int i), .no, .no, .no] = _
    rw [seq_run (if_no (c := eTest _) ?_)]
    · refine if_no ?_
      rw [x_test, x_e2]
      have hc2 : (eComp [7] (iSeq (eCall m__law_fields (eCons (e2 ixM (eV 3) (eV 4)) eNil))) (tgN 7) (eTest (e2 neM (eCall (arg1 reprBM) (eCons (eV 7) eNil)) (e2 ixM (eV 1) (e2 modM (eCall (arg1 intM) (eCons (eV 4) eNil)) (eCall (arg1 lenM) (eCons (eV 0) eNil)))))) (eV 7)) [.v (.lst ds), .v (.lst (ds.map rp)), .no, .v (.lst ((ds ++ ds).map fun d => .lst (objs d))), .v (.int i), .no, .no, .no] = .ret (.lst (((List.replicate 10 d).filter fun _ => false).map id)) := by
        refine eComp_map (F := id) (c := fun _ => false) (g := id) (xs := List.replicate 10 d) ?_ (lines (by simp)) rfl fun x hx => ⟨_, rfl, ?_, fun z => by cases z⟩
        · show ((ixM (.lst ((ds ++ ds).map fun d => .lst (objs d))) (.int i) >>= fun x => M.ret [x]) >>= m__law_fields) >>= itemsM = _
          rw [hix, ret_bind, ret_bind, fields_ok, ret_bind, List.map_id]
          rfl
        · obtain rfl := (List.mem_replicate.mp hx).2
          show ((reprBM x) >>= fun r => (modM (.int i) (.int ds.length) >>= fun k => ixM (.lst (ds.map rp)) k) >>= fun y => neM r y) >>= boolM = _
          rw [(h x hdm).1, ret_bind, x_mod, if_pos (by omega), ret_bind, ← Int.natCast_emod, hit2, ret_bind, x_neSS]
          simp
      rw [hc2, ret_bind]
      rfl
    · rw [x_test, x_e2]
      have hc : (eComp [5] (iSeq (e2 ixM (eV 3) (eV 4))) (tgN 5) eYes (eCall m__law_matches (eCons (eV 5) eNil))) [.v (.lst ds), .v (.lst (ds.map rp)), .no, .v (.lst ((ds ++ ds).map fun d => .lst (objs d))), .v (.int i), .no, .no, .no] = .ret (.lst ((List.range' 0 10).map fun (j : Nat) => D.lst [.int j])) := by
        rw [x_ecomp]
        have : iSeq (e2 ixM (eV 3) (eV 4)) [.v (.lst ds), .v (.lst (ds.map rp)), .no, .v (.lst ((ds ++ ds).map fun d => .lst (objs d))), .v (.int i), .no, .no, .no] = .ret (objs d) := by
          show (ixM (.lst ((ds ++ ds).map fun d => .lst (objs d))) (.int i) >>= itemsM) = _
          rw [hix]
          rfl
        rw [this, ret_bind, if_pos ⟨lines (by simp), rfl⟩]
        show noR (compM (tgN 5) eYes (eCall m__law_matches (eCons (eV 5) eNil)) [.v (.lst ds), .v (.lst (ds.map rp)), .no, .v (.lst ((ds ++ ds).map fun d => .lst (objs d))), .v (.int i), .no, .no, .no] (objs d)) >>= _ = _
        rw [matches_ok, ret_bind]
      rw [hc, ret_bind]
      kernel_rfl
end K05

set_option Elab.async false
set_option linter.all false
set_option maxRecDepth 100000
set_option maxHeartbeats 1000000
set_option exponentiation.threshold 5000
namespace K05
open PySem PD
def gB (d : D) : Bool := okR 60 d && shB (toPz d) && decide ((toPz d).shown.length ≤ line) && strOkD (toPz d).shown
theorem gC {d : D} (h : gB d = true) : G d := by
  unfold gB at h
  simp only [Bool.and_eq_true, decide_eq_true_eq] at h
  obtain ⟨⟨⟨h1, h2⟩, h3⟩, h4⟩ := h
  exact ⟨if_pos ⟨h1, h2, h3⟩, h4⟩
theorem gK {d : D} (h1 : okR 60 d = true) (h2 : okT d = true) (h3 : wl d ≤ line) (h4 : okS d = true) : G d := ⟨reprBM_ok h1 h2 h3, sg_shown d h4⟩
abbrev great : Int := 10 ^ 960
abbrev conts (k : D) : List D := [.non, .bl false, .bl true, .int 0, k, .int great, .int (0 - great), .str ("" : Str), .str ("a" : Str), .tup [], .lst [], .tup [.str ("rows" : Str)], .tup [.str ("row" : Str), k], .tup [.str ("r" : Str), .str ("e" : Str), .tup [.int 1, .int 2]],
  .tup [.bl true, .str ("a" : Str), .bl false], .lst [.lst [.bl true], .int 1], .tup [.int 0, .lst [.bl false]], .lst [.int 3, .int 1, .int 2], .lst [.lst [.int 2], .lst [.int 1]], .lst [.int 1, .lst [k]], .tup [.str ("" : Str), .int great],
  .tup [.non], .tup [.tup [], .lst []], .str ("{0}" : Str), .tup [.str ("{x}" : Str), .int 1, .int 2], .dct [], .dct [(.str ("a" : Str), .lst [k])], .lst (List.replicate 150 k), .str ⟨(List.replicate 200 ("row " : Str).cps).foldl (· ++ ·) #[]⟩, .str ("one " : Str),
  .dct [(.int 1, .int 0), (.str ("a" : Str), .non)], .tup ((List.replicate 200 [.str ("r" : Str), .str ("s" : Str)]).flatten), .str ("\n" : Str)]
theorem contents_ok : m__law_contents [.src] = .draw (10 ^ 9) fun i => .ret (.lst (conts (.int i))) := by kernel_rfl
theorem wls_rep {d : D} {w : Nat} (h : wl d ≤ w) : ∀ n : Nat, wls (List.replicate n d) ≤ n * (w + 2)
  | 0 => Nat.zero_le _
  | n + 1 => by
    have := wls_rep h n
    rw [List.replicate_succ]
    unfold wls
    rw [Nat.add_mul]
    omega
theorem all_rep {d : D} : ∀ n : Nat, (okR 59 d = true → okRs 59 (List.replicate n d) = true) ∧ (okT d = true → okTs (List.replicate n d) = true) ∧ (okS d = true → okSs (List.replicate n d) = true)
  | 0 => ⟨fun _ => rfl, fun _ => rfl, fun _ => rfl⟩
  | n + 1 => by
    obtain ⟨a, b, c⟩ := all_rep (d := d) n
    rw [List.replicate_succ]
    exact ⟨fun h => by unfold okRs; rw [h, a h]; rfl, fun h => by unfold okTs; rw [h, b h]; rfl, fun h => by unfold okSs; rw [h, c h]; rfl⟩
/-! the great ones -/
theorem great_len : (Str.ofString (toString great)).length ≤ 2000 := by
  rw [ofString_length]
  have := int_text_length_le10 (a := great) (k := 1000) (by decide) (by decide +kernel)
  omega
theorem great_len2 : (Str.ofString (toString (0 - great))).length ≤ 2000 := by
  rw [ofString_length]
  have := int_text_length_le10 (a := 0 - great) (k := 1000) (by decide) (by decide +kernel)
  omega
theorem g_great : G (.int great) := ⟨if_pos ⟨rfl, by unfold toPz shB; exact decide_eq_true (by decide +kernel), by unfold toPz; simp only [PyData.shown]; exact Nat.le_trans great_len (lines (by omega))⟩, sg_shown _ rfl⟩
theorem g_great2 : G (.int (0 - great)) := ⟨if_pos ⟨rfl, by unfold toPz shB; exact decide_eq_true (by decide +kernel), by unfold toPz; simp only [PyData.shown]; exact Nat.le_trans great_len2 (lines (by omega))⟩, sg_shown _ rfl⟩
theorem g_pair : G (.tup [.str ("" : Str), .int great]) := by
  refine ⟨if_pos ⟨rfl, ?_, ?_⟩, sg_shown _ (by simp only [okS, okSs, Bool.and_true]; decide +kernel)⟩
  · unfold toPz toPzs toPzs toPzs toPz shB shBs shBs shBs shB
    rw [Bool.true_and, Bool.and_true]
    exact decide_eq_true (by decide +kernel)
  · have e : (toPz (.tup [.str ("" : Str), .int great])).shown = tupleText [reprText ("" : Str), Str.ofString (toString great)] := rfl
    rw [e]
    unfold tupleText
    rw [strLen_append, strLen_append]
    have h1 := join_len [reprText ("" : Str), Str.ofString (toString great)]
    have h2 := great_len
    have h3 : (reprText ("" : Str)).length = 2 := by decide +kernel
    have h4 : ("(" : Str).length = 1 := by decide +kernel
    have h5 : (((if ([reprText ("" : Str), Str.ofString (toString great)].length == 1) = true then ",)" else ")" : String)) : Str).length = 1 := by
      show (Str.ofString ")").length = 1
      decide +kernel
    have h6 : piled [reprText ("" : Str), Str.ofString (toString great)] = (reprText ("" : Str)).length + 2 + ((Str.ofString (toString great)).length + 2 + 0) := by
      rw [piled_cons, piled_cons]
      rfl
    refine Nat.le_trans ?_ (lines (n := 5000) (by omega))
    omega
/-! a text many times -/
theorem mem_fold {p : Nat → Prop} : ∀ (l : List (Array Nat)) (acc : Array Nat), (∀ c ∈ acc.toList, p c) → (∀ a ∈ l, ∀ c ∈ a.toList, p c) → ∀ c ∈ (l.foldl (· ++ ·) acc).toList, p c
  | [], _, h, _ => h
  | a :: l, acc, h, hl => mem_fold l (acc ++ a) (fun c hc => by
      rw [Array.toList_append] at hc
      rcases List.mem_append.mp hc with z | z
      · exact h c z
      · exact hl a List.mem_cons_self c z) fun b hb => hl b (List.mem_cons_of_mem _ hb)
abbrev rowT : Str := ⟨(List.replicate 200 ("row " : Str).cps).foldl (· ++ ·) #[]⟩
theorem row_mem : ∀ c ∈ rowT.cps.toList, c ∈ [114, 111, 119, 32] := mem_fold _ _ (fun c h => by cases h) fun a ha => by
  rw [(List.mem_replicate.mp ha).2]
  decide +kernel
theorem row_len : rowT.length = 800 := by
  show ((List.replicate 200 ("row " : Str).cps).foldl (· ++ ·) #[]).size = 800
  rw [foldl_size _ _ 4 fun x hx => by rw [(List.mem_replicate.mp hx).2]; decide +kernel, List.length_replicate]
  rfl
theorem sg_fold (q : Nat) : ∀ (l : List Nat) (acc : Array Nat), (∀ c ∈ l, ((Builtin.Str.reprChar q c).all fun d => decide (d < 1114112)) = true) → (acc.all fun d => decide (d < 1114112)) = true → ((l.foldl (fun out c => out ++ (Builtin.Str.reprChar q c).toArray) acc).all fun d => decide (d < 1114112)) = true
  | [], _, _, h => h
  | c :: l, acc, h, ha => sg_fold q l _ (fun d hd => h d (List.mem_cons_of_mem _ hd)) (by
      rw [Array.all_append, ha, List.all_toArray, h c List.mem_cons_self]
      rfl)
theorem sg_row {x : Str} (hm : ∀ c ∈ x.cps.toList, c ∈ [114, 111, 119, 32]) : strOkD (reprText x) = true := by
  have hq : ∀ q, q = 34 ∨ q = 39 → ((q : Nat) < 1114112) ∧ ∀ c ∈ x.cps.toList, ((Builtin.Str.reprChar q c).all fun d => decide (d < 1114112)) = true := fun q hq => by
    refine ⟨by omega, fun c hc => ?_⟩
    have := hm c hc
    simp only [List.mem_cons, List.not_mem_nil, or_false] at this
    rcases hq with rfl | rfl <;> rcases this with rfl | rfl | rfl | rfl <;> decide +kernel
  have h39 : reprQuote x = 34 ∨ reprQuote x = 39 := by
    unfold reprQuote
    split
    · exact .inl rfl
    · exact .inr rfl
  obtain ⟨h1, h2⟩ := hq _ h39
  unfold strOkD reprText
  show ((x.cps.foldl (fun out c => out ++ (Builtin.Str.reprChar (reprQuote x) c).toArray) #[reprQuote x]).push (reprQuote x)).all _ = true
  rw [← Array.foldl_toList, Array.all_push, sg_fold _ _ _ h2 (by simp [h1]), decide_eq_true h1]
  rfl
theorem g_rows {x : Str} (hm : ∀ c ∈ x.cps.toList, c ∈ [114, 111, 119, 32]) (hl : x.length = 800) : G (.str x) := gK rfl (by
    unfold okT
    exact List.all_eq_true.mpr fun c hc => decide_eq_true (by
      have := hm c hc
      simp only [List.mem_cons, List.not_mem_nil, or_false] at this
      omega)) (by unfold wl; rw [hl]; exact lines (by omega)) (by unfold okS; exact sg_row hm)
theorem g_row : G (.str rowT) := g_rows row_mem row_len
end K05

set_option Elab.async false
set_option linter.all false
set_option maxRecDepth 100000
set_option maxHeartbeats 1000000
set_option exponentiation.threshold 5000
namespace K05
open PySem PD
theorem conts_G {k : Int} (h0 : 0 ≤ k) (h1 : k < 10 ^ 9) : ∀ d ∈ conts (.int k), G d := by
  have hlog : k.natAbs.log2 < 31 := by
    by_cases hz : k.natAbs = 0
    · rw [hz]; decide
    · exact (Nat.log2_lt hz).mpr (by omega)
  have hT : okT (.int k) = true := by unfold okT; exact decide_eq_true (by omega)
  have hd : decide (k.natAbs.log2 < 1920) = true := decide_eq_true (by omega)
  have hw : wl (.int k) ≤ 32 := by unfold wl; omega
  refine List.forall_mem_cons.mpr ⟨gC (by decide +kernel), ?_⟩
  refine List.forall_mem_cons.mpr ⟨gC (by decide +kernel), ?_⟩
  refine List.forall_mem_cons.mpr ⟨gC (by decide +kernel), ?_⟩
  refine List.forall_mem_cons.mpr ⟨gC (by decide +kernel), ?_⟩
  refine List.forall_mem_cons.mpr ⟨gK rfl hT (lines (by omega)) rfl, ?_⟩
  refine List.forall_mem_cons.mpr ⟨g_great, ?_⟩
  refine List.forall_mem_cons.mpr ⟨g_great2, ?_⟩
  refine List.forall_mem_cons.mpr ⟨gC (by decide +kernel), ?_⟩
  refine List.forall_mem_cons.mpr ⟨gC (by decide +kernel), ?_⟩
  refine List.forall_mem_cons.mpr ⟨gC (by decide +kernel), ?_⟩
  refine List.forall_mem_cons.mpr ⟨gC (by decide +kernel), ?_⟩
  refine List.forall_mem_cons.mpr ⟨gC (by decide +kernel), ?_⟩
  refine List.forall_mem_cons.mpr ⟨gK rfl (by simp only [okT, okTs, hd, Bool.and_true]; decide +kernel) (lines (by simp only [wl, wls] at hw ⊢; have : ("row" : Str).length = 3 := (by decide +kernel); omega)) (by simp only [okS, okSs, Bool.and_true]; decide +kernel), ?_⟩
  refine List.forall_mem_cons.mpr ⟨gC (by decide +kernel), ?_⟩
  refine List.forall_mem_cons.mpr ⟨gC (by decide +kernel), ?_⟩
  refine List.forall_mem_cons.mpr ⟨gC (by decide +kernel), ?_⟩
  refine List.forall_mem_cons.mpr ⟨gC (by decide +kernel), ?_⟩
  refine List.forall_mem_cons.mpr ⟨gC (by decide +kernel), ?_⟩
  refine List.forall_mem_cons.mpr ⟨gC (by decide +kernel), ?_⟩
  refine List.forall_mem_cons.mpr ⟨gK rfl (by simp only [okT, okTs, hd, Bool.and_true]; decide +kernel) (lines (by simp only [wl, wls] at hw ⊢; have : (1 : Int).natAbs.log2 = 0 := (by decide +kernel); omega)) rfl, ?_⟩
  refine List.forall_mem_cons.mpr ⟨g_pair, ?_⟩
  refine List.forall_mem_cons.mpr ⟨gC (by decide +kernel), ?_⟩
  refine List.forall_mem_cons.mpr ⟨gC (by decide +kernel), ?_⟩
  refine List.forall_mem_cons.mpr ⟨gC (by decide +kernel), ?_⟩
  refine List.forall_mem_cons.mpr ⟨gC (by decide +kernel), ?_⟩
  refine List.forall_mem_cons.mpr ⟨gC (by decide +kernel), ?_⟩
  refine List.forall_mem_cons.mpr ⟨gK rfl (by simp only [okT, okTs, okTk, hd, Bool.and_true]; decide +kernel) (lines (by simp only [wl, wls, wlk] at hw ⊢; have : ("a" : Str).length = 1 := (by decide +kernel); omega)) (by simp only [okS, okSs, okSk, Bool.and_true]; decide +kernel), ?_⟩
  refine List.forall_mem_cons.mpr ⟨gK (by unfold okR; exact (all_rep (d := .int k) 150).1 rfl) (by unfold okT; exact (all_rep (d := .int k) 150).2.1 hT) (lines (by unfold wl; have b := wls_rep hw 150; omega)) (by unfold okS; exact (all_rep (d := .int k) 150).2.2 rfl), ?_⟩
  refine List.forall_mem_cons.mpr ⟨g_row, ?_⟩
  refine List.forall_mem_cons.mpr ⟨gC (by decide +kernel), ?_⟩
  refine List.forall_mem_cons.mpr ⟨gC (by decide +kernel), ?_⟩
  refine List.forall_mem_cons.mpr ⟨gK (by decide +kernel) (by decide +kernel) (by decide +kernel) (by decide +kernel), ?_⟩
  refine List.forall_mem_cons.mpr ⟨gC (by decide +kernel), ?_⟩
  exact fun _ h => by cases h
@[irreducible] def contsD (k : D) : D := .lst (conts k)
theorem contsD_eq (k : D) : contsD k = .lst (conts k) := by unfold contsD; rfl
theorem contents_ok' : m__law_contents [.src] = .draw (10 ^ 9) fun i => .ret (contsD (.int i)) := by
  rw [contents_ok]
  congr 1
  funext i
  rw [contsD_eq]
theorem conts_holds {i : Int} (h0 : 0 ≤ i) (h1 : i < 10 ^ 9) : m__law_holds [contsD (.int i)] = .ret (.bl true) := by
  rw [contsD_eq]
  exact holds_ok (conts_G h0 h1) (Nat.le_of_ble_eq_true rfl)
end K05

set_option Elab.async false
set_option linter.all false
set_option maxRecDepth 100000
set_option maxHeartbeats 1000000
set_option exponentiation.threshold 5000
namespace K05
open PySem PD
theorem held_ok : m__law_held_holds [] = .ret (.bl true) := by kernel_rfl
abbrev texts : List D := [.str ("a" : Str), .str ("row r" : Str), .str ("Not found." : Str), .str ("{x}" : Str), .str ("0" : Str)]
def simpleD : D := match m__law_simple [.str ("a" : Str)] with
  | .ret d => d
  | _ => .non
theorem end_ok (e : PD.Env) (he : getV e 1 = .ret .src) : Rn (sRet (eAndV (eCall m__law_held_holds eNil) (eCall m__law_holds (eCons (eCall m__law_contents (eCons (eV 1) eNil)) eNil))) e) 1 (fun r => r.1 = .rt (.bl true)) noX := by
  rw [x_ret]
  have e1 : (eAndV (eCall m__law_held_holds eNil) (eCall m__law_holds (eCons (eCall m__law_contents (eCons (eV 1) eNil)) eNil))) e = (M.draw (10 ^ 9) fun i => m__law_holds [contsD (.int i)]) := by
    rw [x_andV, x_call, x_nil, ret_bind, held_ok, ret_bind, x_bool, ret_bind, if_pos rfl, x_call, x_cons, x_call, x_cons, x_eV, he, ret_bind, x_nil, ret_bind, ret_bind, contents_ok']
    rfl
  rw [e1]
  refine Rn.tryB (k := 1) (j := 0) (χ := noX) (φ := fun d => d = .bl true) (Rn.draw (k := 0) (by decide) (by decide +kernel) fun i a b => ?_) (fun d e => .ret (by rw [e])) fun _ _ z => z.elim
  rw [conts_holds a b]
  exact .ret rfl
theorem law_ok : AllB (b_law e_law) (2 ^ 399) lawP noE := by
  refine law_of (k := 2) ?_ (by decide)
  unfold b_law
  refine Rn.set (k := 1) (j := 1) (φ := fun d => d ∈ texts) (choose_ok (xs := texts) (ed := .lst texts) rfl (by decide) (by decide)) fun d hd => ?_
  have key : ∀ t : D, t ∈ texts → Rn (sRet (eAndV (eCall m__law_held_holds eNil) (eCall m__law_holds (eCons (eCall m__law_contents (eCons (eV 1) eNil)) eNil))) [.no, .v .src, .v t, .v simpleD, .v (.obj 0 []), .no]) 1 (fun r => r.1 = .rt (.bl true)) noX := fun t _ => end_ok _ rfl
  have hd2 := hd
  simp only [texts, List.mem_cons, List.not_mem_nil, or_false] at hd
  rcases hd with rfl | rfl | rfl | rfl | rfl
  · refine Rn.nxt (e' := [.no, .v .src, .v (.str ("a" : Str)), .v simpleD, .no, .no]) (by kernel_rfl) ?_
    refine Rn.nxt (e' := [.no, .v .src, .v (.str ("a" : Str)), .v simpleD, .v (.obj 0 []), .no]) (by kernel_rfl) ?_
    exact key _ hd2
  · refine Rn.nxt (e' := [.no, .v .src, .v (.str ("row r" : Str)), .v simpleD, .no, .no]) (by kernel_rfl) ?_
    refine Rn.nxt (e' := [.no, .v .src, .v (.str ("row r" : Str)), .v simpleD, .v (.obj 0 []), .no]) (by kernel_rfl) ?_
    exact key _ hd2
  · refine Rn.nxt (e' := [.no, .v .src, .v (.str ("Not found." : Str)), .v simpleD, .no, .no]) (by kernel_rfl) ?_
    refine Rn.nxt (e' := [.no, .v .src, .v (.str ("Not found." : Str)), .v simpleD, .v (.obj 0 []), .no]) (by kernel_rfl) ?_
    exact key _ hd2
  · refine Rn.nxt (e' := [.no, .v .src, .v (.str ("{x}" : Str)), .v simpleD, .no, .no]) (by kernel_rfl) ?_
    refine Rn.nxt (e' := [.no, .v .src, .v (.str ("{x}" : Str)), .v simpleD, .v (.obj 0 []), .no]) (by kernel_rfl) ?_
    exact key _ hd2
  · refine Rn.nxt (e' := [.no, .v .src, .v (.str ("0" : Str)), .v simpleD, .no, .no]) (by kernel_rfl) ?_
    refine Rn.nxt (e' := [.no, .v .src, .v (.str ("0" : Str)), .v simpleD, .v (.obj 0 []), .no]) (by kernel_rfl) ?_
    exact key _ hd2
end K05

set_option Elab.async false
set_option linter.all false
set_option maxRecDepth 100000
set_option maxHeartbeats 0
namespace K05
open PySem PySem.Spec PyProof.Rows L2 PDL PD
abbrev R : PySem.W.OpenRow := PySem.W.OpenLaw.row PySem.Challenge.rw_patterncounts_k05_error_classes
abbrev hk : PySem.W.Hook := hookQ 6 cks fns tabs
def ob (s : PySem.W.SharedT) : AlQ := obsQG 6 cks fns tabs (HandSHeadRun.getT s)
theorem ob_eq (s : PySem.W.SharedT) : ob s = hk.obs s.abs := obsQG_eq (HandSHeadRun.getT_eq s)
def names0 : List PySem.Str := [("CountError" : PySem.Str), ("InvalidBound" : PySem.Str), ("InvalidChoice" : PySem.Str), ("InvalidDeed" : PySem.Str), ("InvalidDeeds" : PySem.Str), ("InvalidEdge" : PySem.Str), ("InvalidGraph" : PySem.Str), ("InvalidGrouping" : PySem.Str), ("InvalidKnown" : PySem.Str), ("InvalidName" : PySem.Str), ("InvalidNode" : PySem.Str), ("InvalidNodes" : PySem.Str), ("InvalidPattern" : PySem.Str), ("InvalidPins" : PySem.Str), ("InvalidSize" : PySem.Str), ("InvalidTerms" : PySem.Str), ("InvalidText" : PySem.Str), ("KnownTitle" : PySem.Str), ("NotImplied" : PySem.Str), ("NothingToRedo" : PySem.Str)]
def names1 : List PySem.Str := [("NothingToUndo" : PySem.Str), ("TooLarge" : PySem.Str), ("TooMany" : PySem.Str), ("UnknownAsker" : PySem.Str), ("UnknownTitle" : PySem.Str), ("_law_source" : PySem.Str), ("_law_draw" : PySem.Str), ("_law_pick" : PySem.Str), ("_law_matches" : PySem.Str), ("_law_simple" : PySem.Str), ("_law_empty" : PySem.Str), ("_law_by_position" : PySem.Str), ("_law_by_keyword" : PySem.Str), ("_law_fields" : PySem.Str), ("_law_contents" : PySem.Str), ("_law_held_holds" : PySem.Str), ("_law_holds" : PySem.Str)]
abbrev names : List PySem.Str := K05.names0 ++ K05.names1
theorem run0 (w : World) : HandSHeadRun.RunEq R (PySem.W.view R.prog [39]) hk ob 8000 names (w.withFollow "special-get-raises" false) := by
  intro os
  kernel_rfl
theorem run1 (w : World) : HandSHeadRun.RunEq R (PySem.W.view R.prog [39]) hk ob 8000 names (w.withFollow "special-get-raises" true) := by
  intro os
  kernel_rfl
theorem run (w : World) : HandSHeadRun.RunEq R (PySem.W.view R.prog [39]) hk ob 8000 names w := PySem.W.byRow2 "special-get-raises" (P := fun w => HandSHeadRun.RunEq R (PySem.W.view R.prog [39]) hk ob 8000 names w) run0 run1 w
theorem facts {P : Program} {w : World} {K : PySem.W.Frag} {h : Heap} {mg : Str → Option Value} {f : Addr} (X : K.In h) (G : h.Ns mainGlobals mg) (hfa : mg ("law" : Str) = some (.ref f)) (O : ProgOk P) (c : SaysQ cks fns tabs w K) :
    ∃ fd : FuncData, (∀ (s : Shared) (v : Value), BindsTo s fd ⟨[v], []⟩ [("_law_script", v)]) ∧ ∀ base : Heap, K.In base → base.Ns mainGlobals mg → FnG P w K mg base (L2.CX P w) 5 f fd ["_law_script"] (SpLaw K) := by
  have Z : TopT P K w mg cks fns tabs := .of O X G c
  obtain ⟨fd, F⟩ := Z.fn 22
  have e := hfa.symm.trans (zg_law Z)
  cases e
  have b := FunD.bindsA (ps := ["_law_script"]) F fun _ _ _ _ _ _ us hl => match us, hl with | [_], _ => rfl
  exact ⟨fd, fun s v => b s [v] rfl, fun base _ _ => ok_law Z (FunT.of F) law_ok⟩
end K05
open PySem PySem.W PySem.Calls PyProof.Rows
theorem PySem.Challenge.cw_patterncounts_k05_error_classes_holds : PySem.Challenge.rw_patterncounts_k05_error_classes.Holds := by
  w_on; o_law
  refine HandSHeadRun.head_any (r := OpenLaw.row PySem.Challenge.rw_patterncounts_k05_error_classes) (q := view (OpenLaw.row PySem.Challenge.rw_patterncounts_k05_error_classes).prog [39]) (H := K05.hk) (ob := K05.ob) (M := 8000) (loose := K05.names) (d := HandSHeadRun.topDef (OpenLaw.row PySem.Challenge.rw_patterncounts_k05_error_classes).prog 39) (kwd := []) K05.ob_eq
    (by kernel_rfl) (fun s => by kernel_rfl) K05.run (by kernel_rfl) (by kernel_rfl) (by kernel_rfl) (by rfl) (by first | assumption | decide +kernel) (by decide +kernel) ⟨rfl, rfl, rfl, rfl, rfl, by decide +kernel⟩ ?hw ?hc
  case hw => w_witness2
  case hc =>
    refine PDL.walk_ofP (l := PySem.Challenge.rw_patterncounts_k05_error_classes) (n := 63) (k := 5) (x := "_law_script") (CX := fun w => L2.CX (PySem.Challenge.rw_patterncounts_k05_error_classes).prog w) rfl (by decide) (by kernel_rfl) ⟨rfl, by decide, by decide⟩ ?F (fun _ _ _ _ _ h => by
      obtain ⟨_, _, _, _, _, _, _, _, _, _, _, _, z⟩ := h
      exact z.elim)
    intro w mg fa h Y G hmg0
    obtain ⟨K, KX, c⟩ := Y
    have hmg : mg ("law" : PySem.Str) = some (.ref fa) := by
      have e : (HandSHeadRun.topDef (OpenLaw.row PySem.Challenge.rw_patterncounts_k05_error_classes).prog 39).name = ("law" : PySem.Str) := by kernel_rfl
      rw [← e]
      exact hmg0
    obtain ⟨fd, hb, hF⟩ := K05.facts (P := (PySem.Challenge.rw_patterncounts_k05_error_classes).prog) (w := w) KX G hmg ⟨by kernel_rfl, by kernel_rfl⟩ c
    exact ⟨K, fd, KX, hb, hF⟩


