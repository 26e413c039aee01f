import PyProof.Rows.All
import PySem.Challenge.RW_chordturn_k27_words_numbered
import HandS.Codes
import HandS.Comp
import HandS.Conv
import HandS.Deep
import HandS.Defaults
import HandS.Dict
import HandS.DictComp
import HandS.EndBits
import HandS.Ends
import HandS.Exc
import HandS.ExcOwn
import HandS.ForDict
import HandS.ForMost
import HandS.Head0
import HandS.Head1
import HandS.Head2
import HandS.HeadEnd
import HandS.HeadHook1
import HandS.HeadHook2
import HandS.HeadHook3
import HandS.HeadWalk
import HandS.IsInst
import HandS.Iter
import HandS.More
import HandS.NoneIn
import HandS.RaiseMore
import HandS.SetFor
import HandS.Strs
import HandS.Style
import HandS.Text
import HandS.TryOnly
import HandS.TupAny
import HandS.TupMul
import HandS.Wide
import HandS.WordsExc
import HandS.Zip
import KE.DataMinMax
import KE.GoesEnum
import KE.GoesMore
import KE.KDictKeyed
import KE.KStateDown
import KE.SortData
import PyProof.EqLayable
import PyProof.ReprLen
import PyProof.ReprReads
import PyProof.ReprText
import PyProof.Rows.StrCountLaw
import Lean
set_option autoImplicit false
set_option Elab.async false
set_option linter.all false
set_option maxRecDepth 100000
set_option maxHeartbeats 0
/-! Fd, part 1: the data semantics. Bodies of defs as functions over slots that hold data. -/
namespace Fd
open PySem
abbrev D := PyData

/-- what a slot holds: nothing, frozen data, a list or dict of its own, one that a caller lent -/
inductive Cell where
  | un
  | sh (d : D)
  | own (d : D)
  | arg (d : D)
/-- what an expression gives: frozen data, a new list or dict, the one of a slot -/
inductive RV where
  | sh (d : D)
  | new (d : D)
  | slot (i : Nat)
structure Exc where
  cls : Str
  fnm : Str
  fld : D
inductive Out (α : Type) where
  | val (a : α)
  | exc (x : Exc)
abbrev Rho := List Cell
abbrev M (α : Type) := Rho → Option (Out α × Rho)
inductive Fl where
  | nx | bk | ct
  | rt (r : RV)

def ret {α : Type} (a : α) : M α := fun ρ => some (.val a, ρ)
def stk {α : Type} : M α := fun _ => none
def thr {α : Type} (x : Exc) : M α := fun ρ => some (.exc x, ρ)
def bnd {α β : Type} (x : M α) (f : α → M β) : M β := fun ρ => match x ρ with
  | none => none
  | some (.exc e, r) => some (.exc e, r)
  | some (.val a, r) => f a r
def opt {α : Type} (o : Option α) : M α := fun ρ => match o with
  | none => none
  | some a => some (.val a, ρ)

/-- the data that a result stands for now -/
def rd : RV → Rho → Option D
  | .sh d, _ => some d
  | .new d, _ => some d
  | .slot i, ρ => match ρ[i]? with
    | some (.sh d) => some d
    | some (.own d) => some d
    | some (.arg d) => some d
    | _ => none
def rds : List RV → Rho → Option (List D)
  | [], _ => some []
  | r :: rs, ρ => match rd r ρ with
    | none => none
    | some d => match rds rs ρ with
      | none => none
      | some ds => some (d :: ds)
/-- a result made frozen -/
def fz : RV → M D
  | .sh d => fun ρ => some (.val d, ρ)
  | .new d => fun ρ => some (.val d, ρ)
  | .slot i => fun ρ => match ρ[i]? with
    | some (.own d) => some (.val d, ρ.set i (.sh d))
    | some (.sh d) => some (.val d, ρ)
    | _ => none
def fzs : List RV → M (List D)
  | [] => ret []
  | r :: rs => bnd (fz r) fun d => bnd (fzs rs) fun ds => ret (d :: ds)

/-! ### expressions -/
def eV (i : Nat) : M RV := fun ρ => match ρ[i]? with
  | some (.sh d) => some (.val (.sh d), ρ)
  | some (.own _) => some (.val (.slot i), ρ)
  | some (.arg _) => some (.val (.slot i), ρ)
  | _ => none
def eC (d : D) : M RV := ret (.sh d)
def eS : List (M RV) → M (List RV)
  | [] => ret []
  | f :: fs => bnd f fun r => bnd (eS fs) fun rs => ret (r :: rs)
/-- an operation's end -/
def fin : Option RV → M RV
  | some (.sh d) => ret (.sh d)
  | some (.new d) => ret (.new d)
  | _ => stk
/-- an operation that changes nothing, upon data -/
def ap2 (op : D → D → Option RV) (a b : RV) : M RV := fun ρ => match rd a ρ with
  | none => none
  | some d => match rd b ρ with
    | none => none
    | some e => fin (op d e) ρ
def ap1 (op : D → Option RV) (a : RV) : M RV := fun ρ => match rd a ρ with
  | none => none
  | some d => fin (op d) ρ
def apN (op : List D → Option RV) (rs : List RV) : M RV := fun ρ => match rds rs ρ with
  | none => none
  | some ds => fin (op ds) ρ
def eB (op : D → D → Option RV) (fa fb : M RV) : M RV := bnd fa fun a => bnd fb fun b => ap2 op a b
def eU (op : D → Option RV) (fa : M RV) : M RV := bnd fa fun a => ap1 op a
def eN (op : List D → Option RV) (fs : List (M RV)) : M RV := bnd (eS fs) fun rs => apN op rs
/-- a test: the value must be a truth value -/
def tst (f : M RV) : M Bool := bnd f fun r ρ => match rd r ρ with
  | some (.bool b) => some (.val b, ρ)
  | _ => none
def eT (t : M Bool) : M RV := bnd t fun b => ret (.sh (.bool b))
def tAnd (a b : M Bool) : M Bool := bnd a fun x => if x then b else ret false
def tOr (a b : M Bool) : M Bool := bnd a fun x => if x then ret true else b
def tNot (a : M Bool) : M Bool := bnd a fun x => ret (!x)
def eAnd (fa fb : M RV) : M RV := bnd (tst fa) fun x => if x then fb else ret (.sh (.bool false))
def eOr (fa fb : M RV) : M RV := bnd (tst fa) fun x => if x then ret (.sh (.bool true)) else fb
def eNot (fa : M RV) : M RV := bnd (tst fa) fun x => ret (.sh (.bool (!x)))
def eIf (t : M Bool) (a b : M RV) : M RV := bnd t fun x => if x then a else b
/-- a chain of two comparisons -/
def eCh (op op' : D → D → Option RV) (fa fb fc : M RV) : M RV := bnd fa fun a => bnd fb fun b => bnd (ap2 op a b) fun r => match r with
  | .sh (.bool true) => bnd fc fun c => ap2 op' b c
  | .sh (.bool false) => ret (.sh (.bool false))
  | _ => stk
/-- a written tuple, a written list: what goes in is frozen -/
def eTup (fs : List (M RV)) : M RV := bnd (eS fs) fun rs => bnd (fzs rs) fun ds => ret (.sh (.tuple ds))
def eLst (fs : List (M RV)) : M RV := bnd (eS fs) fun rs => bnd (fzs rs) fun ds => ret (.new (.list ds))

/-- a part of a slice -/
def ePart : Option (M RV) → M (Option Int)
  | none => ret none
  | some f => bnd f fun r ρ => match rd r ρ with
    | some (.int i) => some (.val (some i), ρ)
    | _ => none
def ap3 (op : D → Option Int → Option Int → Option RV) (a : RV) (lo hi : Option Int) : M RV := fun ρ => match rd a ρ with
  | none => none
  | some d => fin (op d lo hi) ρ
def eSl (op : D → Option Int → Option Int → Option RV) (fa : M RV) (lo hi : Option (M RV)) : M RV := bnd fa fun a => bnd (ePart lo) fun i => bnd (ePart hi) fun j => ap3 op a i j
/-! ### methods -/
def kind : D → Nat
  | .none => 0
  | .bool _ => 1
  | .int _ => 2
  | .str _ => 3
  | .list _ => 4
  | .tuple _ => 5
  | .dict _ => 6
def chk (k : Nat) (o : RV) : M Unit := fun ρ => match rd o ρ with
  | none => none
  | some d => if kind d = k then some (.val (), ρ) else none
/-- a method that changes nothing -/
def eMth (k : Nat) (op : List D → Option RV) (fo : M RV) (fs : List (M RV)) : M RV := bnd fo fun o => bnd (chk k o) fun _ => bnd (eS fs) fun rs => apN op (o :: rs)
/-- a change of the object that a result stands for -/
def chg (ch : D → Option (D × D)) (r : RV) : M RV := fun ρ => match r with
  | .slot i => match ρ[i]? with
    | some (.own d) => (match ch d with
      | some (d', v) => some (.val (.sh v), ρ.set i (.own d'))
      | none => none)
    | some (.arg d) => (match ch d with
      | some (d', v) => some (.val (.sh v), ρ.set i (.arg d'))
      | none => none)
    | _ => none
  | _ => none
def chkO (k : Nat) (o : RV) : M Unit := fun ρ => match o with
  | .slot i => match ρ[i]? with
    | some (.own d) => if kind d = k then some (.val (), ρ) else none
    | some (.arg d) => if kind d = k then some (.val (), ρ) else none
    | _ => none
  | _ => none
def eChg (k : Nat) (ch : List D → D → Option (D × D)) (fo : M RV) (fs : List (M RV)) : M RV := bnd fo fun o => bnd (chkO k o) fun _ => bnd (eS fs) fun rs => bnd (fzs rs) fun ds => chg (ch ds) o

/-! ### calls of defs -/
/-- what a def is: from its arguments to its result and what it leaves of them -/
abbrev Fn := List Cell → Option (Out RV × List Cell)
/-- some results frozen (false), the others as they are -/
def fzMask : List Bool → List RV → M (List RV)
  | [], [] => ret []
  | true :: ms, r :: rs => bnd (fzMask ms rs) fun qs => ret (r :: qs)
  | false :: ms, r :: rs => bnd (fz r) fun d => bnd (fzMask ms rs) fun qs => ret (.sh d :: qs)
  | _, _ => stk
/-- how an argument is handed on -/
def lend1 (ρ : Rho) : RV → Option Cell
  | .sh d => some (.sh d)
  | .new d => some (.arg d)
  | .slot i => match ρ[i]? with
    | some (.own d) => some (.arg d)
    | some (.arg d) => some (.arg d)
    | some (.sh d) => some (.sh d)
    | _ => none
def lendC (ρ : Rho) : List RV → Option (List Cell)
  | [] => some []
  | r :: rs => match lend1 ρ r, lendC ρ rs with
    | some c, some cs => some (c :: cs)
    | _, _ => none
def slotIx : RV → Option Nat
  | .slot i => some i
  | _ => none
/-- what was lent comes back -/
def back1 (i : Nat) (d : D) (ρ : Rho) : Rho := match ρ[i]? with
  | some (.own _) => ρ.set i (.own d)
  | some (.arg _) => ρ.set i (.arg d)
  | _ => ρ
def back : List RV → List Cell → Rho → Rho
  | .slot i :: rs, .arg d :: cs, ρ => back rs cs (back1 i d ρ)
  | _ :: rs, _ :: cs, ρ => back rs cs ρ
  | _, _, ρ => ρ
def callD (sem : Fn) (qs : List RV) : M RV := fun ρ => if (qs.filterMap slotIx).Nodup then (match lendC ρ qs with
  | none => none
  | some cs => match sem cs with
    | none => none
    | some (.exc x, cs') => some (.exc x, back qs cs' ρ)
    | some (.val r, cs') => some (.val r, back qs cs' ρ)) else none
def eF (sem : Fn) (ms : List Bool) (fs : List (M RV)) : M RV := bnd (eS fs) fun rs => bnd (fzMask ms rs) fun qs => callD sem qs
/-- a def by its body: n slots -/
def keepArg : List Cell → List Cell → Option (List Cell)
  | [], _ => some []
  | .arg _ :: as, .arg d :: cs => (keepArg as cs).map (.arg d :: ·)
  | .sh d :: as, _ :: cs => (keepArg as cs).map (.sh d :: ·)
  | _, _ => none
def run (n : Nat) (body : M Fl) : Fn := fun as => match body (as ++ List.replicate (n - as.length) .un) with
  | none => none
  | some (o, ρ) => match keepArg as ρ with
    | none => none
    | some cs => match o with
      | .exc x => some (.exc x, cs)
      | .val .nx => some (.val (.sh .none), cs)
      | .val (.rt (.sh d)) => some (.val (.sh d), cs)
      | .val (.rt (.new d)) => some (.val (.new d), cs)
      | .val (.rt (.slot i)) => (match ρ[i]? with
        | some (.own d) => some (.val (.new d), cs)
        | some (.sh d) => some (.val (.sh d), cs)
        | _ => none)
      | _ => none

/-! ### statements -/
def sSeq (f g : M Fl) : M Fl := bnd f fun x => match x with
  | .nx => g
  | r => ret r
def sNop : M Fl := ret .nx
/-- what is stored in slot i -/
def asg1 (i : Nat) (r : RV) (ρ : Rho) : Option (Out Unit × Rho) := match r with
  | .sh d => some (.val (), ρ.set i (.sh d))
  | .new d => some (.val (), ρ.set i (.own d))
  | .slot j => match ρ[j]? with
    | some (.own d) => some (.val (), (ρ.set j (.sh d)).set i (.sh d))
    | some (.sh d) => some (.val (), ρ.set i (.sh d))
    | _ => none
def asg (i : Nat) (r : RV) : M Unit := fun ρ => match ρ[i]? with
  | none => none
  | some (.arg _) => none
  | some _ => asg1 i r ρ
def sSet (g : RV → M Unit) (f : M RV) : M Fl := bnd f fun r => bnd (g r) fun _ => ret .nx
def gSeq : List (RV → M Unit) → List RV → M Unit
  | [], [] => ret ()
  | g :: gs, r :: rs => bnd (g r) fun _ => gSeq gs rs
  | _, _ => stk
/-- a written tuple, taken apart at once -/
def fzSlot : List RV → M (List RV)
  | [] => ret []
  | .slot i :: rs => bnd (fz (.slot i)) fun d => bnd (fzSlot rs) fun qs => ret (.sh d :: qs)
  | r :: rs => bnd (fzSlot rs) fun qs => ret (r :: qs)
def sUnp (gs : List (RV → M Unit)) (fs : List (M RV)) : M Fl := bnd (eS fs) fun rs => bnd (fzSlot rs) fun qs => bnd (gSeq gs qs) fun _ => ret .nx
def sUnpR (gs : List (RV → M Unit)) (fs : List (M RV)) : M Fl := bnd (eS fs) fun rs => bnd (fzSlot rs) fun qs => bnd (gSeq gs.reverse qs.reverse) fun _ => ret .nx
/-- a tuple taken apart by a target -/
def gTup (gs : List (RV → M Unit)) (r : RV) : M Unit := fun ρ => match rd r ρ with
  | some (.tuple ds) => if ds.length = gs.length then gSeq gs (ds.map .sh) ρ else none
  | _ => none
def sIf (t : M Bool) (a b : M Fl) : M Fl := bnd t fun x => if x then a else b
def sRet (f : M RV) : M Fl := bnd f fun r => ret (.rt r)
def sEx (f : M RV) : M Fl := bnd f fun _ => ret .nx
/-- o[k] = v -/
def put (ch : D → D → D → Option D) (k v : D) (r : RV) : M Unit := fun ρ => match r with
  | .slot i => match ρ[i]? with
    | some (.own d) => (match ch k v d with
      | some d' => some (.val (), ρ.set i (.own d'))
      | none => none)
    | some (.arg d) => (match ch k v d with
      | some d' => some (.val (), ρ.set i (.arg d'))
      | none => none)
    | _ => none
  | _ => none
def put2 (ch : D → D → D → Option D) (o : RV) : List D → M Unit
  | [v, k] => put ch k v o
  | _ => stk
def gPut (ch : D → D → D → Option D) (fo fi : M RV) (r : RV) : M Unit := bnd fo fun o => bnd fi fun ix => bnd (fzs [r, ix]) fun ds => put2 ch o ds
/-- x op= e, what x holds being frozen -/
def shOnly (r : RV) : M Unit := fun ρ => match r with
  | .sh _ => some (.val (), ρ)
  | _ => none
def sAug (i : Nat) (op : D → D → Option RV) (f : M RV) : M Fl := bnd (eV i) fun a => bnd (shOnly a) fun _ => bnd f fun b => bnd (ap2 op a b) fun r => bnd (asg i r) fun _ => ret .nx

/-- o[i] op= e -/
def sAugS (get : D → D → Option RV) (op : D → D → Option RV) (ch : D → D → D → Option D) (fo fi f : M RV) : M Fl := bnd fo fun o => bnd fi fun ix => bnd (ap2 get o ix) fun x => bnd (shOnly x) fun _ => bnd f fun y => bnd (ap2 op x y) fun z => bnd (fzs [z, ix]) fun ds => bnd (put2 ch o ds) fun _ => ret .nx
/-- a list taken apart by a target -/
def gLs (gs : List (RV → M Unit)) (r : RV) : M Unit := bnd (fz r) fun d ρ => match d with
  | .list ds => if ds.length = gs.length then gSeq gs (ds.map .sh) ρ else none
  | _ => none

/-! ### targets of loops, loops, comprehensions -/
inductive Pat where
  | nm (i : Nat)
  | tp (ps : List Pat)
mutual
def patM : Pat → D → M Unit
  | .nm i, d => asg i (.sh d)
  | .tp ps, .tuple ds => patMs ps ds
  | .tp _, _ => stk
def patMs : List Pat → List D → M Unit
  | [], [] => ret ()
  | p :: ps, d :: ds => bnd (patM p d) fun _ => patMs ps ds
  | _, _ => stk
end
/-- a loop over data -/
def loopD (p : Pat) (body : M Fl) : List D → M Fl
  | [] => ret .nx
  | d :: ds => bnd (patM p d) fun _ => bnd body fun x => match x with
    | .nx => loopD p body ds
    | .ct => loopD p body ds
    | .bk => ret .nx
    | .rt r => ret (.rt r)
def sFor (fi : M (List D)) (p : Pat) (body : M Fl) : M Fl := bnd fi fun ds => loopD p body ds
/-- the items of frozen data -/
def items : D → Option (List D)
  | .list ds => some ds
  | .tuple ds => some ds
  | .str x => some (x.cps.toList.map fun c => .str ⟨#[c]⟩)
  | _ => none
def iD (f : M RV) : M (List D) := bnd f fun r => bnd (fz r) fun d => opt (items d)
/-- a walk reckoned from values -/
def iN (op : List D → Option (List D)) (fs : List (M RV)) : M (List D) := bnd (eS fs) fun rs ρ => match rds rs ρ with
  | none => none
  | some ds => opt (op ds) ρ
def small62 (i : Int) : Bool := decide (-4611686018427387904 ≤ i) && decide (i < 4611686018427387904)
def upFrom (lo : Int) (n : Nat) : List D := (List.range n).map fun (k : Nat) => .int (lo + k)
def stepFrom (lo c : Int) (n : Nat) : List D := (List.range n).map fun (k : Nat) => .int (lo + k * c)
def rng1 : List D → Option (List D)
  | [.int b] => if small62 b then some (upFrom 0 b.toNat) else none
  | _ => none
def rng2 : List D → Option (List D)
  | [.int a, .int b] => if small62 a && small62 b then some (upFrom a (b - a).toNat) else none
  | _ => none
def rng3 : List D → Option (List D)
  | [.int a, .int b, .int c] => if small62 a && small62 b then (if c = -1 then some (stepFrom a (-1) (a - b).toNat) else if c = 2 then some (stepFrom a 2 ((b - a + 1) / 2).toNat) else none) else none
  | _ => none
def pairsD (k : Nat) : List D → List D
  | [] => []
  | d :: ds => .tuple [.int k, d] :: pairsD (k + 1) ds
/-- enumerate -/
def iE (f : M RV) : M (List D) := bnd f fun r => bnd (fz r) fun d => opt ((items d).map (pairsD 0))
/-- slots forgotten, put back -/
def wipeR (ρ : Rho) : List Nat → Rho
  | [] => ρ
  | i :: is => (wipeR ρ is).set i .un
def plainAt (ρ : Rho) (i : Nat) : Bool := match ρ[i]? with
  | some (.sh _) => true
  | some .un => true
  | _ => false
def wipeM (own : List Nat) : M Unit := fun ρ => if own.all (plainAt ρ) then some (.val (), wipeR ρ own) else none
def restR (ρ0 ρ : Rho) : List Nat → Rho
  | [] => ρ
  | i :: is => (restR ρ0 ρ is).set i ((ρ0[i]?).getD .un)
def noX {α : Type} (m : M α) : M α := fun ρ => match m ρ with
  | some (.exc _, _) => none
  | r => r
def lcD (own : List Nat) (p : Pat) (t : M Bool) (f : M RV) : List D → List D → M (List D)
  | [], acc => ret acc
  | d :: ds, acc => bnd (patM p d) fun _ => bnd t fun b => if b then bnd f fun r => bnd (fz r) fun x => bnd (wipeM own) fun _ => lcD own p t f ds (acc ++ [x]) else bnd (wipeM own) fun _ => lcD own p t f ds acc
def eLc (own : List Nat) (fi : M (List D)) (p : Pat) (t : M Bool) (f : M RV) : M RV := bnd fi fun ds ρ => if ds.length ≤ 16777216 then (match bnd (wipeM own) (fun _ => noX (lcD own p t f ds [])) ρ with
    | some (.val xs, ρ') => some (.val (.new (.list xs)), restR ρ ρ' own)
    | _ => none) else none
def tYes : M Bool := ret true
def whileN (t : M Bool) (body : M Fl) : Nat → M Fl
  | 0 => stk
  | n + 1 => bnd t fun b => if b then (bnd body fun x => match x with
      | .nx => whileN t body n
      | .ct => whileN t body n
      | .bk => ret .nx
      | .rt r => ret (.rt r)) else ret .nx
open Classical in
noncomputable def sWhile (t : M Bool) (body : M Fl) : M Fl := fun ρ => if h : ∃ n r, whileN t body n ρ = some r then whileN t body h.choose ρ else none
theorem whileN_more {t : M Bool} {body : M Fl} : ∀ {n k : Nat} {ρ : Rho} {r : Out Fl × Rho}, whileN t body n ρ = some r → whileN t body (n + k) ρ = some r := by
  intro n
  induction n with
  | zero => intro k ρ r h; cases h
  | succ n ih =>
    intro k ρ r h
    rw [Nat.add_right_comm]
    unfold whileN bnd at h ⊢
    cases e : t ρ with
    | none => rw [e] at h; cases h
    | some p =>
      rw [e] at h
      obtain ⟨o, ρ1⟩ := p
      cases o with
      | exc x => exact h
      | val b =>
        cases b with
        | false => exact h
        | true =>
          simp only [if_true] at h ⊢
          cases e2 : body ρ1 with
          | none => rw [e2] at h; cases h
          | some q =>
            rw [e2] at h
            obtain ⟨o2, ρ2⟩ := q
            cases o2 with
            | exc x => exact h
            | val fl =>
              cases fl with
              | nx => exact ih h
              | ct => exact ih h
              | bk => exact h
              | rt v => exact h
theorem sWhile_of {t : M Bool} {body : M Fl} {n : Nat} {ρ : Rho} {r : Out Fl × Rho} (h : whileN t body n ρ = some r) : sWhile t body ρ = some r := by
  have hx : ∃ n r, whileN t body n ρ = some r := ⟨n, r, h⟩
  unfold sWhile
  rw [dif_pos hx]
  obtain ⟨r', h'⟩ := hx.choose_spec
  have h1 := whileN_more (k := n) h'
  have h2 := whileN_more (k := hx.choose) h
  rw [Nat.add_comm] at h2
  rw [h', ← h1, h2]
theorem sWhile_ex {t : M Bool} {body : M Fl} {ρ : Rho} {r : Out Fl × Rho} (h : sWhile t body ρ = some r) : ∃ n, whileN t body n ρ = some r := by
  unfold sWhile at h
  by_cases hx : ∃ n r, whileN t body n ρ = some r
  · rw [dif_pos hx] at h
    exact ⟨_, h⟩
  · rw [dif_neg hx] at h
    cases h
end Fd
/-! Fd, part 2: how data stands in the abstract heap; the stores; readings by the data semantics. -/
namespace Fd
open PySem PySem.Spec PyProof.Rows L2
abbrev Fr := PySem.W.Frag
abbrev St := L2.St

def keyD : Key → D
  | .inl i => .int i
  | .inr x => .str x
mutual
/-- in the part F of the heap the value stands for the data, for good -/
inductive Rep (K : Fr) (F : Hp) : V → D → Prop
  | non : Rep K F .non .none
  | bl (b : Bool) : Rep K F (.bl b) (.bool b)
  | int (i : Int) : Rep K F (.int i) (.int i)
  | str (x : Str) : Rep K F (.str x) (.str x)
  | lst {a : Addr} {xs : List V} {ds : List D} : SqL K F a xs → RepL K F xs ds → Rep K F (.ref a) (.list ds)
  | tup {a : Addr} {xs : List V} {ds : List D} : F a = some (.tup xs) → RepL K F xs ds → Rep K F (.ref a) (.tuple ds)
  | dK {a : Addr} {kvs : List (Key × V)} {ds : List (D × D)} : Rd F a (.dK kvs) → RepK K F kvs ds → Rep K F (.ref a) (.dict ds)
  | dT {a : Addr} {kvs : List (List Key × V)} {ds : List (D × D)} : Rd F a (.dT kvs) → RepT K F kvs ds → Rep K F (.ref a) (.dict ds)
inductive RepL (K : Fr) (F : Hp) : List V → List D → Prop
  | nil : RepL K F [] []
  | cons {v : V} {vs : List V} {d : D} {ds : List D} : Rep K F v d → RepL K F vs ds → RepL K F (v :: vs) (d :: ds)
inductive RepK (K : Fr) (F : Hp) : List (Key × V) → List (D × D) → Prop
  | nil : RepK K F [] []
  | cons {k : Key} {v : V} {vs : List (Key × V)} {d : D} {ds : List (D × D)} : Rep K F v d → RepK K F vs ds → RepK K F ((k, v) :: vs) ((keyD k, d) :: ds)
inductive RepT (K : Fr) (F : Hp) : List (List Key × V) → List (D × D) → Prop
  | nil : RepT K F [] []
  | cons {k : List Key} {v : V} {vs : List (List Key × V)} {d : D} {ds : List (D × D)} : Rep K F v d → RepT K F vs ds → RepT K F ((k, v) :: vs) ((.tuple (k.map keyD), d) :: ds)
end

theorem Same.sqt {K : Fr} {H H' : Hp} {a : Addr} {xs : List V} (e : Same H H') (h : SqT K H a xs) : SqT K H' a xs := by
  rcases h with (h | ⟨o, h⟩) | h
  · exact .inl (.inl (e _ _ h))
  · exact .inl (.inr ⟨o, e _ _ h⟩)
  · exact .inr h
theorem Same.rd {H H' : Hp} {a : Addr} {o : HO} (e : Same H H') (h : Rd H a o) : Rd H' a o := by
  rcases h with h | ⟨q, h⟩
  · exact .inl (e _ _ h)
  · exact .inr ⟨q, e _ _ h⟩
section
variable {K : Fr} {F F' : Hp}
mutual
theorem Rep.mono (e : Same F F') : ∀ (d : D) {v : V}, Rep K F v d → Rep K F' v d
  | .none, _, h => by cases h; exact .non
  | .bool b, _, h => by cases h; exact .bl b
  | .int i, _, h => by cases h; exact .int i
  | .str x, _, h => by cases h; exact .str x
  | .list ds, _, h => by
    cases h with
    | lst h1 h2 => exact .lst (e.seq h1) (RepL.mono e ds h2)
  | .tuple ds, _, h => by
    cases h with
    | tup h1 h2 => exact .tup (e _ _ h1) (RepL.mono e ds h2)
  | .dict ds, _, h => by
    cases h with
    | dK h1 h2 => exact .dK (Same.rd e h1) (RepK.mono e ds h2)
    | dT h1 h2 => exact .dT (Same.rd e h1) (RepT.mono e ds h2)
theorem RepL.mono (e : Same F F') : ∀ (ds : List D) {vs : List V}, RepL K F vs ds → RepL K F' vs ds
  | [], _, h => by cases h; exact .nil
  | d :: ds, _, h => by
    cases h with
    | cons h1 h2 => exact .cons (Rep.mono e d h1) (RepL.mono e ds h2)
theorem RepK.mono (e : Same F F') : ∀ (ds : List (D × D)) {vs : List (Key × V)}, RepK K F vs ds → RepK K F' vs ds
  | [], _, h => by cases h; exact .nil
  | (k, d) :: ds, _, h => by
    cases h with
    | cons h1 h2 => exact .cons (Rep.mono e d h1) (RepK.mono e ds h2)
theorem RepT.mono (e : Same F F') : ∀ (ds : List (D × D)) {vs : List (List Key × V)}, RepT K F vs ds → RepT K F' vs ds
  | [], _, h => by cases h; exact .nil
  | (k, d) :: ds, _, h => by
    cases h with
    | cons h1 h2 => exact .cons (Rep.mono e d h1) (RepT.mono e ds h2)
end
end
theorem RepL.length {K : Fr} {F : Hp} : ∀ {vs : List V} {ds : List D}, RepL K F vs ds → vs.length = ds.length
  | _, _, .nil => rfl
  | _, _, .cons _ h => by rw [List.length_cons, List.length_cons, RepL.length h]
theorem RepL.get {K : Fr} {F : Hp} : ∀ {vs : List V} {ds : List D} {i : Nat} {d : D}, RepL K F vs ds → ds[i]? = some d → ∃ v, vs[i]? = some v ∧ Rep K F v d
  | _, _, _, _, .nil, e => by simp at e
  | _, _, 0, _, .cons r _, e => by
    have e := Option.some.inj (by simpa using e)
    subst e
    exact ⟨_, rfl, r⟩
  | _, _, i + 1, _, .cons _ h, e => by
    obtain ⟨v, h1, h2⟩ := RepL.get (i := i) h (by simpa using e)
    exact ⟨v, by simpa using h1, h2⟩
theorem RepL.getV {K : Fr} {F : Hp} : ∀ {vs : List V} {ds : List D} {i : Nat} {v : V}, RepL K F vs ds → vs[i]? = some v → ∃ d, ds[i]? = some d ∧ Rep K F v d
  | _, _, _, _, .nil, e => by simp at e
  | _, _, 0, _, .cons r _, e => by
    have e := Option.some.inj (by simpa using e)
    subst e
    exact ⟨_, rfl, r⟩
  | _, _, i + 1, _, .cons _ h, e => by
    obtain ⟨v, h1, h2⟩ := RepL.getV (i := i) h (by simpa using e)
    exact ⟨v, by simpa using h1, h2⟩
theorem RepL.app {K : Fr} {F : Hp} : ∀ {vs ws : List V} {ds es : List D}, RepL K F vs ds → RepL K F ws es → RepL K F (vs ++ ws) (ds ++ es)
  | _, _, _, _, .nil, h => h
  | _, _, _, _, .cons r h, h' => .cons r (RepL.app h h')
theorem RepL.one {K : Fr} {F : Hp} {v : V} {d : D} (h : Rep K F v d) : RepL K F [v] [d] := .cons h .nil
theorem RepL.take {K : Fr} {F : Hp} : ∀ {vs : List V} {ds : List D} (n : Nat), RepL K F vs ds → RepL K F (vs.take n) (ds.take n)
  | _, _, 0, _ => by rw [List.take_zero, List.take_zero]; exact .nil
  | _, _, n + 1, .nil => .nil
  | _, _, n + 1, .cons r h => .cons r (RepL.take n h)
theorem RepL.drop {K : Fr} {F : Hp} : ∀ {vs : List V} {ds : List D} (n : Nat), RepL K F vs ds → RepL K F (vs.drop n) (ds.drop n)
  | _, _, 0, h => h
  | _, _, n + 1, .nil => .nil
  | _, _, n + 1, .cons _ h => RepL.drop n h
theorem RepL.set {K : Fr} {F : Hp} {v : V} {d : D} (r : Rep K F v d) : ∀ {vs : List V} {ds : List D} (n : Nat), RepL K F vs ds → RepL K F (vs.set n v) (ds.set n d)
  | _, _, _, .nil => .nil
  | _, _, 0, .cons _ h => .cons r h
  | _, _, n + 1, .cons q h => .cons q (RepL.set r n h)
theorem RepL.eraseIdx {K : Fr} {F : Hp} : ∀ {vs : List V} {ds : List D} (n : Nat), RepL K F vs ds → RepL K F (vs.eraseIdx n) (ds.eraseIdx n)
  | _, _, _, .nil => .nil
  | _, _, 0, .cons _ h => h
  | _, _, n + 1, .cons q h => .cons q (RepL.eraseIdx n h)
theorem RepL.dropLast {K : Fr} {F : Hp} {vs : List V} {ds : List D} (h : RepL K F vs ds) : RepL K F vs.dropLast ds.dropLast := by
  rw [List.dropLast_eq_take, List.dropLast_eq_take, h.length]
  exact RepL.take _ h
theorem RepL.rev {K : Fr} {F : Hp} : ∀ {vs : List V} {ds : List D}, RepL K F vs ds → RepL K F vs.reverse ds.reverse
  | _, _, .nil => .nil
  | _, _, .cons r h => by rw [List.reverse_cons, List.reverse_cons]; exact (RepL.rev h).app (.one r)
theorem RepL.ints {K : Fr} {F : Hp} : ∀ ns : List Int, RepL K F (ns.map V.int) (ns.map PyData.int)
  | [] => .nil
  | n :: ns => .cons (.int n) (RepL.ints ns)

/-- what stands at an address of its own -/
def Own (K : Fr) (F H : Hp) (a : Addr) : D → Prop
  | .list ds => ∃ xs, H a = some (.lst xs) ∧ RepL K F xs ds
  | .dict ds => (∃ ks, H a = some (.dK ks) ∧ RepK K F ks ds) ∨ ∃ ks, H a = some (.dT ks) ∧ RepT K F ks ds
  | _ => False
theorem Own.there {K : Fr} {F H : Hp} {a : Addr} {d : D} (h : Own K F H a d) : ∃ o, H a = some o ∧ Mut (some o) := by
  cases d with
  | list ds => obtain ⟨xs, e, _⟩ := h; exact ⟨_, e, trivial⟩
  | dict ds =>
    rcases h with ⟨ks, e, _⟩ | ⟨ks, e, _⟩
    · exact ⟨_, e, trivial⟩
    · exact ⟨_, e, trivial⟩
  | _ => exact h.elim
theorem Own.ne {K : Fr} {F H : Hp} {a : Addr} {d : D} (h : Own K F H a d) : H a ≠ none := by
  obtain ⟨o, e, _⟩ := h.there
  rw [e]
  exact fun z => nomatch z
theorem Own.mono {K : Fr} {F F' H H' : Hp} {a : Addr} {d : D} (h : Own K F H a d) (e : Same F F') (ea : ∀ o, H a = some o → H' a = some o) : Own K F' H' a d := by
  cases d with
  | list ds => obtain ⟨xs, q, r⟩ := h; exact ⟨xs, ea _ q, r.mono e⟩
  | dict ds =>
    rcases h with ⟨ks, q, r⟩ | ⟨ks, q, r⟩
    · exact .inl ⟨ks, ea _ q, r.mono e⟩
    · exact .inr ⟨ks, ea _ q, r.mono e⟩
  | _ => exact h.elim
/-- frozen where it stands -/
theorem Own.rep {K : Fr} {F H F' : Hp} {a : Addr} {d : D} (h : Own K F H a d) (e : Same F F') (ea : ∀ o, H a = some o → F' a = some o) : Rep K F' (.ref a) d := by
  cases d with
  | list ds => obtain ⟨xs, q, r⟩ := h; exact .lst (SqL.of (ea _ q)) (r.mono e)
  | dict ds =>
    rcases h with ⟨ks, q, r⟩ | ⟨ks, q, r⟩
    · exact .dK (.inl (ea _ q)) (r.mono e)
    · exact .dT (.inl (ea _ q)) (r.mono e)
  | _ => exact h.elim

def Mu (ρ : Rho) (i : Nat) (d : D) : Prop := ρ[i]? = some (Cell.own d) ∨ ρ[i]? = some (Cell.arg d)

/-- the slots hold what ρ says. F: frozen; G: what callers keep; avs: the arguments -/
structure Sim (K : Fr) (F G : Hp) (avs : List V) (σ : St) (ρ : Rho) (H : Hp) : Prop where
  le : Same F H
  gl : Same G H
  ln : ρ.length = σ.length
  sh : ∀ (i : Nat) (d : D), ρ[i]? = some (Cell.sh d) → ∃ v, σ[i]? = some (some v) ∧ Rep K F v d
  ow : ∀ (i : Nat) (d : D), Mu ρ i d → ∃ a, σ[i]? = some (some (.ref a)) ∧ Own K F H a d ∧ F a = none ∧ G a = none
  ar : ∀ (i : Nat) (d : D), ρ[i]? = some (Cell.arg d) → ∃ v, avs[i]? = some v ∧ σ[i]? = some (some v)
  ap : ∀ (i j : Nat) (d e : D) (a : Addr), i ≠ j → Mu ρ i d → Mu ρ j e → σ[i]? = some (some (.ref a)) → σ[j]? = some (some (.ref a)) → False

/-- frozen parts grow, away from what callers keep -/
structure Ext (F G F' : Hp) : Prop where
  le : Same F F'
  new : ∀ a, F' a ≠ none → F a = none → G a = none
theorem Ext.refl (F G : Hp) : Ext F G F := ⟨Same.refl F, fun _ h h' => absurd h' h⟩
theorem Ext.trans {F G F1 F2 : Hp} (a : Ext F G F1) (b : Ext F1 G F2) : Ext F G F2 := by
  refine ⟨a.le.trans b.le, fun x h h' => ?_⟩
  cases e : F1 x with
  | none => exact b.new x h e
  | some o => exact a.new x (by rw [e]; exact fun z => nomatch z) h'
/-- nothing that is tracked changes -/
structure Grow (F H F' H' : Hp) : Prop where
  le : Same F F'
  up : Same F' H'
  hl : Same H H'
  new : ∀ a, F' a ≠ none → F a = none → H a = none
theorem Grow.refl {F H : Hp} (h : Same F H) : Grow F H F H := ⟨Same.refl F, h, Same.refl H, fun _ h h' => absurd h' h⟩
theorem Grow.trans {F H F1 H1 F2 H2 : Hp} (a : Grow F H F1 H1) (b : Grow F1 H1 F2 H2) : Grow F H F2 H2 := by
  refine ⟨a.le.trans b.le, b.up, a.hl.trans b.hl, fun x h h' => ?_⟩
  cases e : F1 x with
  | none => exact a.hl.free (b.new x h e)
  | some o => exact a.new x (by rw [e]; exact fun z => nomatch z) h'
theorem same_upd {H : Hp} {p : Addr} {o : HO} (h : H p = none) : Same H (upd H p o) := fun b x e => by
  rw [upd_ne (ne_of_none e h)]
  exact e
theorem same_upd2 {F H : Hp} {p : Addr} {o : HO} (h : Same F H) : Same (upd F p o) (upd H p o) := fun b x e => by
  by_cases hb : b = p
  · subst hb
    rw [upd_same] at e ⊢
    exact e
  · rw [upd_ne hb] at e ⊢
    exact h _ _ e
/-- a new frozen object -/
theorem Grow.froz {F H : Hp} {p : Addr} {o : HO} (h : Same F H) (hp : H p = none) : Grow F H (upd F p o) (upd H p o) := by
  refine ⟨same_upd (h.free hp), same_upd2 h, same_upd hp, fun a h1 h2 => ?_⟩
  by_cases ha : a = p
  · subst ha; exact hp
  · rw [upd_ne ha] at h1
    exact absurd h2 h1
/-- a new object of one's own -/
theorem Grow.fresh {F H : Hp} {p : Addr} {o : HO} (h : Same F H) (hp : H p = none) : Grow F H F (upd H p o) :=
  ⟨Same.refl F, h.trans (same_upd hp), same_upd hp, fun _ h h' => absurd h' h⟩
theorem Grow.ext {F H F' H' G : Hp} (g : Grow F H F' H') (gl : Same G H) : Ext F G F' := ⟨g.le, fun a h h' => gl.free (g.new a h h')⟩
theorem Grow.keep {F H F' H' : Hp} (g : Grow F H F' H') {a : Addr} (h : H a ≠ none) (hf : F a = none) : F' a = none := by
  cases e : F' a with
  | none => rfl
  | some o => exact absurd (g.new a (by rw [e]; exact fun z => nomatch z) hf) h

section
variable {K : Fr} {F F' G H H' : Hp} {avs : List V} {σ : St} {ρ : Rho}
theorem Sim.grow (s : Sim K F G avs σ ρ H) (g : Grow F H F' H') : Sim K F' G avs σ ρ H' := by
  refine ⟨g.up, s.gl.trans g.hl, s.ln, fun i d h => ?_, fun i d h => ?_, s.ar, s.ap⟩
  · obtain ⟨v, h1, h2⟩ := s.sh i d h
    exact ⟨v, h1, h2.mono g.le⟩
  · obtain ⟨a, h1, h2, h3, h4⟩ := s.ow i d h
    exact ⟨a, h1, h2.mono g.le fun o e => g.hl _ _ e, g.keep h2.ne h3, h4⟩
theorem Mu.set_ne {i j : Nat} {c : Cell} {d : D} (h : i ≠ j) : Mu (ρ.set i c) j d ↔ Mu ρ j d := by
  unfold Mu
  rw [List.getElem?_set_ne h]
theorem Sim.lt (s : Sim K F G avs σ ρ H) {i : Nat} {c : Cell} (h : ρ[i]? = some c) : i < σ.length := by
  rw [← s.ln]
  exact (List.getElem?_eq_some_iff.mp h).1
/-- the object of slot i is frozen -/
theorem Sim.freeze (s : Sim K F G avs σ ρ H) {i : Nat} {d : D} (h : ρ[i]? = some (Cell.own d)) :
    ∃ F' a, σ[i]? = some (some (V.ref a)) ∧ Ext F G F' ∧ Sim K F' G avs σ (ρ.set i (.sh d)) H ∧ Rep K F' (V.ref a) d ∧ ∀ b, b ≠ a → F' b = F b := by
  obtain ⟨a, h1, h2, h3, h4⟩ := s.ow i d (.inl h)
  obtain ⟨o, e, mu⟩ := h2.there
  have eF : Same F (upd F a o) := same_upd h3
  have fH : Same (upd F a o) H := fun b x q => by
    by_cases hb : b = a
    · subst hb
      rw [upd_same] at q
      cases q
      exact e
    · rw [upd_ne hb] at q
      exact s.le _ _ q
  have hr : Rep K (upd F a o) (.ref a) d := h2.rep eF fun q z => by
    rw [e] at z
    cases z
    exact upd_same
  have hi : i < ρ.length := (List.getElem?_eq_some_iff.mp h).1
  refine ⟨upd F a o, a, h1, ⟨eF, fun b q n => ?_⟩, ⟨fH, s.gl, by rw [List.length_set]; exact s.ln, fun j x q => ?_, fun j x q => ?_, fun j x q => ?_, fun j k x y b n p q => ?_⟩, hr, fun b hb => upd_ne hb⟩
  · by_cases hb : b = a
    · subst hb; exact h4
    · rw [upd_ne hb] at q
      exact absurd n q
  · by_cases hj : i = j
    · subst hj
      rw [List.getElem?_set_self hi] at q
      cases q
      exact ⟨_, h1, hr⟩
    · rw [List.getElem?_set_ne hj] at q
      obtain ⟨v, q1, q2⟩ := s.sh j x q
      exact ⟨v, q1, q2.mono eF⟩
  · by_cases hj : i = j
    · subst hj
      unfold Mu at q
      rw [List.getElem?_set_self hi] at q
      rcases q with q | q <;> cases q
    · rw [Mu.set_ne hj] at q
      obtain ⟨b, q1, q2, q3, q4⟩ := s.ow j x q
      refine ⟨b, q1, q2.mono eF fun _ z => z, ?_, q4⟩
      have hb : b ≠ a := fun z => s.ap i j d x a hj (.inl h) q h1 (by rw [← z]; exact q1)
      rw [upd_ne hb]
      exact q3
  · by_cases hj : i = j
    · subst hj
      rw [List.getElem?_set_self hi] at q
      cases q
    · rw [List.getElem?_set_ne hj] at q
      exact s.ar j x q
  · have f : ∀ (m : Nat) (z : D), Mu (ρ.set i (.sh d)) m z → Mu ρ m z := fun m z hm => by
      by_cases hj : i = m
      · subst hj
        unfold Mu at hm
        rw [List.getElem?_set_self hi] at hm
        rcases hm with q | q <;> cases q
      · rwa [Mu.set_ne hj] at hm
    exact s.ap j k x y b n (f j x p) (f k y q)
/-- an object that no slot has, frozen -/
theorem Sim.freezeNew (s : Sim K F G avs σ ρ H) {a : Addr} {d : D} (h : Own K F H a d) (hF : F a = none) (hG : G a = none) (hs : ∀ (i : Nat) (e : D), Mu ρ i e → σ[i]? ≠ some (some (V.ref a))) :
    ∃ F', Ext F G F' ∧ Sim K F' G avs σ ρ H ∧ Rep K F' (.ref a) d ∧ ∀ b, b ≠ a → F' b = F b := by
  obtain ⟨o, e, mu⟩ := h.there
  have eF : Same F (upd F a o) := same_upd hF
  refine ⟨upd F a o, ⟨eF, fun b q n => ?_⟩, ⟨fun b x q => ?_, s.gl, s.ln, fun j x q => ?_, fun j x q => ?_, s.ar, s.ap⟩, h.rep eF fun q z => ?_, fun b hb => upd_ne hb⟩
  · by_cases hb : b = a
    · subst hb; exact hG
    · rw [upd_ne hb] at q
      exact absurd n q
  · by_cases hb : b = a
    · subst hb
      rw [upd_same] at q
      cases q
      exact e
    · rw [upd_ne hb] at q
      exact s.le _ _ q
  · obtain ⟨v, q1, q2⟩ := s.sh j x q
    exact ⟨v, q1, q2.mono eF⟩
  · obtain ⟨b, q1, q2, q3, q4⟩ := s.ow j x q
    refine ⟨b, q1, q2.mono eF fun _ z => z, ?_, q4⟩
    have hb : b ≠ a := fun z => hs j x q (by rw [← z]; exact q1)
    rw [upd_ne hb]
    exact q3
  · rw [e] at z
    cases z
    exact upd_same
/-- slot i takes a frozen value -/
theorem Sim.setSh (s : Sim K F G avs σ ρ H) {i : Nat} {c : Cell} {v : V} {d : D} (hi : ρ[i]? = some c) (hc : ∀ e, c ≠ .arg e) (h : Rep K F v d) : Sim K F G avs (σ.set i (some v)) (ρ.set i (.sh d)) H := by
  have li : i < ρ.length := (List.getElem?_eq_some_iff.mp hi).1
  have ls : i < σ.length := by rw [← s.ln]; exact li
  have f : ∀ (m : Nat) (z : D), Mu (ρ.set i (.sh d)) m z → i ≠ m ∧ Mu ρ m z := fun m z hm => by
    by_cases hj : i = m
    · subst hj
      unfold Mu at hm
      rw [List.getElem?_set_self li] at hm
      rcases hm with q | q <;> cases q
    · exact ⟨hj, by rwa [Mu.set_ne hj] at hm⟩
  refine ⟨s.le, s.gl, by rw [List.length_set, List.length_set]; exact s.ln, fun j x q => ?_, fun j x q => ?_, fun j x q => ?_, fun j k x y b n p q p' q' => ?_⟩
  · by_cases hj : i = j
    · subst hj
      rw [List.getElem?_set_self li] at q
      cases q
      exact ⟨v, List.getElem?_set_self ls, h⟩
    · rw [List.getElem?_set_ne hj] at q ⊢
      exact s.sh j x q
  · obtain ⟨hj, q⟩ := f j x q
    rw [List.getElem?_set_ne hj]
    exact s.ow j x q
  · by_cases hj : i = j
    · subst hj
      rw [List.getElem?_set_self li] at q
      cases q
    · rw [List.getElem?_set_ne hj] at q ⊢
      exact s.ar j x q
  · obtain ⟨h1, p⟩ := f j x p
    obtain ⟨h2, q⟩ := f k y q
    rw [List.getElem?_set_ne h1] at p'
    rw [List.getElem?_set_ne h2] at q'
    exact s.ap j k x y b n p q p' q'
/-- slot i takes an object of its own -/
theorem Sim.setOwn (s : Sim K F G avs σ ρ H) {i : Nat} {c : Cell} {a : Addr} {d : D} (hi : ρ[i]? = some c) (hc : ∀ e, c ≠ .arg e) (h : Own K F H a d) (hF : F a = none) (hG : G a = none)
    (hs : ∀ (i : Nat) (e : D), Mu ρ i e → σ[i]? ≠ some (some (V.ref a))) : Sim K F G avs (σ.set i (some (.ref a))) (ρ.set i (.own d)) H := by
  have li : i < ρ.length := (List.getElem?_eq_some_iff.mp hi).1
  have ls : i < σ.length := by rw [← s.ln]; exact li
  refine ⟨s.le, s.gl, by rw [List.length_set, List.length_set]; exact s.ln, fun j x q => ?_, fun j x q => ?_, fun j x q => ?_, fun j k x y b n p q p' q' => ?_⟩
  · by_cases hj : i = j
    · subst hj
      rw [List.getElem?_set_self li] at q
      cases q
    · rw [List.getElem?_set_ne hj] at q ⊢
      exact s.sh j x q
  · by_cases hj : i = j
    · subst hj
      unfold Mu at q
      rw [List.getElem?_set_self li] at q
      rcases q with q | q
      · cases q
        exact ⟨a, List.getElem?_set_self ls, h, hF, hG⟩
      · cases q
    · rw [Mu.set_ne hj] at q
      rw [List.getElem?_set_ne hj]
      exact s.ow j x q
  · by_cases hj : i = j
    · subst hj
      rw [List.getElem?_set_self li] at q
      cases q
    · rw [List.getElem?_set_ne hj] at q ⊢
      exact s.ar j x q
  · by_cases hj : i = j
    · subst hj
      rw [List.getElem?_set_self ls] at p'
      cases p'
      rw [Mu.set_ne n] at q
      rw [List.getElem?_set_ne n] at q'
      exact hs k y q q'
    · rw [Mu.set_ne hj] at p
      rw [List.getElem?_set_ne hj] at p'
      by_cases hk : i = k
      · subst hk
        rw [List.getElem?_set_self ls] at q'
        cases q'
        exact hs j x p p'
      · rw [Mu.set_ne hk] at q
        rw [List.getElem?_set_ne hk] at q'
        exact s.ap j k x y b n p q p' q'
/-- the object of slot i changes -/
theorem Sim.change (s : Sim K F G avs σ ρ H) {i : Nat} {d d' : D} {c : Cell} {o : HO} {a : Addr} (h : (ρ[i]? = some (Cell.own d) ∧ c = .own d') ∨ (ρ[i]? = some (Cell.arg d) ∧ c = .arg d')) (ha : σ[i]? = some (some (V.ref a)))
    (hn : Own K F (upd H a o) a d') : Sim K F G avs σ (ρ.set i c) (upd H a o) := by
  have hm : Mu ρ i d := by
    rcases h with h | h
    · exact .inl h.1
    · exact .inr h.1
  obtain ⟨a', h1, h2, h3, h4⟩ := s.ow i d hm
  rw [ha] at h1
  cases h1
  have li : i < ρ.length := by
    rcases h with h | h <;> exact (List.getElem?_eq_some_iff.mp h.1).1
  have keep : ∀ b x, b ≠ a → H b = some x → upd H a o b = some x := fun b x hb e => by rw [upd_ne hb]; exact e
  have hmu : ∀ (m : Nat) (z : D), i ≠ m → (Mu (ρ.set i c) m z ↔ Mu ρ m z) := fun m z hj => Mu.set_ne hj
  have hci : ∀ z, c ≠ .sh z := fun z e => by
    rcases h with h | h <;> (rw [h.2] at e; cases e)
  refine ⟨fun b x q => ?_, fun b x q => ?_, by rw [List.length_set]; exact s.ln, fun j x q => ?_, fun j x q => ?_, fun j x q => ?_, fun j k x y b n p q p' q' => ?_⟩
  · exact keep b x (fun e => by rw [e, h3] at q; cases q) (s.le _ _ q)
  · exact keep b x (fun e => by rw [e, h4] at q; cases q) (s.gl _ _ q)
  · by_cases hj : i = j
    · subst hj
      rw [List.getElem?_set_self li] at q
      exact absurd (Option.some.inj q) (hci x)
    · rw [List.getElem?_set_ne hj] at q
      exact s.sh j x q
  · by_cases hj : i = j
    · subst hj
      unfold Mu at q
      rw [List.getElem?_set_self li] at q
      have e : x = d' := by
        rcases h with h | h
        · rw [h.2] at q
          rcases q with q | q <;> cases q
          rfl
        · rw [h.2] at q
          rcases q with q | q <;> cases q
          rfl
      subst e
      exact ⟨a, ha, hn, h3, h4⟩
    · rw [hmu j x hj] at q
      obtain ⟨b, q1, q2, q3, q4⟩ := s.ow j x q
      have hb : b ≠ a := fun z => s.ap i j d x a hj hm q ha (by rw [← z]; exact q1)
      exact ⟨b, q1, q2.mono (Same.refl F) fun o' e => keep b o' hb e, q3, q4⟩
  · by_cases hj : i = j
    · subst hj
      rw [List.getElem?_set_self li] at q
      rcases h with h | h
      · rw [h.2] at q
        cases q
      · exact s.ar i d h.1
    · rw [List.getElem?_set_ne hj] at q
      exact s.ar j x q
  · have f : ∀ (m : Nat) (z : D), Mu (ρ.set i c) m z → ∃ z', Mu ρ m z' := fun m z hz => by
      by_cases hj : i = m
      · subst hj; exact ⟨d, hm⟩
      · exact ⟨z, (hmu m z hj).mp hz⟩
    obtain ⟨x', p⟩ := f j x p
    obtain ⟨y', q⟩ := f k y q
    exact s.ap j k x' y' b n p q p' q'
end

/-! ### results, held results -/
def RvOk (K : Fr) (F G : Hp) (ρ : Rho) (σ : St) (H : Hp) (v : V) : RV → Prop
  | .sh d => Rep K F v d
  | .new d => ∃ a, v = V.ref a ∧ Own K F H a d ∧ F a = none ∧ G a = none ∧ ∀ (i : Nat) (e : D), Mu ρ i e → σ[i]? ≠ some (some (V.ref a))
  | .slot i => σ[i]? = some (some v)
def tmp : V × RV → Option Addr
  | (.ref a, .new _) => some a
  | _ => none
def tmps (vs : List (V × RV)) : List Addr := vs.filterMap tmp
structure Held (K : Fr) (F G : Hp) (ρ : Rho) (σ : St) (H : Hp) (vs : List (V × RV)) : Prop where
  ok : ∀ p ∈ vs, RvOk K F G ρ σ H p.1 p.2
  nd : (tmps vs).Nodup
/-- what callers keep, and the held new objects -/
def gadd (G H : Hp) (l : List Addr) : Hp := fun b => if b ∈ l then H b else G b
theorem gadd_in {G H : Hp} {l : List Addr} {a : Addr} (h : a ∈ l) : gadd G H l a = H a := if_pos h
theorem gadd_out {G H : Hp} {l : List Addr} {a : Addr} (h : a ∉ l) : gadd G H l a = G a := if_neg h
section
variable {K : Fr} {F F1 G H H1 : Hp} {avs : List V} {σ : St} {ρ ρ1 : Rho} {vs : List (V × RV)}
theorem Held.nil : Held K F G ρ σ H [] := ⟨fun _ h => (nomatch h), List.nodup_nil⟩
theorem tmps_mem {a : Addr} (h : a ∈ tmps vs) : ∃ d, (V.ref a, RV.new d) ∈ vs := by
  obtain ⟨⟨v, r⟩, h1, h2⟩ := List.mem_filterMap.mp h
  unfold tmp at h2
  split at h2
  · rename_i b d e
    cases h2
    cases e
    exact ⟨_, h1⟩
  · cases h2
theorem Held.tmp (h : Held K F G ρ σ H vs) {a : Addr} (ha : a ∈ tmps vs) : ∃ d, Own K F H a d ∧ F a = none ∧ G a = none ∧ ∀ (i : Nat) (e : D), Mu ρ i e → σ[i]? ≠ some (some (V.ref a)) := by
  obtain ⟨d, hd⟩ := tmps_mem ha
  obtain ⟨b, e, q⟩ := h.ok _ hd
  cases e
  exact ⟨d, q⟩
theorem Held.sim (h : Held K F G ρ σ H vs) (s : Sim K F G avs σ ρ H) : Sim K F (gadd G H (tmps vs)) avs σ ρ H := by
  refine ⟨s.le, fun b x e => ?_, s.ln, s.sh, fun i d m => ?_, s.ar, s.ap⟩
  · by_cases hb : b ∈ tmps vs
    · rwa [gadd_in hb] at e
    · rw [gadd_out hb] at e
      exact s.gl _ _ e
  · obtain ⟨a, h1, h2, h3, h4⟩ := s.ow i d m
    refine ⟨a, h1, h2, h3, ?_⟩
    by_cases ha : a ∈ tmps vs
    · obtain ⟨_, _, _, _, q⟩ := h.tmp ha
      exact absurd h1 (q i d m)
    · rw [gadd_out ha]
      exact h4
theorem Held.gsame (h : Held K F G ρ σ H vs) : Same G (gadd G H (tmps vs)) := fun b x e => by
  by_cases hb : b ∈ tmps vs
  · obtain ⟨_, _, _, q, _⟩ := h.tmp hb
    rw [q] at e
    cases e
  · rw [gadd_out hb]
    exact e
theorem Sim.gless {G' : Hp} (s : Sim K F G' avs σ ρ H) (g : Same G G') : Sim K F G avs σ ρ H :=
  ⟨s.le, g.trans s.gl, s.ln, s.sh, fun i d m => let ⟨a, h1, h2, h3, h4⟩ := s.ow i d m; ⟨a, h1, h2, h3, g.free h4⟩, s.ar, s.ap⟩
theorem Ext.gless {G' : Hp} (e : Ext F G' F1) (g : Same G G') : Ext F G F1 := ⟨e.le, fun a h h' => g.free (e.new a h h')⟩
theorem RvOk.gless {G' : Hp} {v : V} {r : RV} (h : RvOk K F G' ρ σ H v r) (g : Same G G') : RvOk K F G ρ σ H v r := by
  cases r with
  | sh d => exact h
  | slot i => exact h
  | new d =>
    obtain ⟨a, h1, h2, h3, h4, h5⟩ := h
    exact ⟨a, h1, h2, h3, g.free h4, h5⟩
/-- held results behind one more evaluation -/
theorem Held.over (h : Held K F G ρ σ H vs) (s : Sim K F G avs σ ρ H) (e : Ext F (gadd G H (tmps vs)) F1) (s1 : Sim K F1 (gadd G H (tmps vs)) avs σ ρ1 H1) : Held K F1 G ρ1 σ H1 vs := by
  refine ⟨fun p hp => ?_, h.nd⟩
  obtain ⟨v, r⟩ := p
  have q := h.ok _ hp
  cases r with
  | sh d => exact Rep.mono e.le d q
  | slot i => exact q
  | new d =>
    obtain ⟨a, h1, h2, h3, h4, h5⟩ := q
    have h1 : v = .ref a := h1
    subst h1
    have ha : a ∈ tmps vs := List.mem_filterMap.mpr ⟨_, hp, rfl⟩
    have keep : ∀ o, H a = some o → H1 a = some o := fun o z => s1.gl _ _ (by rw [gadd_in ha]; exact z)
    have f1 : F1 a = none := by
      cases z : F1 a with
      | none => rfl
      | some o =>
        have := e.new a (by rw [z]; exact fun q => nomatch q) h3
        rw [gadd_in ha] at this
        exact absurd this h2.ne
    refine ⟨a, rfl, h2.mono e.le keep, f1, h4, fun i x m z => ?_⟩
    obtain ⟨b, z1, _, _, z4⟩ := s1.ow i x m
    rw [z] at z1
    cases z1
    rw [gadd_in ha] at z4
    exact h2.ne z4
theorem tmps_snoc (vs : List (V × RV)) (p : V × RV) : tmps (vs ++ [p]) = tmps vs ++ (match tmp p with | some a => [a] | none => []) := by
  unfold tmps
  rw [List.filterMap_append]
  congr 1
  cases e : tmp p <;> simp [e]
theorem Held.snoc {y : V} {r : RV} (h : Held K F G ρ σ H vs) (q : RvOk K F G ρ σ H y r) (hn : ∀ d, r = .new d → ∀ a, y = .ref a → a ∉ tmps vs) : Held K F G ρ σ H (vs ++ [(y, r)]) := by
  refine ⟨fun p hp => ?_, ?_⟩
  · rcases List.mem_append.mp hp with z | z
    · exact h.ok p z
    · cases List.mem_singleton.mp z
      exact q
  · rw [tmps_snoc]
    cases e : Fd.tmp (y, r) with
    | none => simpa using h.nd
    | some a =>
      unfold Fd.tmp at e
      split at e
      · rename_i b d e2
        cases e
        cases e2
        refine List.nodup_append.mpr ⟨h.nd, by simp, fun x hx z hz => ?_⟩
        have hz : z = a := by simpa using hz
        subst hz
        exact fun w => hn d rfl z rfl (w ▸ hx)
      · cases e
end

/-- how an exception lies: its class, its one field -/
def XOk (K : Fr) (mg : Str → Option Value) (F H : Hp) (cls : Value) (d : Option Addr) (x : Exc) : Prop :=
  ∃ C a v, cls = .ref C ∧ mg x.cls = some (.ref C) ∧ d = some a ∧ H a = some (.xd [(x.fnm, v)]) ∧ Rep K F v x.fld
/-- what a run's end must be -/
def Pst {α : Type} (bad : Exc → Rho → Prop) (good : α → Rho → Prop) : Option (Out α × Rho) → Prop
  | none => False
  | some (.exc x, ρ) => bad x ρ
  | some (.val a, ρ) => good a ρ
def XB (K : Fr) (mg : Str → Option Value) (F G : Hp) (avs : List V) (W : WX) : Exc → Rho → Prop := fun x ρ' =>
  ∀ σ' cls d F' H', Ext F G F' → Sim K F' G avs σ' ρ' H' → XOk K mg F' H' cls d x → W cls d σ' H'
def EPost (K : Fr) (mg : Str → Option Value) (G : Hp) (avs : List V) (W : WX) (σ : St) (Q : VK) (F : Hp) : Option (Out RV × Rho) → Prop :=
  Pst (XB K mg F G avs W) fun r ρ' => ∀ v F' H', Ext F G F' → Sim K F' G avs σ ρ' H' → RvOk K F' G ρ' σ H' v r → Q v H'
def TPost (K : Fr) (mg : Str → Option Value) (G : Hp) (avs : List V) (W : WX) (σ : St) (Q : Bool → Hp → Prop) (F : Hp) : Option (Out Bool × Rho) → Prop :=
  Pst (XB K mg F G avs W) fun b ρ' => ∀ F' H', Ext F G F' → Sim K F' G avs σ ρ' H' → Q b H'
def UPost (K : Fr) (mg : Str → Option Value) (G : Hp) (avs : List V) (W : WX) (Q : St → Hp → Prop) (F : Hp) : Option (Out Unit × Rho) → Prop :=
  Pst (XB K mg F G avs W) fun _ ρ' => ∀ σ' F' H', Ext F G F' → Sim K F' G avs σ' ρ' H' → Q σ' H'
def FlOk (K : Fr) (F G : Hp) (ρ : Rho) (σ : St) (H : Hp) (Q : Ends) : Fl → Prop
  | .nx => Q.nx σ H
  | .bk => Q.bk σ H
  | .ct => Q.ct σ H
  | .rt r => ∀ v, RvOk K F G ρ σ H v r → Q.rt v H
def SPost (K : Fr) (mg : Str → Option Value) (G : Hp) (avs : List V) (W : WX) (Q : Ends) (F : Hp) : Option (Out Fl × Rho) → Prop :=
  Pst (XB K mg F G avs W) fun fl ρ' => ∀ σ' F' H', Ext F G F' → Sim K F' G avs σ' ρ' H' → FlOk K F' G ρ' σ' H' Q fl

/-! ### readings by the data semantics -/
def tE (K : Fr) (mg : Str → Option Value) (W : WX) (f : M RV) : TE := fun σ H Q => ∃ F G avs ρ, Sim K F G avs σ ρ H ∧ EPost K mg G avs W σ Q F (f ρ)
def tT (K : Fr) (mg : Str → Option Value) (W : WX) (f : M Bool) : TT := fun σ H Q => ∃ F G avs ρ, Sim K F G avs σ ρ H ∧ TPost K mg G avs W σ Q F (f ρ)
def tG (K : Fr) (mg : Str → Option Value) (W : WX) (g : RV → M Unit) : TG := fun v σ H Q => ∃ F G avs ρ r, Sim K F G avs σ ρ H ∧ RvOk K F G ρ σ H v r ∧ UPost K mg G avs W Q F (g r ρ)
def tS (K : Fr) (mg : Str → Option Value) (W : WX) (f : M Fl) : TS := fun Q σ H => ∃ F G avs ρ, Sim K F G avs σ ρ H ∧ SPost K mg G avs W Q F (f ρ)
abbrev SE (X : Cx) (W : WX) (e : Expr) (f : M RV) : Prop := PE X e (tE X.K X.mg W f)
abbrev ST (X : Cx) (W : WX) (e : Expr) (f : M Bool) : Prop := PT X e (tT X.K X.mg W f)
abbrev SG (X : Cx) (W : WX) (e : Expr) (g : RV → M Unit) : Prop := PG X e (tG X.K X.mg W g)
abbrev SS (X : Cx) (W : WX) (s : Stmt) (f : M Fl) : Prop := PS X s (tS X.K X.mg W f)
abbrev SSs (X : Cx) (W : WX) (s : List Stmt) (f : M Fl) : Prop := PSs X s (tS X.K X.mg W f)

/-- what comes behind a step -/
structure Rest (K : Fr) (mg : Str → Option Value) (G : Hp) (avs : List V) (W : WX) {α : Type} (PP : Hp → Option (Out α × Rho) → Prop) : Prop where
  no : ∀ F, ¬ PP F none
  ex : ∀ F x ρ, PP F (some (.exc x, ρ)) → XB K mg F G avs W x ρ
  up : ∀ F F1 o, Ext F G F1 → PP F o → PP F1 o
section
variable {K : Fr} {mg : Str → Option Value} {F F1 G H H1 : Hp} {avs : List V} {W : WX} {σ : St} {ρ : Rho} {vs : List (V × RV)}
theorem XB.up {x : Exc} (e : Ext F G F1) (h : XB K mg F G avs W x ρ) : XB K mg F1 G avs W x ρ := fun σ' cls d F' H' e' => h σ' cls d F' H' (e.trans e')
theorem EPost.rest {Q : VK} : Rest K mg G avs W (EPost K mg G avs W σ Q) := ⟨fun _ h => h, fun _ _ _ h => h, fun F F1 o e h => by
  match o, h with
  | some (.exc x, ρ), h => exact XB.up e h
  | some (.val a, ρ), h => exact fun v F' H' e' => h v F' H' (e.trans e')⟩
theorem TPost.rest {Q : Bool → Hp → Prop} : Rest K mg G avs W (TPost K mg G avs W σ Q) := ⟨fun _ h => h, fun _ _ _ h => h, fun F F1 o e h => by
  match o, h with
  | some (.exc x, ρ), h => exact XB.up e h
  | some (.val a, ρ), h => exact fun F' H' e' => h F' H' (e.trans e')⟩
theorem UPost.rest {Q : St → Hp → Prop} : Rest K mg G avs W (UPost K mg G avs W Q) := ⟨fun _ h => h, fun _ _ _ h => h, fun F F1 o e h => by
  match o, h with
  | some (.exc x, ρ), h => exact XB.up e h
  | some (.val a, ρ), h => exact fun σ' F' H' e' => h σ' F' H' (e.trans e')⟩
theorem SPost.rest {Q : Ends} : Rest K mg G avs W (SPost K mg G avs W Q) := ⟨fun _ h => h, fun _ _ _ h => h, fun F F1 o e h => by
  match o, h with
  | some (.exc x, ρ), h => exact XB.up e h
  | some (.val a, ρ), h => exact fun σ' F' H' e' => h σ' F' H' (e.trans e')⟩

theorem XB.gadd' {G' : Hp} {x : Exc} (g : Same G G') (h : XB K mg F G avs W x ρ) : XB K mg F G' avs W x ρ := fun σ' cls d F' H' e s => h σ' cls d F' H' (e.gless g) (s.gless g)

/-- an expression, then the rest -/
theorem step {α : Type} {PP : Hp → Option (Out α × Rho) → Prop} {f : M RV} {k : RV → M α} (R : Rest K mg G avs W PP) (s : Sim K F G avs σ ρ H) (h : Held K F G ρ σ H vs) (p : PP F (bnd f k ρ)) :
    tE K mg W f σ H fun y H1 => ∃ r F1 ρ1, Ext F G F1 ∧ Sim K F1 G avs σ ρ1 H1 ∧ Held K F1 G ρ1 σ H1 (vs ++ [(y, r)]) ∧ PP F1 (k r ρ1) := by
  refine ⟨F, gadd G H (tmps vs), avs, ρ, h.sim s, ?_⟩
  unfold bnd at p
  cases e : f ρ with
  | none => rw [e] at p; exact (R.no _ p).elim
  | some q =>
    obtain ⟨o, ρ1⟩ := q
    rw [e] at p
    cases o with
    | exc x => exact XB.gadd' h.gsame (R.ex _ _ _ p)
    | val r =>
      intro v F1 H1 e1 s1 ok
      have h1 := h.over s e1 s1
      refine ⟨r, F1, ρ1, e1.gless h.gsame, s1.gless h.gsame, h1.snoc (ok.gless h.gsame) fun d hr a hv hm => ?_, R.up _ _ _ (e1.gless h.gsame) p⟩
      subst hr hv
      obtain ⟨b, eb, o1, _, o3, _⟩ := ok
      cases eb
      rw [gadd_in hm] at o3
      obtain ⟨_, q1, _⟩ := h.tmp hm
      exact q1.ne o3
/-- a test, then the rest -/
theorem stepT {α : Type} {PP : Hp → Option (Out α × Rho) → Prop} {f : M Bool} {k : Bool → M α} (R : Rest K mg G avs W PP) (s : Sim K F G avs σ ρ H) (h : Held K F G ρ σ H vs) (p : PP F (bnd f k ρ)) :
    tT K mg W f σ H fun b H1 => ∃ F1 ρ1, Ext F G F1 ∧ Sim K F1 G avs σ ρ1 H1 ∧ Held K F1 G ρ1 σ H1 vs ∧ PP F1 (k b ρ1) := by
  refine ⟨F, gadd G H (tmps vs), avs, ρ, h.sim s, ?_⟩
  unfold bnd at p
  cases e : f ρ with
  | none => rw [e] at p; exact (R.no _ p).elim
  | some q =>
    obtain ⟨o, ρ1⟩ := q
    rw [e] at p
    cases o with
    | exc x => exact XB.gadd' h.gsame (R.ex _ _ _ p)
    | val r =>
      intro F1 H1 e1 s1
      exact ⟨F1, ρ1, e1.gless h.gsame, s1.gless h.gsame, h.over s e1 s1, R.up _ _ _ (e1.gless h.gsame) p⟩
/-- an argument list's reading -/
def tAs (K : Fr) (mg : Str → Option Value) (W : WX) : List (M RV) → TA
  | [] => tNil
  | f :: fs => tCons (tE K mg W f) (tAs K mg W fs)
/-- .. then the rest -/
theorem stepA {α : Type} {PP : Hp → Option (Out α × Rho) → Prop} (R : Rest K mg G avs W PP) : ∀ {fs : List (M RV)} {k : List RV → M α} {F H : Hp} {ρ : Rho} {vs : List (V × RV)} {Q : List V → Hp → Prop},
    Sim K F G avs σ ρ H → Held K F G ρ σ H vs → PP F (bnd (eS fs) k ρ) →
    (∀ ys rs F1 ρ1 H1, ys.length = rs.length → rs.length = fs.length → Ext F G F1 → Sim K F1 G avs σ ρ1 H1 → Held K F1 G ρ1 σ H1 (vs ++ ys.zip rs) → PP F1 (k rs ρ1) → Q ys H1) → tAs K mg W fs σ H Q
  | [], k, F, H, ρ, vs, Q, s, h, p, q => q [] [] F ρ H rfl rfl (Ext.refl F G) s (by rw [List.zip_nil_left, List.append_nil]; exact h) p
  | f :: fs, k, F, H, ρ, vs, Q, s, h, p, q => by
    have p' : PP F (bnd f (fun r => bnd (bnd (eS fs) fun rs => ret (r :: rs)) k) ρ) := by
      unfold eS at p
      unfold bnd at p ⊢
      cases e : f ρ with
      | none => rw [e] at p; exact p
      | some z =>
        rw [e] at p
        obtain ⟨o, ρ1⟩ := z
        cases o with
        | exc x => exact p
        | val r => exact p
    obtain ⟨F0, G0, a0, r0, s0, e0⟩ := step R s h p'
    refine ⟨F0, G0, a0, r0, s0, ?_⟩
    have mono : ∀ {o : Option (Out RV × Rho)} {Q1 Q2 : VK}, (∀ v H, Q1 v H → Q2 v H) → EPost K mg G0 a0 W σ Q1 F0 o → EPost K mg G0 a0 W σ Q2 F0 o := fun {o} {Q1 Q2} hq z => by
      match o, z with
      | some (.exc x, ρ), z => exact z
      | some (.val a, ρ), z => exact fun v F' H' e1 e2 e3 => hq _ _ (z v F' H' e1 e2 e3)
    refine mono (fun y H1 z => ?_) e0
    obtain ⟨r, F1, ρ1, x1, s1, h1, p1⟩ := z
    have p2 : PP F1 (bnd (eS fs) (fun rs => k (r :: rs)) ρ1) := by
      unfold bnd ret at p1
      unfold bnd
      cases e : eS fs ρ1 with
      | none => rw [e] at p1; exact p1
      | some z =>
        rw [e] at p1
        obtain ⟨o, ρ2⟩ := z
        cases o with
        | exc x => exact p1
        | val rs => exact p1
    refine stepA R s1 h1 p2 fun ys rs F2 ρ2 H2 hl hl' x2 s2 h2 p3 => ?_
    refine q (y :: ys) (r :: rs) F2 ρ2 H2 (by rw [List.length_cons, List.length_cons, hl]) (by rw [List.length_cons, List.length_cons, hl']) (x1.trans x2) s2 ?_ p3
    rw [List.zip_cons_cons]
    rw [List.append_assoc] at h2
    exact h2
end
theorem _root_.L2.PE.imp {X : Cx} {e : Expr} {t t' : TE} (h : PE X e t) (i : ∀ σ H Q, t' σ H Q → t σ H Q) : PE X e t' := ⟨fun pins s σ H Q I q => h.run pins s σ H Q I (i σ H Q q)⟩
theorem _root_.L2.PT.imp {X : Cx} {e : Expr} {t t' : TT} (h : PT X e t) (i : ∀ σ H Q, t' σ H Q → t σ H Q) : PT X e t' := ⟨fun pins s σ H Q I q => h.run pins s σ H Q I (i σ H Q q)⟩
theorem _root_.L2.PS.imp {X : Cx} {e : Stmt} {t t' : TS} (h : PS X e t) (i : ∀ D σ H, t' D σ H → t D σ H) : PS X e t' := ⟨fun pins s σ H Q I q => h.run pins s σ H Q I (i Q σ H q)⟩
theorem _root_.L2.PSs.imp {X : Cx} {e : List Stmt} {t t' : TS} (h : PSs X e t) (i : ∀ D σ H, t' D σ H → t D σ H) : PSs X e t' := ⟨fun pins s σ H Q I q => h.run pins s σ H Q I (i Q σ H q)⟩
theorem _root_.L2.PG.imp {X : Cx} {e : Expr} {t t' : TG} (h : PG X e t) (i : ∀ v σ H Q, t' v σ H Q → t v σ H Q) : PG X e t' := ⟨fun pins s σ H v u Q I r q => h.run pins s σ H v u Q I r (i v σ H Q q)⟩
end Fd
/-! Fd, part 3: expressions. -/
namespace Fd
open PySem PySem.Spec PyProof.Rows L2

/-- a value that stands for data now -/
def RepV (K : Fr) (F H : Hp) (v : V) (d : D) : Prop := Rep K F v d ∨ ∃ a, v = V.ref a ∧ Own K F H a d
def Fin (K : Fr) (F H : Hp) (Q : VK) : Option RV → Prop
  | some (.sh d) => ∀ v F' H', Grow F H F' H' → Rep K F' v d → Q v H'
  | some (.new d) => ∀ a F' H', Grow F H F' H' → H a = none → F' a = none → Own K F' H' a d → Q (.ref a) H'
  | _ => False
inductive RepVL (K : Fr) (F H : Hp) : List V → List D → Prop
  | nil : RepVL K F H [] []
  | cons {v : V} {vs : List V} {d : D} {ds : List D} : RepV K F H v d → RepVL K F H vs ds → RepVL K F H (v :: vs) (d :: ds)
def rD1 (K : Fr) (op : D → Option RV) : V → Hp → VK → Prop := fun x H Q => ∃ F d, Same F H ∧ RepV K F H x d ∧ Fin K F H Q (op d)
def rD2 (K : Fr) (op : D → D → Option RV) : R2 := fun x y H Q => ∃ F d e, Same F H ∧ RepV K F H x d ∧ RepV K F H y e ∧ Fin K F H Q (op d e)
def rDN (K : Fr) (op : List D → Option RV) : List V → Hp → VK → Prop := fun xs H Q => ∃ F ds, Same F H ∧ RepVL K F H xs ds ∧ Fin K F H Q (op ds)
def rDM (K : Fr) (op : List D → Option RV) : V → List V → Hp → VK → Prop := fun x xs H Q => ∃ F ds, Same F H ∧ RepVL K F H (x :: xs) ds ∧ Fin K F H Q (op ds)
def rDS (K : Fr) (op : D → Option Int → Option Int → Option RV) : V → Option Int → Option Int → Hp → VK → Prop := fun x lo hi H Q => ∃ F d, Same F H ∧ RepV K F H x d ∧ Fin K F H Q (op d lo hi)
def rCh (K : Fr) (ch : List D → D → Option (D × D)) : V → List V → Hp → VK → Prop := fun x xs H Q => ∃ F a d ds d' e, Same F H ∧ x = V.ref a ∧ Own K F H a d ∧ F a = none ∧ RepL K F xs ds ∧ ch ds d = some (d', e) ∧
  ∀ o v, Own K F (upd H a o) a d' → Rep K F v e → Q v (upd H a o)
abbrev Op1 (X : Cx) (f : Value → Sem Value) (op : D → Option RV) : Prop := UnR X f (rD1 X.K op)
abbrev Op2 (X : Cx) (f : Value → Value → Sem Value) (op : D → D → Option RV) : Prop := OpR X f (rD2 X.K op)
abbrev OpN (X : Cx) (f : Value) (op : List D → Option RV) : Prop := CallR X f (rDN X.K op)
abbrev OpM (X : Cx) (id : String) (op : List D → Option RV) : Prop := MtR X id (rDM X.K op)
abbrev OpC (X : Cx) (id : String) (ch : List D → D → Option (D × D)) : Prop := MtR X id (rCh X.K ch)

section
variable {K : Fr} {mg : Str → Option Value} {F G H : Hp} {avs : List V} {W : WX} {σ : St} {ρ : Rho} {vs : List (V × RV)}
theorem tE_mono {f : M RV} {Q Q' : VK} (h : ∀ v H, Q v H → Q' v H) : tE K mg W f σ H Q → tE K mg W f σ H Q' := fun ⟨F, G, avs, ρ, s, p⟩ => ⟨F, G, avs, ρ, s, by
  revert p
  generalize f ρ = o
  intro p
  match o, p with
  | some (.exc x, ρ), p => exact p
  | some (.val a, ρ), p => exact fun v F' H' e1 e2 e3 => h _ _ (p v F' H' e1 e2 e3)⟩
theorem tT_mono {f : M Bool} {Q Q' : Bool → Hp → Prop} (h : ∀ v H, Q v H → Q' v H) : tT K mg W f σ H Q → tT K mg W f σ H Q' := fun ⟨F, G, avs, ρ, s, p⟩ => ⟨F, G, avs, ρ, s, by
  revert p
  generalize f ρ = o
  intro p
  match o, p with
  | some (.exc x, ρ), p => exact p
  | some (.val a, ρ), p => exact fun F' H' e1 e2 => h _ _ (p F' H' e1 e2)⟩
theorem rd_rep {v : V} {r : RV} {d : D} (s : Sim K F G avs σ ρ H) (h : RvOk K F G ρ σ H v r) (e : rd r ρ = some d) : RepV K F H v d := by
  cases r with
  | sh x => cases e; exact .inl h
  | new x =>
    cases e
    obtain ⟨a, h1, h2, _⟩ := h
    exact .inr ⟨a, h1, h2⟩
  | slot i =>
    have h : σ[i]? = some (some v) := h
    have own : ∀ x, Mu ρ i x → RepV K F H v x := fun x m => by
      obtain ⟨a, h1, h2, _⟩ := s.ow i x m
      rw [h] at h1
      cases h1
      exact .inr ⟨a, rfl, h2⟩
    unfold rd at e
    cases c : ρ[i]? with
    | none => simp only [c] at e; cases e
    | some cl =>
      simp only [c] at e
      cases cl with
      | un => cases e
      | sh x =>
        cases e
        obtain ⟨w, h1, h2⟩ := s.sh i _ c
        rw [h] at h1
        cases h1
        exact .inl h2
      | own x => cases e; exact own _ (.inl c)
      | arg x => cases e; exact own _ (.inr c)
theorem fin_ok {Q : VK} {o : Option RV} (s : Sim K F G avs σ ρ H) (p : EPost K mg G avs W σ Q F (fin o ρ)) : Fin K F H Q o := by
  match o, p with
  | some (.sh d), p => exact fun v F' H' g r => p v F' H' (g.ext s.gl) (s.grow g) r
  | some (.new d), p =>
    refine fun a F' H' g n f w => p _ F' H' (g.ext s.gl) (s.grow g) ⟨a, rfl, w, f, s.gl.free n, fun i e m z => ?_⟩
    obtain ⟨b, h1, h2, _⟩ := s.ow i e m
    rw [z] at h1
    cases h1
    exact h2.ne n
theorem ap1_ok {op : D → Option RV} {x : V} {r : RV} {Q : VK} (s : Sim K F G avs σ ρ H) (hx : RvOk K F G ρ σ H x r) (p : EPost K mg G avs W σ Q F (ap1 op r ρ)) : rD1 K op x H Q := by
  unfold ap1 at p
  cases e : rd r ρ with
  | none => rw [e] at p; exact p.elim
  | some d =>
    rw [e] at p
    exact ⟨F, d, s.le, rd_rep s hx e, fin_ok s p⟩
theorem ap2_ok {op : D → D → Option RV} {x y : V} {r q : RV} {Q : VK} (s : Sim K F G avs σ ρ H) (hx : RvOk K F G ρ σ H x r) (hy : RvOk K F G ρ σ H y q) (p : EPost K mg G avs W σ Q F (ap2 op r q ρ)) : rD2 K op x y H Q := by
  unfold ap2 at p
  cases e : rd r ρ with
  | none => rw [e] at p; exact p.elim
  | some d =>
    rw [e] at p
    cases e2 : rd q ρ with
    | none => rw [e2] at p; exact p.elim
    | some d2 =>
      rw [e2] at p
      exact ⟨F, d, d2, s.le, rd_rep s hx e, rd_rep s hy e2, fin_ok s p⟩
theorem rds_rep (s : Sim K F G avs σ ρ H) : ∀ {ys : List V} {rs : List RV} {ds : List D}, ys.length = rs.length → (∀ p ∈ ys.zip rs, RvOk K F G ρ σ H p.1 p.2) → rds rs ρ = some ds → RepVL K F H ys ds
  | [], [], ds, _, _, e => by cases e; exact .nil
  | y :: ys, r :: rs, ds, hl, h, e => by
    unfold rds at e
    cases e1 : rd r ρ with
    | none => rw [e1] at e; cases e
    | some d =>
      rw [e1] at e
      cases e2 : rds rs ρ with
      | none => rw [e2] at e; cases e
      | some ds' =>
        rw [e2] at e
        cases e
        exact .cons (rd_rep s (h (y, r) (by rw [List.zip_cons_cons]; exact List.mem_cons_self)) e1) (rds_rep s (by simpa using hl) (fun p hp => h p (by rw [List.zip_cons_cons]; exact List.mem_cons_of_mem _ hp)) e2)
  | [], _ :: _, _, hl, _, _ => by cases hl
  | _ :: _, [], _, hl, _, _ => by cases hl
theorem apN_ok {op : List D → Option RV} {ys : List V} {rs : List RV} {Q : VK} (s : Sim K F G avs σ ρ H) (hl : ys.length = rs.length) (h : ∀ p ∈ ys.zip rs, RvOk K F G ρ σ H p.1 p.2) (p : EPost K mg G avs W σ Q F (apN op rs ρ)) : rDN K op ys H Q := by
  unfold apN at p
  cases e : rds rs ρ with
  | none => rw [e] at p; exact p.elim
  | some ds =>
    rw [e] at p
    exact ⟨F, ds, s.le, rds_rep s hl h e, fin_ok s p⟩
/-- held results are frozen -/
theorem fzs_ok {α : Type} {PP : Hp → Option (Out α × Rho) → Prop} (R : Rest K mg G avs W PP) : ∀ {rs : List RV} {ys : List V} {k : List D → M α} {F : Hp} {ρ : Rho} {vs : List (V × RV)}, ys.length = rs.length →
    Sim K F G avs σ ρ H → Held K F G ρ σ H (vs ++ ys.zip rs) → PP F (bnd (fzs rs) k ρ) → ∃ F1 ρ1 ds, Ext F G F1 ∧ Sim K F1 G avs σ ρ1 H ∧ Held K F1 G ρ1 σ H vs ∧ RepL K F1 ys ds ∧ PP F1 (k ds ρ1)
  | [], [], k, F, ρ, vs, _, s, h, p => ⟨F, ρ, [], Ext.refl F G, s, by rw [List.zip_nil_left, List.append_nil] at h; exact h, .nil, p⟩
  | r :: rs, y :: ys, k, F, ρ, vs, hl, s, h, p => by
    have p' : PP F (bnd (fz r) (fun d => bnd (bnd (fzs rs) fun ds => ret (d :: ds)) k) ρ) := by
      unfold fzs at p
      unfold bnd at p ⊢
      cases e : fz r ρ with
      | none => rw [e] at p; exact p
      | some z =>
        rw [e] at p
        obtain ⟨o, ρ1⟩ := z
        cases o with
        | exc x => exact p
        | val r => exact p
    have p2 : ∀ (F1 : Hp) (ρ1 : Rho) (d : D), PP F1 (bnd (bnd (fzs rs) fun ds => ret (d :: ds)) k ρ1) → PP F1 (bnd (fzs rs) (fun ds => k (d :: ds)) ρ1) := fun F1 ρ1 d p1 => by
      unfold bnd ret at p1
      unfold bnd
      cases e : fzs rs ρ1 with
      | none => rw [e] at p1; exact p1
      | some z =>
        rw [e] at p1
        obtain ⟨o, ρ2⟩ := z
        cases o with
        | exc x => exact p1
        | val rs => exact p1
    have fin : ∀ (F1 : Hp) (ρ1 : Rho) (d : D), Ext F G F1 → Sim K F1 G avs σ ρ1 H → Held K F1 G ρ1 σ H (vs ++ ys.zip rs) → Rep K F1 y d → PP F1 (bnd (bnd (fzs rs) fun ds => ret (d :: ds)) k ρ1) →
        ∃ F1 ρ1 ds, Ext F G F1 ∧ Sim K F1 G avs σ ρ1 H ∧ Held K F1 G ρ1 σ H vs ∧ RepL K F1 (y :: ys) ds ∧ PP F1 (k ds ρ1) := fun F1 ρ1 d e1 s1 h1 hr p1 => by
      obtain ⟨F2, ρ2, ds, e2, s2, h2, r2, q2⟩ := fzs_ok R (by simpa using hl) s1 h1 (p2 _ _ _ p1)
      exact ⟨F2, ρ2, d :: ds, e1.trans e2, s2, h2, .cons (hr.mono e2.le) r2, q2⟩
    rw [List.zip_cons_cons] at h
    have hy := h.ok (y, r) (List.mem_append_right _ List.mem_cons_self)
    -- the held ones without this one
    have sub : ∀ {F1 : Hp} {ρ1 : Rho}, (∀ p ∈ vs ++ ys.zip rs, RvOk K F1 G ρ1 σ H p.1 p.2) → Held K F1 G ρ1 σ H (vs ++ ys.zip rs) := fun ok => ⟨ok, by
      have nd := h.nd
      unfold tmps at nd ⊢
      rw [List.filterMap_append] at nd ⊢
      refine nd.sublist (List.Sublist.append (List.Sublist.refl _) ?_)
      rw [List.filterMap_cons]
      split
      · exact List.Sublist.refl _
      · exact List.sublist_cons_self _ _⟩
    have old : ∀ p ∈ vs ++ ys.zip rs, RvOk K F G ρ σ H p.1 p.2 := fun p hp => h.ok p (by
      rcases List.mem_append.mp hp with z | z
      · exact List.mem_append_left _ z
      · exact List.mem_append_right _ (List.mem_cons_of_mem _ z))
    cases r with
    | sh d => exact fin F ρ d (Ext.refl F G) s (sub old) hy p'
    | new d =>
      obtain ⟨a, ea, o1, o2, o3, o4⟩ := hy
      have ea : y = .ref a := ea
      subst ea
      obtain ⟨F1, e1, s1, r1, f1⟩ := s.freezeNew o1 o2 o3 o4
      refine fin F1 ρ d e1 s1 (sub fun p hp => ?_) r1 (R.up _ _ _ e1 p')
      obtain ⟨v, q⟩ := p
      have z := old _ hp
      cases q with
      | sh x => exact Rep.mono e1.le x z
      | slot i => exact z
      | new x =>
        obtain ⟨b, eb, q1, q2, q3, q4⟩ := z
        have eb : v = .ref b := eb
        subst eb
        have hb : b ≠ a := fun w => by
          subst w
          have nd := h.nd
          unfold tmps at nd
          rw [List.filterMap_append, List.filterMap_cons] at nd
          have nd : (List.filterMap Fd.tmp vs ++ b :: List.filterMap Fd.tmp (ys.zip rs)).Nodup := nd
          rcases List.mem_append.mp hp with w | w
          · have m1 : b ∈ List.filterMap Fd.tmp vs := List.mem_filterMap.mpr ⟨_, w, rfl⟩
            exact (List.nodup_append.mp nd).2.2 b m1 b List.mem_cons_self rfl
          · have m1 : b ∈ List.filterMap Fd.tmp (ys.zip rs) := List.mem_filterMap.mpr ⟨_, w, rfl⟩
            exact (List.nodup_cons.mp (List.nodup_append.mp nd).2.1).1 m1
        exact ⟨b, rfl, q1.mono e1.le fun _ z => z, by rw [f1 b hb]; exact q2, q3, q4⟩
    | slot i =>
      have hy : σ[i]? = some (some y) := hy
      unfold bnd fz at p'
      dsimp only at p'
      cases c : ρ[i]? with
      | none => rw [c] at p'; exact (R.no _ p').elim
      | some cl =>
        rw [c] at p'
        cases cl with
        | un => exact (R.no _ p').elim
        | arg d => exact (R.no _ p').elim
        | sh d =>
          obtain ⟨w, z1, z2⟩ := s.sh i d c
          rw [hy] at z1
          cases z1
          exact fin F ρ d (Ext.refl F G) s (sub old) z2 p'
        | own d =>
          obtain ⟨F1, w, z1, e1, s1, r1, f1⟩ := s.freeze c
          rw [hy] at z1
          cases z1
          refine fin F1 _ d e1 s1 (sub fun p hp => ?_) r1 (R.up _ _ _ e1 p')
          obtain ⟨v, q⟩ := p
          have z := old _ hp
          cases q with
          | sh x => exact Rep.mono e1.le x z
          | slot i => exact z
          | new x =>
            obtain ⟨b, eb, q1, q2, q3, q4⟩ := z
            have eb : v = .ref b := eb
            subst eb
            have hb : b ≠ w := fun e => q4 i d (.inl c) (by rw [e]; exact hy)
            refine ⟨b, rfl, q1.mono e1.le fun _ z => z, by rw [f1 b hb]; exact q2, q3, fun j x m w => ?_⟩
            have m' : ∃ x', Mu ρ j x' := by
              by_cases hj : i = j
              · subst hj; exact ⟨d, .inl c⟩
              · exact ⟨x, (Mu.set_ne hj).mp m⟩
            obtain ⟨x', m'⟩ := m'
            exact q4 j x' m' w
  | [], _ :: _, _, _, _, _, hl, _, _, _ => by cases hl
  | _ :: _, [], _, _, _, _, hl, _, _, _ => by cases hl
end

/-! ### expressions -/
section
variable {X : Cx} {W : WX} {a b c e : Expr} {es : List Expr} {fa fb fc f : M RV} {fs : List (M RV)} {pos : Pos}
theorem se_v (i : Nat) {x : Str} (hN : X.N[i]? = some x := by rfl) (hv : Vis X.env.scope x := by first | exact Or.inl rfl | exact Or.inr (Or.inl rfl) | exact Or.inr (Or.inr rfl)) (hd : (x == ("__debug__" : Str)) = false := by decide)
    (hcd : (x == ("__classdict__" : Str)) = false := by decide) : SE X W (.Name x pos) (eV i) := (pe_var hN hv hd hcd).imp fun σ H Q ⟨F, G, avs, ρ, s, p⟩ => by
  unfold eV at p
  cases h : ρ[i]? with
  | none => rw [h] at p; exact p.elim
  | some cl =>
    rw [h] at p
    cases cl with
    | un => exact p.elim
    | sh d =>
      obtain ⟨v, h1, h2⟩ := s.sh i d h
      exact ⟨v, h1, p v F H (Ext.refl F G) s h2⟩
    | own d =>
      obtain ⟨v, h1, _⟩ := s.ow i d (.inl h)
      exact ⟨_, h1, p _ F H (Ext.refl F G) s h1⟩
    | arg d =>
      obtain ⟨v, h1, _⟩ := s.ow i d (.inr h)
      exact ⟨_, h1, p _ F H (Ext.refl F G) s h1⟩
theorem tC_imp {K : Fr} {mg : Str → Option Value} {v : V} {d : D} (hr : ∀ F, Rep K F v d) : ∀ σ H Q, tE K mg W (eC d) σ H Q → tC v σ H Q := fun σ H Q ⟨F, G, avs, ρ, s, p⟩ => p v F H (Ext.refl F G) s (hr F)
theorem se_int {i : Int} {j pos} : SE X W (.Constant (.int i) j pos) (eC (.int i)) := pe_int.imp (tC_imp fun _ => .int i)
theorem se_bl {b : Bool} {j pos} : SE X W (.Constant (.bool b) j pos) (eC (.bool b)) := pe_bl.imp (tC_imp fun _ => .bl b)
theorem se_non {j pos} : SE X W (.Constant .none j pos) (eC .none) := pe_non.imp (tC_imp fun _ => .non)
theorem se_str {x : Str} {j pos} : SE X W (.Constant (.str x) j pos) (eC (.str x)) := pe_str.imp (tC_imp fun _ => .str x)
theorem se_glob {x : Str} {i : Int} {t : Tok} (hg : Gl X x) (hm : X.mg x = some (.int i t)) (hd : (x == ("__debug__" : Str)) = false := by decide) : SE X W (.Name x pos) (eC (.int i)) :=
  (pe_glob (v := .int i) hg hm ⟨t, rfl⟩ hd).imp (tC_imp fun _ => .int i)
theorem two_ok {K : Fr} {mg : Str → Option Value} {op : D → D → Option RV} {σ : St} {H : Hp} {Q : VK} (h : tE K mg W (eB op fa fb) σ H Q) : tOp (rD2 K op) (tE K mg W fa) (tE K mg W fb) σ H Q := by
  obtain ⟨F, G, avs, ρ, s, p⟩ := h
  refine tE_mono (fun x H1 z => ?_) (step EPost.rest s Held.nil p)
  obtain ⟨r, F1, ρ1, e1, s1, h1, p1⟩ := z
  refine tE_mono (fun y H2 z => ?_) (step EPost.rest s1 h1 p1)
  obtain ⟨q, F2, ρ2, e2, s2, h2, p2⟩ := z
  exact ap2_ok s2 (h2.ok (x, r) (by simp)) (h2.ok (y, q) (by simp)) p2
theorem one_ok {K : Fr} {mg : Str → Option Value} {op : D → Option RV} {σ : St} {H : Hp} {Q : VK} (h : tE K mg W (eU op fa) σ H Q) : tUn (rD1 K op) (tE K mg W fa) σ H Q := by
  obtain ⟨F, G, avs, ρ, s, p⟩ := h
  refine tE_mono (fun x H1 z => ?_) (step EPost.rest s Held.nil p)
  obtain ⟨r, F1, ρ1, e1, s1, h1, p1⟩ := z
  exact ap1_ok s1 (h1.ok (x, r) (by simp)) p1
theorem se_bin {op : Operator} {dop : D → D → Option RV} (ho : Op2 X (binaryOp op) dop) (ha : SE X W a fa) (hb : SE X W b fb) : SE X W (.BinOp a op b pos) (eB dop fa fb) := (pe_op ho ha hb).imp fun _ _ _ h => two_ok h
theorem se_un {op : UnaryOp} {dop : D → Option RV} (ho : Op1 X (unaryOp op) dop) (ha : SE X W a fa) : SE X W (.UnaryOp op a pos) (eU dop fa) := (pe_un ho ha).imp fun _ _ _ h => one_ok h
theorem se_cmp {op : CmpOp} {dop : D → D → Option RV} (ho : Op2 X (compareOp op) dop) (ha : SE X W a fa) (hb : SE X W b fb) (hm : behindInMarks op b = false) : SE X W (.Compare a [op] [b] pos) (eB dop fa fb) := (pe_cmpR ho ha hb hm).imp fun _ _ _ h => two_ok h
/-- a value that is a truth value, tested -/
theorem tst_ok {K : Fr} {mg : Str → Option Value} {σ : St} {H : Hp} {Q : Bool → Hp → Prop} (h : tT K mg W (tst f) σ H Q) : tE K mg W f σ H fun x H1 => ∃ k, x = .bl k ∧ Q k H1 := by
  obtain ⟨F, G, avs, ρ, s, p⟩ := h
  refine tE_mono (fun x H1 z => ?_) (step TPost.rest s Held.nil p)
  obtain ⟨r, F1, ρ1, e1, s1, h1, p1⟩ := z
  cases e : rd r ρ1 with
  | none => rw [e] at p1; exact p1.elim
  | some d =>
    rw [e] at p1
    cases d with
    | bool k =>
      rcases rd_rep s1 (h1.ok (x, r) (by simp)) e with z | ⟨_, _, z⟩
      · cases z
        exact ⟨k, rfl, p1 F1 H1 (Ext.refl F1 G) s1⟩
      · exact z.elim
    | _ => exact p1.elim
theorem st_cmp {op : CmpOp} {dop : D → D → Option RV} (ho : Op2 X (compareOp op) dop) (ha : SE X W a fa) (hb : SE X W b fb) (hm : behindInMarks op b = false) : ST X W (.Compare a [op] [b] pos) (tst (eB dop fa fb)) :=
  (pt_cmpR ho ha hb hm).imp fun _ _ _ h => two_ok_t h
where
  two_ok_t {dop : D → D → Option RV} {σ : St} {H : Hp} {Q : Bool → Hp → Prop} (h : tT X.K X.mg W (tst (eB dop fa fb)) σ H Q) : tTest (tOp (rD2 X.K dop) (tE X.K X.mg W fa) (tE X.K X.mg W fb)) σ H Q := two_ok (tst_ok h)
theorem st_val (h : SE X W e f) (he : ∀ whole, isTrue e X.env whole = (do let v ← whole; standAt e.pos; holding [v] (truthy v)) := by intro _; rfl) : ST X W e (tst f) := (pt_val h he).imp fun _ _ _ h => tst_ok h
theorem chain_ok {K : Fr} {mg : Str → Option Value} {op op' : D → D → Option RV} {σ : St} {H : Hp} {Q : VK} (h : tE K mg W (eCh op op' fa fb fc) σ H Q) : tChain (rD2 K op) (rD2 K op') (tE K mg W fa) (tE K mg W fb) (tE K mg W fc) σ H Q := by
  obtain ⟨F, G, avs, ρ, s, p⟩ := h
  refine tE_mono (fun x H1 z => ?_) (step EPost.rest s Held.nil p)
  obtain ⟨r, F1, ρ1, e1, s1, h1, p1⟩ := z
  refine tE_mono (fun y H2 z => ?_) (step EPost.rest s1 h1 p1)
  obtain ⟨q, F2, ρ2, e2, s2, h2, p2⟩ := z
  have hx := h2.ok (x, r) (by simp)
  have hy := h2.ok (y, q) (by simp)
  unfold bnd ap2 at p2
  cases e1 : rd r ρ2 with
  | none => rw [e1] at p2; exact p2.elim
  | some d =>
    rw [e1] at p2
    cases e2 : rd q ρ2 with
    | none => rw [e2] at p2; exact p2.elim
    | some d2 =>
      rw [e2] at p2
      refine ⟨F2, d, d2, s2.le, rd_rep s2 hx e1, rd_rep s2 hy e2, ?_⟩
      dsimp only at p2 ⊢
      cases eo : op d d2 with
      | none => rw [eo] at p2; exact p2.elim
      | some v =>
        rw [eo] at p2
        cases v with
        | slot i => exact p2.elim
        | new z => exact p2.elim
        | sh z =>
          cases z with
          | bool k =>
            refine fun v F3 H3 g3 r3 => ?_
            cases r3
            refine ⟨k, rfl, ?_⟩
            have s3 := s2.grow g3
            have x3 := g3.ext s2.gl
            cases k with
            | false => exact p2 _ F3 H3 x3 s3 (.bl false)
            | true =>
              have p3 := EPost.rest.up _ _ _ x3 p2
              have h3 : Held K F3 G ρ2 σ H3 [(y, q)] := by
                refine ⟨fun p hp => ?_, ?_⟩
                · cases List.mem_singleton.mp hp
                  have hy' : RvOk K F2 G ρ2 σ H2 y q := hy
                  cases q with
                  | sh x => exact Rep.mono g3.le x hy'
                  | slot i => exact hy'
                  | new x =>
                    obtain ⟨a, q1, q2, q3, q4, q5⟩ := hy'
                    exact ⟨a, q1, q2.mono g3.le fun o z => g3.hl _ _ z, g3.keep q2.ne q3, q4, q5⟩
                · show (tmps [(y, q)]).Nodup
                  unfold tmps
                  rw [List.filterMap_cons]
                  split <;> simp
              refine tE_mono (fun w H4 z => ?_) (step EPost.rest s3 h3 p3)
              obtain ⟨r4, F4, ρ4, e4, s4, h4, p4⟩ := z
              exact ap2_ok s4 (h4.ok (y, q) (by simp)) (h4.ok (w, r4) (by simp)) p4
          | _ => exact p2.elim
theorem se_chain {op op' : CmpOp} {dop dop' : D → D → Option RV} (ho : Op2 X (compareOp op) dop) (ho' : Op2 X (compareOp op') dop') (ha : SE X W a fa) (hb : SE X W b fb) (hc : SE X W c fc)
    (hm : lastMarks [op, op'] [b, c] = false := by with_unfolding_all rfl) : SE X W (.Compare a [op, op'] [b, c] pos) (eCh dop dop' fa fb fc) := (pe_chain ho ho' ha hb hc hm).imp fun _ _ _ h => chain_ok h
theorem st_chain {op op' : CmpOp} {dop dop' : D → D → Option RV} (ho : Op2 X (compareOp op) dop) (ho' : Op2 X (compareOp op') dop') (ha : SE X W a fa) (hb : SE X W b fb) (hc : SE X W c fc)
    (hm : lastMarks [op, op'] [b, c] = false := by with_unfolding_all rfl) : ST X W (.Compare a [op, op'] [b, c] pos) (tst (eCh dop dop' fa fb fc)) := (pt_chain ho ho' ha hb hc hm).imp fun _ _ _ h => chain_ok (tst_ok h)
end

/-! ### and, or, not, if else -/
abbrev SW (X : Cx) (W : WX) (e : Expr) (f : M Bool) : Prop := PW X e (tT X.K X.mg W f)
abbrev SA (X : Cx) (W : WX) (es : List Expr) (fs : List (M RV)) : Prop := PA X es (tAs X.K X.mg W fs)
theorem _root_.L2.PW.imp {X : Cx} {e : Expr} {t t' : TT} (h : PW X e t) (i : ∀ σ H Q, t' σ H Q → t σ H Q) : PW X e t' := ⟨fun wh pins s σ H Q I q => h.run wh pins s σ H Q I (i σ H Q q)⟩
section
variable {X : Cx} {W : WX} {a b c e : Expr} {es rest : List Expr} {fa fb fc f : M RV} {ta tb tc : M Bool} {fs : List (M RV)} {pos : Pos} {K : Fr} {mg : Str → Option Value} {σ : St} {H : Hp}
theorem and_ok {Q : Bool → Hp → Prop} (h : tT K mg W (tAnd ta tb) σ H Q) : L2.tAnd (tT K mg W ta) (tT K mg W tb) σ H Q := by
  obtain ⟨F, G, avs, ρ, s, p⟩ := h
  refine tT_mono (fun x H1 z => ?_) (stepT TPost.rest s Held.nil p)
  obtain ⟨F1, ρ1, e1, s1, h1, p1⟩ := z
  cases x with
  | true => exact ⟨F1, G, avs, ρ1, s1, p1⟩
  | false => exact p1 F1 H1 (Ext.refl F1 G) s1
theorem or_ok {Q : Bool → Hp → Prop} (h : tT K mg W (tOr ta tb) σ H Q) : L2.tOr (tT K mg W ta) (tT K mg W tb) σ H Q := by
  obtain ⟨F, G, avs, ρ, s, p⟩ := h
  refine tT_mono (fun x H1 z => ?_) (stepT TPost.rest s Held.nil p)
  obtain ⟨F1, ρ1, e1, s1, h1, p1⟩ := z
  cases x with
  | false => exact ⟨F1, G, avs, ρ1, s1, p1⟩
  | true => exact p1 F1 H1 (Ext.refl F1 G) s1
theorem not_ok {Q : Bool → Hp → Prop} (h : tT K mg W (tNot ta) σ H Q) : L2.tNot (tT K mg W ta) σ H Q := by
  obtain ⟨F, G, avs, ρ, s, p⟩ := h
  refine tT_mono (fun x H1 z => ?_) (stepT TPost.rest s Held.nil p)
  obtain ⟨F1, ρ1, e1, s1, h1, p1⟩ := z
  exact p1 F1 H1 (Ext.refl F1 G) s1
theorem sw_and1 (ha : ST X W a ta) : SW X W (.BoolOp .And [a] pos) ta := pw_and1 ha
theorem sw_or1 (ha : ST X W a ta) : SW X W (.BoolOp .Or [a] pos) ta := pw_or1 ha
theorem sw_and (ha : ST X W a ta) (hb : SW X W (.BoolOp .And (b :: rest) pos) tb) : SW X W (.BoolOp .And (a :: b :: rest) pos) (tAnd ta tb) := (pw_and ha hb).imp fun _ _ _ h => and_ok h
theorem sw_or (ha : ST X W a ta) (hb : SW X W (.BoolOp .Or (b :: rest) pos) tb) : SW X W (.BoolOp .Or (a :: b :: rest) pos) (tOr ta tb) := (pw_or ha hb).imp fun _ _ _ h => or_ok h
theorem st_w (h : SW X W e ta) : ST X W e ta := h.pt
theorem st_not (ha : ST X W a ta) : ST X W (.UnaryOp .Not a pos) (tNot ta) := (pt_not ha).imp fun _ _ _ h => not_ok h
/-- one more test of a value, then the rest -/
theorem tstep {Q : VK} {k : Bool → M RV} (h : tE K mg W (bnd (tst f) k) σ H Q) : tE K mg W f σ H fun x H1 => ∃ c, x = .bl c ∧ tE K mg W (k c) σ H1 Q := by
  obtain ⟨F, G, avs, ρ, s, p⟩ := h
  have p' : EPost K mg G avs W σ Q F (bnd f (fun r => bnd (fun ρ => match rd r ρ with
    | some (.bool b) => some (.val b, ρ)
    | _ => none) k) ρ) := by
    unfold tst bnd at p
    unfold bnd
    cases e : f ρ with
    | none => rw [e] at p; exact p
    | some z =>
      rw [e] at p
      obtain ⟨o, ρ1⟩ := z
      cases o with
      | exc x => exact p
      | val r => exact p
  refine tE_mono (fun x H1 z => ?_) (step EPost.rest s Held.nil p')
  obtain ⟨r, F1, ρ1, e1, s1, h1, p1⟩ := z
  unfold bnd at p1
  dsimp only at p1
  cases e : rd r ρ1 with
  | none => rw [e] at p1; exact p1.elim
  | some d =>
    rw [e] at p1
    cases d with
    | bool k =>
      rcases rd_rep s1 (h1.ok (x, r) (by simp)) e with z | ⟨_, _, z⟩
      · cases z
        exact ⟨k, rfl, F1, G, avs, ρ1, s1, p1⟩
      · exact z.elim
    | _ => exact p1.elim
theorem ret_ok {Q : VK} {d : D} {v : V} (hr : ∀ F, Rep K F v d) (h : tE K mg W (ret (.sh d)) σ H Q) : Q v H := by
  obtain ⟨F, G, avs, ρ, s, p⟩ := h
  exact p v F H (Ext.refl F G) s (hr F)
theorem se_one {op} (h : SE X W a fa) : SE X W (.BoolOp op [a] pos) fa := pe_one h
theorem se_and (ha : SE X W a fa) (hb : SE X W (.BoolOp .And (b :: rest) pos) fb) : SE X W (.BoolOp .And (a :: b :: rest) pos) (eAnd fa fb) := (pe_and ha hb).imp fun σ H Q h => by
  refine tE_mono (fun x H1 z => ?_) (tstep h)
  obtain ⟨c, e, z⟩ := z
  refine ⟨c, e, ?_⟩
  cases c with
  | true => exact z
  | false => exact ret_ok (fun _ => .bl false) z
theorem se_or (ha : SE X W a fa) (hb : SE X W (.BoolOp .Or (b :: rest) pos) fb) : SE X W (.BoolOp .Or (a :: b :: rest) pos) (eOr fa fb) := (pe_or ha hb).imp fun σ H Q h => by
  refine tE_mono (fun x H1 z => ?_) (tstep h)
  obtain ⟨c, e, z⟩ := z
  refine ⟨c, e, ?_⟩
  cases c with
  | false => exact z
  | true => exact ret_ok (fun _ => .bl true) z
theorem se_not (ha : SE X W a fa) : SE X W (.UnaryOp .Not a pos) (eNot fa) := (pe_not ha).imp fun σ H Q h => by
  refine tE_mono (fun x H1 z => ?_) (tstep h)
  obtain ⟨c, e, z⟩ := z
  exact ⟨c, e, ret_ok (fun _ => .bl (!c)) z⟩
theorem se_if (hc : ST X W c tc) (ha : SE X W a fa) (hb : SE X W b fb) : SE X W (.IfExp c a b pos) (eIf tc fa fb) := (pe_ifExp hc ha hb).imp fun σ H Q ⟨F, G, avs, ρ, s, p⟩ => by
  refine tT_mono (fun x H1 z => ?_) (stepT EPost.rest s Held.nil p)
  obtain ⟨F1, ρ1, e1, s1, h1, p1⟩ := z
  cases x with
  | true => exact ⟨F1, G, avs, ρ1, s1, p1⟩
  | false => exact ⟨F1, G, avs, ρ1, s1, p1⟩

/-! ### arguments, displays -/
theorem sa_nil : SA X W [] [] := pa_nil
theorem sa_cons (ha : SE X W a fa) (hr : SA X W es fs) (hs : starEach (a :: es) X.env = (false, eval a X.env) :: starEach es X.env := by rfl) : SA X W (a :: es) (fa :: fs) := pa_cons ha hr hs
theorem lenLine {n : Nat} (h : n ≤ 1000) : n ≤ sizeLine := Nat.le_of_lt (small1000 h)
theorem se_tup {k} (h : SA X W es fs) (hl : fs.length ≤ 1000 := by decide) : SE X W (.Tuple es k pos) (eTup fs) := (pe_tup h).imp fun σ H Q ⟨F, G, avs, ρ, s, p⟩ => by
  refine stepA EPost.rest s Held.nil p fun ys rs F1 ρ1 H1 l1 l2 x1 s1 h1 p1 => ?_
  obtain ⟨F2, ρ2, ds, x2, s2, h2, r2, p2⟩ := fzs_ok EPost.rest l1 s1 h1 p1
  refine ⟨by rw [l1, l2]; exact lenLine hl, fun q hq => ?_⟩
  have g := Grow.froz (o := .tup ys) s2.le hq
  exact p2 _ _ _ (g.ext s2.gl) (s2.grow g) (.tup upd_same (r2.mono g.le))
theorem se_lst (h : SA X W es fs) (hl : fs.length ≤ 1000 := by decide) : SE X W (.List es pos) (eLst fs) := (pe_lst h).imp fun σ H Q ⟨F, G, avs, ρ, s, p⟩ => by
  refine stepA EPost.rest s Held.nil p fun ys rs F1 ρ1 H1 l1 l2 x1 s1 h1 p1 => ?_
  obtain ⟨F2, ρ2, ds, x2, s2, h2, r2, p2⟩ := fzs_ok EPost.rest l1 s1 h1 p1
  refine ⟨by rw [l1, l2]; exact lenLine hl, fun q hq => ?_⟩
  have g := Grow.fresh (o := .lst ys) s2.le hq
  have p3 : EPost X.K X.mg G avs W σ Q F2 (fin (some (.new (.list ds))) ρ2) := p2
  exact fin_ok s2 p3 q _ _ g hq (s2.le.free hq) ⟨ys, upd_same, r2⟩

/-! ### subscripts, slices -/
theorem se_ix {op : D → D → Option RV} (ho : IxR X (rD2 X.K op)) (ha : SE X W a fa) (hb : SE X W b fb) (hs : PlainIx b) : SE X W (.Subscript a b pos) (eB op fa fb) := (pe_ix ho ha hb hs).imp fun _ _ _ h => two_ok h
def tO (K : Fr) (mg : Str → Option Value) (W : WX) : Option (M RV) → TO
  | none => tNoPart
  | some f => tPart (tE K mg W f)
theorem stepP {α : Type} {PP : Hp → Option (Out α × Rho) → Prop} {G : Hp} {avs : List V} (R : Rest K mg G avs W PP) {o : Option (M RV)} {k : Option Int → M α} {F : Hp} {ρ : Rho} {vs : List (V × RV)}
    (s : Sim K F G avs σ ρ H) (h : Held K F G ρ σ H vs) (p : PP F (bnd (ePart o) k ρ)) : tO K mg W o σ H fun i H1 => ∃ F1 ρ1, Ext F G F1 ∧ Sim K F1 G avs σ ρ1 H1 ∧ Held K F1 G ρ1 σ H1 vs ∧ PP F1 (k i ρ1) := by
  cases o with
  | none => exact ⟨F, ρ, Ext.refl F G, s, h, p⟩
  | some f =>
    have p' : PP F (bnd f (fun r => bnd (fun ρ => match rd r ρ with
      | some (.int i) => some (.val (some i), ρ)
      | _ => none) k) ρ) := by
      unfold ePart bnd at p
      unfold bnd
      dsimp only at p
      cases e : f ρ with
      | none => rw [e] at p; exact p
      | some z =>
        rw [e] at p
        obtain ⟨o, ρ1⟩ := z
        cases o with
        | exc x => exact p
        | val r => exact p
    refine tE_mono (fun x H1 z => ?_) (step R s h p')
    obtain ⟨r, F1, ρ1, e1, s1, h1, p1⟩ := z
    unfold bnd at p1
    dsimp only at p1
    cases e : rd r ρ1 with
    | none => rw [e] at p1; exact (R.no _ p1).elim
    | some d =>
      rw [e] at p1
      cases d with
      | int i =>
        rcases rd_rep s1 (h1.ok (x, r) (by simp)) e with z | ⟨_, _, z⟩
        · cases z
          refine ⟨i, rfl, F1, ρ1, e1, s1, ⟨fun p hp => h1.ok p (List.mem_append_left _ hp), ?_⟩, p1⟩
          have nd := h1.nd
          unfold tmps at nd ⊢
          rw [List.filterMap_append] at nd
          exact (List.nodup_append.mp nd).1
        · exact z.elim
      | _ => exact (R.no _ p1).elim
abbrev SO (X : Cx) (W : WX) (e : Option Expr) (o : Option (M RV)) : Prop := PO X e (tO X.K X.mg W o)
theorem so_none : SO X W none none := po_none
theorem so_some (h : SE X W e f) : SO X W (some e) (some f) := po_some h
theorem se_slice {lo hi : Option Expr} {fl fh : Option (M RV)} {p2} {op : D → Option Int → Option Int → Option RV} (ho : SlR X (rDS X.K op)) (ha : SE X W a fa) (hl : SO X W lo fl) (hh : SO X W hi fh) :
    SE X W (.Subscript a (.Slice lo hi none p2) pos) (eSl op fa fl fh) := (pe_slice ho ha hl hh).imp fun σ H Q ⟨F, G, avs, ρ, s, p⟩ => by
  refine tE_mono (fun x H1 z => ?_) (step EPost.rest s Held.nil p)
  obtain ⟨r, F1, ρ1, e1, s1, h1, p1⟩ := z
  have mono : ∀ {o : Option (M RV)} {σ : St} {H : Hp} {Q Q' : Option Int → Hp → Prop}, (∀ i H, Q i H → Q' i H) → tO X.K X.mg W o σ H Q → tO X.K X.mg W o σ H Q' := fun {o} {σ} {H} {Q} {Q'} hq z => by
    cases o with
    | none => exact hq _ _ z
    | some f => exact tE_mono (fun x H1 ⟨i, e, q⟩ => ⟨i, e, hq _ _ q⟩) z
  refine mono (fun i H2 z => ?_) (stepP EPost.rest s1 h1 p1)
  obtain ⟨F2, ρ2, e2, s2, h2, p2⟩ := z
  refine mono (fun j H3 z => ?_) (stepP EPost.rest s2 h2 p2)
  obtain ⟨F3, ρ3, e3, s3, h3, p3⟩ := z
  have hx := h3.ok (x, r) (by simp)
  unfold ap3 at p3
  cases e : rd r ρ3 with
  | none => rw [e] at p3; exact p3.elim
  | some d =>
    rw [e] at p3
    exact ⟨F3, d, s3.le, rd_rep s3 hx e, fin_ok s3 p3⟩

/-! ### calls of built-ins, methods -/
theorem argN_ok {op : List D → Option RV} {Q : VK} (h : tE K mg W (eN op fs) σ H Q) : tCB (rDN K op) (tAs K mg W fs) σ H Q := by
  obtain ⟨F, G, avs, ρ, s, p⟩ := h
  refine stepA EPost.rest s Held.nil p fun ys rs F1 ρ1 H1 l1 l2 x1 s1 h1 p1 => ?_
  exact apN_ok s1 l1 (fun q hq => h1.ok q (by simpa using hq)) p1
theorem se_callB {x : Str} {id : String} {op : List D → Option RV} {p : Pos} (ho : OpN X (.builtin id) op) (hg : Gl X x) (hm : X.mg x = none) (hv : bootBuiltins x = some (.builtin id)) (ha : SA X W (e :: es) fs) (hn : x ≠ "__name__" := by decide) (hdb : (x == ("__debug__" : Str)) = false := by decide)
    (he : starEach (e :: es) X.env = (false, eval e X.env) :: starEach es X.env := by rfl) (hpl : (backTo pos (starEach es X.env)).any (·.1) = false := by rfl) : SE X W (.Call (.Name x p) (e :: es) [] pos) (eN op fs) :=
  (pe_callB ho hg hm hv ha hn hdb he hpl).imp fun _ _ _ h => argN_ok h
theorem se_callTy {x : Str} {T : String} {op : List D → Option RV} {p : Pos} (ho : OpN X (.type T) op) (hg : Gl X x) (hm : X.mg x = none) (hv : bootBuiltins x = some (.type T)) (ha : SA X W (e :: es) fs) (hn : x ≠ "__name__" := by decide) (hdb : (x == ("__debug__" : Str)) = false := by decide)
    (he : starEach (e :: es) X.env = (false, eval e X.env) :: starEach es X.env := by rfl) (hpl : (backTo pos (starEach es X.env)).any (·.1) = false := by rfl) : SE X W (.Call (.Name x p) (e :: es) [] pos) (eN op fs) :=
  (pe_callTy ho hg hm hv ha hn hdb he hpl).imp fun _ _ _ h => argN_ok h
/-- the receiver is looked at, then the arguments -/
theorem chk_ok {α : Type} {PP : Hp → Option (Out α × Rho) → Prop} {G : Hp} {avs : List V} (R : Rest K mg G avs W PP) {k : Nat} {r : RV} {g : M α} {F : Hp} {ρ : Rho} (p : PP F (bnd (chk k r) (fun _ => g) ρ)) : ∃ d, rd r ρ = some d ∧ kind d = k ∧ PP F (g ρ) := by
  unfold bnd chk at p
  cases e : rd r ρ with
  | none => rw [e] at p; exact (R.no _ p).elim
  | some d =>
    rw [e] at p
    dsimp only at p
    by_cases hk : kind d = k
    · rw [if_pos hk] at p
      exact ⟨d, rfl, hk, p⟩
    · rw [if_neg hk] at p
      exact (R.no _ p).elim
/-- the built-in type of a kind that has methods here -/
def kindT : Nat → String
  | 3 => "str"
  | 4 => "list"
  | 6 => "dict"
  | _ => ""
theorem ty_ok {F : Hp} {v : V} {d : D} (s : Same F H) (h : RepV K F H v d) (hk : kindT (kind d) ≠ "") (hd : kind d = 6 → ∃ a, v = V.ref a ∧ Own K F H a d) : tyV K (kindT (kind d)) v H := by
  cases d with
  | none => exact absurd rfl hk
  | bool b => exact absurd rfl hk
  | int i => exact absurd rfl hk
  | tuple ds => exact absurd rfl hk
  | str x =>
    rcases h with z | ⟨_, _, z⟩
    · cases z
      exact rfl
    · exact z.elim
  | list ds =>
    rcases h with z | ⟨a, e, xs, z, _⟩
    · cases z with
      | lst z1 z2 => exact .inl ⟨rfl, _, s.seq z1⟩
    · subst e
      exact .inl ⟨rfl, xs, .inl (.inl z)⟩
  | dict ds =>
    obtain ⟨a, e, z⟩ := hd rfl
    subst e
    rcases z with ⟨ks, z, _⟩ | ⟨ks, z, _⟩
    · exact .inr (.inr (.inl ⟨rfl, .inl ⟨ks, z⟩⟩))
    · exact .inr (.inr (.inl ⟨rfl, .inr ⟨ks, z⟩⟩))
/-- text methods, list methods that change nothing -/
theorem meth_ok {k : Nat} {op : List D → Option RV} {Q : VK} (hk : k = 3 ∨ k = 4) (h : tE K mg W (eMth k op fa fs) σ H Q) : tBM K (kindT k) (rDM K op) (tE K mg W fa) (tAs K mg W fs) σ H Q := by
  obtain ⟨F, G, avs, ρ, s, p⟩ := h
  refine tE_mono (fun x H1 z => ?_) (step EPost.rest s Held.nil p)
  obtain ⟨r, F1, ρ1, e1, s1, h1, p1⟩ := z
  obtain ⟨d, ed, ek, p1⟩ := chk_ok EPost.rest p1
  refine ⟨?_, stepA EPost.rest s1 h1 p1 fun ys rs F2 ρ2 H2 l1 l2 x2 s2 h2 p2 => ?_⟩
  · have := ty_ok s1.le (rd_rep s1 (h1.ok (x, r) (by simp)) ed) (by rw [ek]; rcases hk with e | e <;> (rw [e]; decide)) (fun z => by rw [ek] at z; rcases hk with e | e <;> (rw [e] at z; cases z))
    rw [ek] at this
    exact this
  · exact apN_ok (ys := x :: ys) s2 (by rw [List.length_cons, List.length_cons, l1]) (fun q hq => h2.ok q (by rw [List.zip_cons_cons] at hq; simpa using hq)) p2
theorem se_meth {k : Nat} {id : String} {name : Str} {apos : Pos} {op : List D → Option RV} (hk : k = 3 ∨ k = 4) (pa : PlainAttrs (kindT k)) (slot : Slot (kindT k) name id) (hty : typeOf (.builtin id) = pure (.type "method_descriptor")) (hm : OpM X id op) (ho : SE X W a fa) (ha : SA X W (e :: es) fs)
    (hbase : attributeBase a name X.env (eval a X.env) = eval a X.env := by rfl)
    (hfew : ((backTo pos (starEach (e :: es) X.env)).all (fun x => !x.1) && (backToKw pos (keywordEach [] X.env)).all (fun x => x.1.isSome)
      && decide ((e :: es).length + ([] : List Keyword).length + (if ([] : List Keyword).isEmpty then 0 else 1) < 30)) = true := by rfl)
    (hline : (apos.endLine == pos.line) = true := by rfl) (hs : starEach (e :: es) X.env = (false, eval e X.env) :: starEach es X.env := by rfl) (hplain : (backTo pos (starEach es X.env)).any (·.1) = false := by rfl) :
    SE X W (.Call (.Attribute a name apos) (e :: es) [] pos) (eMth k op fa fs) := (pe_bm pa slot hty hm ho ha hbase hfew hline hs hplain).imp fun _ _ _ h => meth_ok hk h
theorem se_meth0 {k : Nat} {id : String} {name : Str} {apos : Pos} {op : List D → Option RV} (hk : k = 3 ∨ k = 4) (pa : PlainAttrs (kindT k)) (slot : Slot (kindT k) name id) (hty : typeOf (.builtin id) = pure (.type "method_descriptor")) (hm : OpM X id op) (ho : SE X W a fa)
    (hbase : attributeBase a name X.env (eval a X.env) = eval a X.env := by rfl) (hline : (apos.endLine == pos.line) = true := by rfl) : SE X W (.Call (.Attribute a name apos) [] [] pos) (eMth k op fa []) := (pe_bm0 pa slot hty hm ho hbase hline).imp fun _ _ _ h => by
  exact tE_mono (fun x H1 z => ⟨z.1, z.2⟩) (meth_ok hk h)
/-- methods that change their receiver -/
theorem chkO_ok {α : Type} {PP : Hp → Option (Out α × Rho) → Prop} {G : Hp} {avs : List V} (R : Rest K mg G avs W PP) {k : Nat} {r : RV} {g : M α} {F : Hp} {ρ : Rho} (p : PP F (bnd (chkO k r) (fun _ => g) ρ)) : ∃ i d, r = .slot i ∧ Mu ρ i d ∧ kind d = k ∧ PP F (g ρ) := by
  unfold bnd chkO at p
  cases r with
  | sh y => exact (R.no _ p).elim
  | new y => exact (R.no _ p).elim
  | slot i =>
    dsimp only at p
    cases c : ρ[i]? with
    | none => rw [c] at p; exact (R.no _ p).elim
    | some cl =>
      rw [c] at p
      cases cl with
      | un => exact (R.no _ p).elim
      | sh d => exact (R.no _ p).elim
      | own d =>
        dsimp only at p
        by_cases hk : kind d = k
        · rw [if_pos hk] at p
          exact ⟨i, d, rfl, .inl c, hk, p⟩
        · rw [if_neg hk] at p
          exact (R.no _ p).elim
      | arg d =>
        dsimp only at p
        by_cases hk : kind d = k
        · rw [if_pos hk] at p
          exact ⟨i, d, rfl, .inr c, hk, p⟩
        · rw [if_neg hk] at p
          exact (R.no _ p).elim
theorem chg_ok {k : Nat} {ch : List D → D → Option (D × D)} {Q : VK} (hk : k = 4 ∨ k = 6) (h : tE K mg W (eChg k ch fa fs) σ H Q) : tBM K (kindT k) (rCh K ch) (tE K mg W fa) (tAs K mg W fs) σ H Q := by
  obtain ⟨F, G, avs, ρ, s, p⟩ := h
  refine tE_mono (fun x H1 z => ?_) (step EPost.rest s Held.nil p)
  obtain ⟨r, F1, ρ1, e1, s1, h1, p1⟩ := z
  obtain ⟨i, d, rfl, m, ek, p1⟩ := chkO_ok EPost.rest p1
  have hx : σ[i]? = some (some x) := h1.ok (x, .slot i) (by simp)
  obtain ⟨a, z1, z2, z3, z4⟩ := s1.ow i d m
  rw [hx] at z1
  cases z1
  refine ⟨?_, stepA EPost.rest s1 Held.nil p1 fun ys rs F2 ρ2 H2 l1 l2 x2 s2 h2 p2 => ?_⟩
  · have := ty_ok (K := K) s1.le (.inr ⟨a, rfl, z2⟩ : RepV K F1 H1 (.ref a) d) (by rw [ek]; rcases hk with e | e <;> (rw [e]; decide)) fun _ => ⟨a, rfl, z2⟩
    rw [ek] at this
    exact this
  · obtain ⟨F3, ρ3, ds, x3, s3, h3, r3, p3⟩ := fzs_ok EPost.rest l1 s2 h2 p2
    unfold chg at p3
    dsimp only at p3
    have go : ∀ (d : D) (c : D → Cell), ((ρ3[i]? = some (Cell.own d) ∧ c = Cell.own) ∨ (ρ3[i]? = some (Cell.arg d) ∧ c = Cell.arg)) → EPost K mg G avs W σ Q F3 (match ch ds d with
        | some (d', v) => some (.val (.sh v), ρ3.set i (c d'))
        | none => none) → rCh K ch (.ref a) ys H2 Q := fun d c hc p => by
      obtain ⟨a', y1, y2, y3, y4⟩ := s3.ow i d (by rcases hc with z | z; exact .inl z.1; exact .inr z.1)
      rw [hx] at y1
      cases y1
      cases e : ch ds d with
      | none => rw [e] at p; exact p.elim
      | some q =>
        obtain ⟨d', v⟩ := q
        rw [e] at p
        refine ⟨F3, a, d, ds, d', v, s3.le, rfl, y2, y3, r3, e, fun o w ow rw' => ?_⟩
        have s4 := s3.change (c := c d') (by rcases hc with z | z; exact .inl ⟨z.1, by rw [z.2]⟩; exact .inr ⟨z.1, by rw [z.2]⟩) hx ow
        exact p w F3 _ (Ext.refl F3 G) s4 rw'
    cases c : ρ3[i]? with
    | none => rw [c] at p3; exact p3.elim
    | some cl =>
      rw [c] at p3
      cases cl with
      | un => exact p3.elim
      | sh d => exact p3.elim
      | own d => exact go d Cell.own (.inl ⟨c, rfl⟩) p3
      | arg d => exact go d Cell.arg (.inr ⟨c, rfl⟩) p3
theorem se_chg {k : Nat} {id : String} {name : Str} {apos : Pos} {ch : List D → D → Option (D × D)} (hk : k = 4 ∨ k = 6) (pa : PlainAttrs (kindT k)) (slot : Slot (kindT k) name id) (hty : typeOf (.builtin id) = pure (.type "method_descriptor")) (hm : OpC X id ch) (ho : SE X W a fa) (ha : SA X W (e :: es) fs)
    (hbase : attributeBase a name X.env (eval a X.env) = eval a X.env := by rfl)
    (hfew : ((backTo pos (starEach (e :: es) X.env)).all (fun x => !x.1) && (backToKw pos (keywordEach [] X.env)).all (fun x => x.1.isSome)
      && decide ((e :: es).length + ([] : List Keyword).length + (if ([] : List Keyword).isEmpty then 0 else 1) < 30)) = true := by rfl)
    (hline : (apos.endLine == pos.line) = true := by rfl) (hs : starEach (e :: es) X.env = (false, eval e X.env) :: starEach es X.env := by rfl) (hplain : (backTo pos (starEach es X.env)).any (·.1) = false := by rfl) :
    SE X W (.Call (.Attribute a name apos) (e :: es) [] pos) (eChg k ch fa fs) := (pe_bm pa slot hty hm ho ha hbase hfew hline hs hplain).imp fun _ _ _ h => chg_ok hk h
theorem se_chg0 {k : Nat} {id : String} {name : Str} {apos : Pos} {ch : List D → D → Option (D × D)} (hk : k = 4 ∨ k = 6) (pa : PlainAttrs (kindT k)) (slot : Slot (kindT k) name id) (hty : typeOf (.builtin id) = pure (.type "method_descriptor")) (hm : OpC X id ch) (ho : SE X W a fa)
    (hbase : attributeBase a name X.env (eval a X.env) = eval a X.env := by rfl) (hline : (apos.endLine == pos.line) = true := by rfl) : SE X W (.Call (.Attribute a name apos) [] [] pos) (eChg k ch fa []) := (pe_bm0 pa slot hty hm ho hbase hline).imp fun _ _ _ h =>
  tE_mono (fun x H1 z => ⟨z.1, z.2⟩) (chg_ok hk h)
end
end Fd
/-! Fd, part 4: statements, loops. -/
namespace Fd
open PySem PySem.Spec PyProof.Rows L2
section
variable {X : Cx} {W : WX} {a b c e : Expr} {st : Stmt} {sts rest : List Stmt} {fa fb f : M RV} {t : M Bool} {g h : M Fl} {fs : List (M RV)} {pos : Pos} {K : Fr} {mg : Str → Option Value} {σ : St} {H : Hp}
theorem ss_nil : SSs X W [] sNop := pss_nil.imp fun D σ H ⟨F, G, avs, ρ, s, p⟩ => p σ F H (Ext.refl F G) s
theorem seq_ok {D : Ends} (q : tS K mg W (sSeq g h) D σ H) : tS K mg W g { D with nx := tS K mg W h D } σ H := by
  obtain ⟨F, G, avs, ρ, s, p⟩ := q
  refine ⟨F, G, avs, ρ, s, ?_⟩
  unfold sSeq bnd at p
  cases e : g ρ with
  | none => rw [e] at p; exact p.elim
  | some z =>
    rw [e] at p
    obtain ⟨o, ρ1⟩ := z
    cases o with
    | exc x => exact p
    | val fl =>
      intro σ' F' H' e' s'
      cases fl with
      | nx => exact ⟨F', G, avs, ρ1, s', SPost.rest.up _ _ _ e' p⟩
      | bk => exact p σ' F' H' e' s'
      | ct => exact p σ' F' H' e' s'
      | rt r => exact p σ' F' H' e' s'
theorem ss_cons (h1 : SS X W st g) (h2 : SSs X W rest h) : SSs X W (st :: rest) (sSeq g h) := (pss_cons h1 h2).imp fun _ _ _ q => seq_ok q
theorem ss_one (h1 : SS X W st g) : SSs X W [st] g := pss_one h1
theorem ss_pass : SS X W (.Pass pos) sNop := ps_pass.imp fun D σ H ⟨F, G, avs, ρ, s, p⟩ => p σ F H (Ext.refl F G) s
theorem ss_break : SS X W (.Break pos) (ret .bk) := ps_break.imp fun D σ H ⟨F, G, avs, ρ, s, p⟩ => p σ F H (Ext.refl F G) s
theorem ss_continue : SS X W (.Continue pos) (ret .ct) := ps_continue.imp fun D σ H ⟨F, G, avs, ρ, s, p⟩ => p σ F H (Ext.refl F G) s
/-- never reached -/
theorem ss_stuck : SS X W st stk := ps_never.imp fun D σ H ⟨F, G, avs, ρ, s, p⟩ => p.elim
theorem ss_ret (he : SE X W e f) : SS X W (.Return (some e) pos) (sRet f) := (ps_ret he).imp fun D σ H ⟨F, G, avs, ρ, s, p⟩ => by
  refine tE_mono (fun v H1 z => ?_) (step SPost.rest s Held.nil p)
  obtain ⟨r, F1, ρ1, e1, s1, h1, p1⟩ := z
  exact p1 σ F1 H1 (Ext.refl F1 G) s1 v (h1.ok (v, r) (by simp))
theorem ss_retN : SS X W (.Return none pos) (sRet (eC .none)) := ps_retN.imp fun D σ H ⟨F, G, avs, ρ, s, p⟩ => p σ F H (Ext.refl F G) s .non .non
theorem ss_ex (he : SE X W e f) (hs : swapsWith e none pos.line X.env = pure false := by rfl) : SS X W (.Expr e pos) (sEx f) := (ps_expr he hs).imp fun D σ H ⟨F, G, avs, ρ, s, p⟩ => by
  refine tE_mono (fun v H1 z => ?_) (step SPost.rest s Held.nil p)
  obtain ⟨r, F1, ρ1, e1, s1, h1, p1⟩ := z
  exact p1 σ F1 H1 (Ext.refl F1 G) s1
theorem ss_if (hc : ST X W c t) (ha : SSs X W sts g) (hb : SSs X W rest h) : SS X W (.If c sts rest pos) (sIf t g h) := (ps_if hc ha hb).imp fun D σ H ⟨F, G, avs, ρ, s, p⟩ => by
  refine tT_mono (fun x H1 z => ?_) (stepT SPost.rest s Held.nil p)
  obtain ⟨F1, ρ1, e1, s1, h1, p1⟩ := z
  cases x with
  | true => exact ⟨F1, G, avs, ρ1, s1, p1⟩
  | false => exact ⟨F1, G, avs, ρ1, s1, p1⟩

/-! ### stores -/
theorem asg_ok {F G : Hp} {avs : List V} {ρ ρ' : Rho} {i : Nat} {v : V} {r : RV} (s : Sim K F G avs σ ρ H) (hr : RvOk K F G ρ σ H v r) (e : asg i r ρ = some (.val (), ρ')) :
    ∃ F', Ext F G F' ∧ Sim K F' G avs (σ.set i (some v)) ρ' H := by
  unfold asg at e
  cases c : ρ[i]? with
  | none => rw [c] at e; cases e
  | some cl =>
    rw [c] at e
    have na : ∀ x, cl ≠ .arg x := fun x z => by
      subst z
      cases e
    have e : asg1 i r ρ = some (Out.val (), ρ') := by
      cases cl with
      | arg x => exact absurd rfl (na x)
      | _ => exact e
    unfold asg1 at e
    cases r with
    | sh d =>
      cases e
      exact ⟨F, Ext.refl F G, s.setSh c na hr⟩
    | new d =>
      cases e
      obtain ⟨a, ea, o1, o2, o3, o4⟩ := hr
      subst ea
      exact ⟨F, Ext.refl F G, s.setOwn c na o1 o2 o3 o4⟩
    | slot j =>
      have hr : σ[j]? = some (some v) := hr
      dsimp only at e
      cases cj : ρ[j]? with
      | none => rw [cj] at e; cases e
      | some cl2 =>
        rw [cj] at e
        cases cl2 with
        | un => cases e
        | arg d => cases e
        | sh d =>
          cases e
          obtain ⟨w, z1, z2⟩ := s.sh j d cj
          rw [hr] at z1
          cases z1
          exact ⟨F, Ext.refl F G, s.setSh c na z2⟩
        | own d =>
          cases e
          obtain ⟨F1, w, z1, e1, s1, r1, _⟩ := s.freeze cj
          rw [hr] at z1
          cases z1
          refine ⟨F1, e1, ?_⟩
          by_cases hij : j = i
          · subst hij
            exact s1.setSh (c := .sh d) (List.getElem?_set_self (List.getElem?_eq_some_iff.mp cj).1) (fun _ z => nomatch z) r1
          · exact s1.setSh (c := cl) (by rw [List.getElem?_set_ne hij]; exact c) na r1
theorem asg_noexc {i : Nat} {r : RV} {ρ ρ' : Rho} {x : Exc} (e : asg i r ρ = some (.exc x, ρ')) : False := by
  unfold asg at e
  cases c : ρ[i]? with
  | none => rw [c] at e; cases e
  | some cl =>
    rw [c] at e
    have e : asg1 i r ρ = some (Out.exc x, ρ') := by
      cases cl with
      | arg x => cases e
      | _ => exact e
    unfold asg1 at e
    cases r with
    | sh d => cases e
    | new d => cases e
    | slot j =>
      dsimp only at e
      cases cj : ρ[j]? with
      | none => rw [cj] at e; cases e
      | some cl2 =>
        rw [cj] at e
        cases cl2 <;> cases e
theorem UPost.of {G : Hp} {avs : List V} {Q : St → Hp → Prop} {F : Hp} {ρ : Rho} {m : M Unit} {k : Unit → M Fl} {D : Ends} (p : SPost K mg G avs W D F (bnd m k ρ)) (hk : k () = ret .nx) : UPost K mg G avs W D.nx F (m ρ) := by
  unfold bnd at p
  cases e : m ρ with
  | none => rw [e] at p; exact p.elim
  | some z =>
    rw [e] at p
    obtain ⟨o, ρ1⟩ := z
    cases o with
    | exc x => exact p
    | val u =>
      dsimp only at p
      rw [hk] at p
      exact fun σ' F' H' e' s' => p σ' F' H' e' s'
theorem sg_name (i : Nat) {x : Str} (hN : X.N.Nodup) (hi : X.N[i]? = some x := by rfl) (hx : Loc X.env.scope x := by first | exact Or.inl rfl | exact Or.inr rfl) (hf : X.fn x = true ∨ X.env.scope.names.lookup x = some .local := by first | exact .inl rfl | exact .inr rfl | assumption) :
    SG X W (.Name x pos) (asg i) := (pg_name hN hi hx hf).imp fun v σ H Q ⟨F, G, avs, ρ, r, s, hr, p⟩ => by
  cases e : asg i r ρ with
  | none => rw [e] at p; exact p.elim
  | some z =>
    obtain ⟨o, ρ1⟩ := z
    have ho : o = .val () := by
      cases o with
      | val u => rfl
      | exc x => exact (asg_noexc e).elim
    subst ho
    rw [e] at p
    obtain ⟨F1, e1, s1⟩ := asg_ok s hr e
    exact p _ F1 H e1 s1
theorem ss_asg {tg : Expr} {gt : RV → M Unit} (he : SE X W e f) (hg : SG X W tg gt) (hs : swapsWithSole [tg] e pos.line X.env = pure false := by rfl) (hw : swappedStores [tg] e X.env = pure none := by rfl)
    (h1 : (assignEach [tg] X.env).map (·.2) = [assign tg X.env] := by rfl) : SS X W (.Assign [tg] e pos) (sSet gt f) := (ps_asg he hg hs hw h1).imp fun D σ H ⟨F, G, avs, ρ, s, p⟩ => by
  refine tE_mono (fun v H1 z => ?_) (step SPost.rest s Held.nil p)
  obtain ⟨r, F1, ρ1, e1, s1, h1, p1⟩ := z
  exact ⟨F1, G, avs, ρ1, r, s1, h1.ok (v, r) (by simp), UPost.of (Q := D.nx) p1 rfl⟩
theorem ss_set (i : Nat) {x : Str} {pos' : Pos} (hN : X.N.Nodup) (he : SE X W e f) (hi : X.N[i]? = some x := by rfl) (hx : Loc X.env.scope x := by first | exact Or.inl rfl | exact Or.inr rfl) (hs : swapsWith e (some (.Name x pos')) pos.line X.env = pure false := by rfl) (hf : X.fn x = true ∨ X.env.scope.names.lookup x = some .local := by first | exact .inl rfl | exact .inr rfl | assumption) :
    SS X W (.Assign [.Name x pos'] e pos) (sSet (asg i) f) := (ps_set hN hi hx he hs hf).imp fun D σ H ⟨F, G, avs, ρ, s, p⟩ => by
  refine tE_mono (fun v H1 z => ?_) (step SPost.rest s Held.nil p)
  obtain ⟨r, F1, ρ1, e1, s1, h1, p1⟩ := z
  have u := UPost.of (Q := D.nx) p1 rfl
  have hr := h1.ok (v, r) (by simp)
  cases e : asg i r ρ1 with
  | none => rw [e] at u; exact u.elim
  | some z =>
    obtain ⟨o, ρ2⟩ := z
    have ho : o = .val () := by
      cases o with
      | val u => rfl
      | exc x => exact (asg_noexc e).elim
    subst ho
    rw [e] at u
    obtain ⟨F2, e2, s2⟩ := asg_ok s1 hr e
    exact u _ F2 H1 e2 s2

/-! ### while -/
theorem ss_while (hp : PassesOwn (model X.prog X.w) X.A X.env X.xe) (hc : ST X W c t) (hb : SSs X W sts g) : SS X W (.While c sts [] pos) (sWhile t g) := (ps_while hp hc hb).imp fun D σ H ⟨F, G, avs, ρ, s, p⟩ => by
  cases e : sWhile t g ρ with
  | none => rw [e] at p; exact p.elim
  | some z =>
    rw [e] at p
    obtain ⟨n, hn⟩ := sWhile_ex e
    rw [← hn] at p
    refine ⟨fun m σ H => ∃ F' ρ', Sim X.K F' G avs σ ρ' H ∧ SPost X.K X.mg G avs W D F' (whileN t g m ρ'), ⟨n, F, ρ, s, p⟩, ?_⟩
    rintro m σ H ⟨F', ρ', s', p'⟩
    cases m with
    | zero => exact p'.elim
    | succ m =>
      unfold whileN at p'
      refine tT_mono (fun x H1 z => ?_) (stepT SPost.rest s' Held.nil p')
      obtain ⟨F1, ρ1, e1, s1, h1, p1⟩ := z
      cases x with
      | false => exact p1 σ F1 H1 (Ext.refl F1 G) s1
      | true =>
        rw [if_pos rfl]
        refine ⟨fun σ' H' => ∃ F' ρ', Sim X.K F' G avs σ' ρ' H' ∧ SPost X.K X.mg G avs W D F' (whileN t g m ρ'), fun σ' H' h => ⟨m, Nat.lt_succ_self m, h⟩, F1, G, avs, ρ1, s1, ?_⟩
        rw [if_pos rfl] at p1
        unfold bnd at p1
        cases e2 : g ρ1 with
        | none => rw [e2] at p1; exact p1.elim
        | some z =>
          rw [e2] at p1
          obtain ⟨o, ρ2⟩ := z
          cases o with
          | exc x => exact p1
          | val fl =>
            intro σ' F2 H2 x2 s2
            cases fl with
            | nx => exact ⟨F2, ρ2, s2, SPost.rest.up _ _ _ x2 p1⟩
            | ct => exact ⟨F2, ρ2, s2, SPost.rest.up _ _ _ x2 p1⟩
            | bk => exact p1 σ' F2 H2 x2 s2
            | rt r => exact p1 σ' F2 H2 x2 s2
end
end Fd
/-! Fd, part 5: what loops walk, for, list comprehensions. -/
namespace Fd
open PySem PySem.Spec PyProof.Rows L2
mutual
def patG (K : Fr) : Pat → TG
  | .nm i => gName i
  | .tp ps => L2.gTup K ps.length (patGs K ps)
def patGs (K : Fr) : List Pat → TGs
  | [] => gNil
  | p :: ps => gCons (patG K p) (patGs K ps)
end
mutual
def Pat.slots : Pat → List Nat
  | .nm i => [i]
  | .tp ps => patSlots ps
def patSlots : List Pat → List Nat
  | [] => []
  | p :: ps => p.slots ++ patSlots ps
end
theorem wipe_set {σ : St} {i : Nat} {v : Option V} : ∀ {vs : List Nat}, i ∈ vs → wipe (σ.set i v) vs = wipe σ vs
  | j :: vs, h => by
    unfold wipe
    by_cases hj : i ∈ vs
    · rw [wipe_set hj]
    · have e : i = j := by
        rcases List.mem_cons.mp h with e | e
        · exact e
        · exact absurd e hj
      subst e
      have out : ∀ {vs : List Nat}, i ∉ vs → wipe (σ.set i v) vs = (wipe σ vs).set i v := fun {vs} => by
        induction vs with
        | nil => intro _; rfl
        | cons k vs ih =>
          intro hn
          have h1 : i ≠ k := fun e => hn (by rw [e]; exact List.mem_cons_self)
          have h2 : i ∉ vs := fun m => hn (List.mem_cons_of_mem _ m)
          show (wipe (σ.set i v) vs).set k none = ((wipe σ vs).set k none).set i v
          rw [ih h2, List.set_comm _ _ h1]
      rw [out hj, List.set_set]
theorem sqt_at {K : Fr} {H : Hp} {a : Addr} {xs : List V} (h : H a = some (.tup xs)) : SqT K H a xs := .inl (.inl h)
section
variable {K : Fr} {mg : Str → Option Value} {W : WX} {F G H : Hp} {avs : List V} {α : Type} {PP : Hp → Option (Out α × Rho) → Prop}
mutual
/-- a pattern takes frozen data -/
theorem pat_ok (R : Rest K mg G avs W PP) : ∀ (p : Pat) {d : D} {v : V} {σ : St} {ρ : Rho} {k : Unit → M α} {Q : St → Hp → Prop}, Sim K F G avs σ ρ H → Rep K F v d → PP F (bnd (patM p d) k ρ) →
    (∀ σ' ρ', Sim K F G avs σ' ρ' H → (∀ vs : List Nat, (∀ i ∈ p.slots, i ∈ vs) → wipe σ' vs = wipe σ vs) → PP F (k () ρ') → Q σ' H) → patG K p v σ H Q
  | .nm i, d, v, σ, ρ, k, Q, s, hr, p, q => by
    unfold patM at p
    unfold bnd at p
    cases e : asg i (.sh d) ρ with
    | none => rw [e] at p; exact (R.no _ p).elim
    | some z =>
      obtain ⟨o, ρ1⟩ := z
      rw [e] at p
      cases o with
      | exc x => exact (asg_noexc e).elim
      | val u =>
        have e2 : ∃ c, ρ[i]? = some c ∧ (∀ x, c ≠ Cell.arg x) ∧ ρ1 = ρ.set i (.sh d) := by
          unfold asg at e
          cases c : ρ[i]? with
          | none => rw [c] at e; cases e
          | some cl =>
            rw [c] at e
            refine ⟨cl, rfl, fun x z => ?_, ?_⟩
            · subst z; cases e
            · cases cl <;> first | (cases e; done) | (cases e; rfl)
        obtain ⟨c, c1, c2, rfl⟩ := e2
        show Q (σ.set i (some v)) H
        exact q _ _ (s.setSh c1 c2 hr) (fun vs h => wipe_set (h i List.mem_cons_self)) p
  | .tp ps, d, v, σ, ρ, k, Q, s, hr, p, q => by
    have no : (∀ ds, d ≠ .tuple ds) → False := fun hn => by
      have : patM (.tp ps) d = stk := by
        cases d with
        | tuple ds => exact absurd rfl (hn ds)
        | _ => rfl
      rw [this] at p
      exact (R.no _ p).elim
    cases d with
    | tuple ds =>
      cases hr with
      | @tup a xs _ h1 h2 =>
        have p : PP F (bnd (patMs ps ds) k ρ) := p
        show L2.gTup K ps.length (patGs K ps) (.ref a) σ H Q
        refine ⟨a, xs, rfl, sqt_at (s.le _ _ h1), ?_, pats_ok R ps s h2 p fun σ' ρ' s' w p' => q σ' ρ' s' w p'⟩
        rw [h2.length]
        exact pats_len R ps p
    | _ => exact (no fun _ z => nomatch z).elim
theorem pats_ok (R : Rest K mg G avs W PP) : ∀ (ps : List Pat) {ds : List D} {vs : List V} {σ : St} {ρ : Rho} {k : Unit → M α} {Q : St → Hp → Prop}, Sim K F G avs σ ρ H → RepL K F vs ds → PP F (bnd (patMs ps ds) k ρ) →
    (∀ σ' ρ', Sim K F G avs σ' ρ' H → (∀ vs : List Nat, (∀ i ∈ patSlots ps, i ∈ vs) → wipe σ' vs = wipe σ vs) → PP F (k () ρ') → Q σ' H) → patGs K ps vs σ H Q
  | [], ds, vs, σ, ρ, k, Q, s, hr, p, q => by
    cases hr with
    | nil => exact ⟨rfl, q σ ρ s (fun _ _ => rfl) p⟩
    | cons h1 h2 => exact (R.no _ p).elim
  | pt :: ps, ds, vs, σ, ρ, k, Q, s, hr, p, q => by
    cases hr with
    | nil => exact (R.no _ p).elim
    | @cons v vs d ds h1 h2 =>
      refine ⟨v, vs, rfl, ?_⟩
      have p' : PP F (bnd (patM pt d) (fun _ => bnd (patMs ps ds) k) ρ) := by
        unfold patMs bnd at p
        unfold bnd
        cases e : patM pt d ρ with
        | none => rw [e] at p; exact p
        | some z =>
          rw [e] at p
          obtain ⟨o, ρ1⟩ := z
          cases o with
          | exc x => exact p
          | val u => exact p
      refine pat_ok R pt s h1 p' fun σ1 ρ1 s1 w1 p1 => ?_
      refine pats_ok R ps s1 h2 p1 fun σ2 ρ2 s2 w2 p2 => ?_
      exact q σ2 ρ2 s2 (fun us h => (w2 us fun i hi => h i (List.mem_append_right _ hi)).trans (w1 us fun i hi => h i (List.mem_append_left _ hi))) p2
theorem pats_len (R : Rest K mg G avs W PP) : ∀ (ps : List Pat) {ds : List D} {ρ : Rho} {k : Unit → M α}, PP F (bnd (patMs ps ds) k ρ) → ds.length = ps.length
  | [], [], _, _, _ => rfl
  | [], _ :: _, _, _, p => (R.no _ p).elim
  | _ :: _, [], _, _, p => (R.no _ p).elim
  | pt :: ps, d :: ds, ρ, k, p => by
    unfold patMs bnd at p
    cases e : patM pt d ρ with
    | none => rw [e] at p; exact (R.no _ p).elim
    | some z =>
      obtain ⟨o, ρ1⟩ := z
      rw [e] at p
      cases o with
      | exc x => exact (pat_noexc pt e).elim
      | val u =>
        rw [List.length_cons, List.length_cons, pats_len R ps (ρ := ρ1) (k := k) (by
          unfold bnd
          exact p)]
theorem pat_noexc : ∀ (p : Pat) {d : D} {ρ ρ' : Rho} {x : Exc}, patM p d ρ = some (.exc x, ρ') → False
  | .nm i, d, ρ, ρ', x, e => asg_noexc e
  | .tp ps, d, ρ, ρ', x, e => by
    cases d with
    | tuple ds => exact pats_noexc ps e
    | _ => cases e
theorem pats_noexc : ∀ (ps : List Pat) {ds : List D} {ρ ρ' : Rho} {x : Exc}, patMs ps ds ρ = some (.exc x, ρ') → False
  | [], [], _, _, _, e => nomatch e
  | [], _ :: _, _, _, _, e => nomatch e
  | _ :: _, [], _, _, _, e => nomatch e
  | pt :: ps, d :: ds, ρ, ρ', x, e => by
    unfold patMs bnd at e
    cases e1 : patM pt d ρ with
    | none => rw [e1] at e; cases e
    | some z =>
      obtain ⟨o, ρ1⟩ := z
      rw [e1] at e
      cases o with
      | exc y => exact pat_noexc pt e1
      | val u => exact pats_noexc ps e
end
end
end Fd
/-! Fd, part 6: what loops walk. -/
namespace Fd
open PySem PySem.Spec PyProof.Rows L2

/-- an iterator gives the data ds, one by one, while F stands -/
def ItData (K : Fr) (J : It) (F : Hp) (ds : List D) : Prop := ∀ F1 H, Same F F1 → Same F1 H → ∀ i : Nat, (ds.length ≤ i → J.stop i H) ∧
  (∀ d, ds[i]? = some d → J.go i H ∧ ∀ x H', J.yld i H x H' → ∃ F2, Grow F1 H F2 H' ∧ Rep K F2 x d)
def IPost (K : Fr) (mg : Str → Option Value) (G : Hp) (avs : List V) (W : WX) (σ : St) (R : It → Hp → Prop) (F : Hp) : Option (Out (List D) × Rho) → Prop :=
  Pst (XB K mg F G avs W) fun ds ρ' => ∀ J F' H', Ext F G F' → Sim K F' G avs σ ρ' H' → ItData K J F' ds → R J H'
def tI (K : Fr) (mg : Str → Option Value) (W : WX) (fi : M (List D)) : TI := fun σ H R => ∃ F G avs ρ, Sim K F G avs σ ρ H ∧ IPost K mg G avs W σ R F (fi ρ)
abbrev SI (X : Cx) (W : WX) (tg e : Expr) (fi : M (List D)) : Prop := PI X tg e (tI X.K X.mg W fi)
theorem _root_.L2.PI.imp {X : Cx} {tg e : Expr} {t t' : TI} (h : PI X tg e t) (i : ∀ σ H Q, t' σ H Q → t σ H Q) : PI X tg e t' := ⟨fun pins s σ H R I q => h.run pins s σ H R I (i σ H R q)⟩
theorem _root_.L2.PI.or {X : Cx} {tg e : Expr} {t t' : TI} (h : PI X tg e t) (h' : PI X tg e t') : PI X tg e (fun σ H R => t σ H R ∨ t' σ H R) := ⟨fun pins s σ H R I q => by
  rcases q with q | q
  · exact h.run pins s σ H R I q
  · exact h'.run pins s σ H R I q⟩
section
variable {K : Fr} {mg : Str → Option Value} {W : WX} {F G H : Hp} {avs : List V} {σ : St} {ρ ρ1 : Rho}
theorem IPost.rest {R : It → Hp → Prop} : Rest K mg G avs W (IPost K mg G avs W σ R) := ⟨fun _ h => h, fun _ _ _ h => h, fun F F1 o e h => by
  match o, h with
  | some (.exc x, ρ), h => exact XB.up e h
  | some (.val a, ρ), h => exact fun J F' H' e' => h J F' H' (e.trans e')⟩
theorem fz_ok {v : V} {r : RV} {d : D} (s : Sim K F G avs σ ρ H) (hr : RvOk K F G ρ σ H v r) (e : fz r ρ = some (.val d, ρ1)) : ∃ F1, Ext F G F1 ∧ Sim K F1 G avs σ ρ1 H ∧ Rep K F1 v d := by
  unfold fz at e
  cases r with
  | sh x => cases e; exact ⟨F, Ext.refl F G, s, hr⟩
  | new x =>
    cases e
    obtain ⟨a, ea, o1, o2, o3, o4⟩ := hr
    subst ea
    obtain ⟨F1, e1, s1, r1, _⟩ := s.freezeNew o1 o2 o3 o4
    exact ⟨F1, e1, s1, r1⟩
  | slot i =>
    have hr : σ[i]? = some (some v) := hr
    dsimp only at e
    cases c : ρ[i]? with
    | none => rw [c] at e; cases e
    | some cl =>
      rw [c] at e
      cases cl with
      | un => cases e
      | arg x => cases e
      | sh x =>
        cases e
        obtain ⟨w, z1, z2⟩ := s.sh i _ c
        rw [hr] at z1
        cases z1
        exact ⟨F, Ext.refl F G, s, z2⟩
      | own x =>
        cases e
        obtain ⟨F1, w, z1, e1, s1, r1, _⟩ := s.freeze c
        rw [hr] at z1
        cases z1
        exact ⟨F1, e1, s1, r1⟩
theorem fz_noexc {r : RV} {x : Exc} (e : fz r ρ = some (.exc x, ρ1)) : False := by
  unfold fz at e
  cases r with
  | sh x => cases e
  | new x => cases e
  | slot i =>
    dsimp only at e
    cases c : ρ[i]? with
    | none => rw [c] at e; cases e
    | some cl => rw [c] at e; cases cl <;> cases e
/-- data that are walked: where the value is known as data of a kind, the walk R over it -/
theorem iD_ok {f : M RV} {R : It → Hp → Prop} (h : tI K mg W (iD f) σ H R) : (∃ x ρ1, ∃ F G avs ρ, Sim K F G avs σ ρ H ∧ f ρ = some (.exc x, ρ1) ∧ XB K mg F G avs W x ρ1) ∨
    ∃ d, ∃ F G avs ρ r ρ1 ρ2 ds, Sim K F G avs σ ρ H ∧ f ρ = some (.val r, ρ1) ∧ fz r ρ1 = some (.val d, ρ2) ∧ items d = some ds ∧ IPost K mg G avs W σ R F (some (.val ds, ρ2)) := by
  obtain ⟨F, G, avs, ρ, s, p⟩ := h
  unfold iD bnd at p
  cases e : f ρ with
  | none => rw [e] at p; exact p.elim
  | some z =>
    obtain ⟨o, ρ1⟩ := z
    rw [e] at p
    cases o with
    | exc x => exact .inl ⟨x, ρ1, F, G, avs, ρ, s, e, p⟩
    | val r =>
      dsimp only at p
      cases e2 : fz r ρ1 with
      | none => rw [e2] at p; exact p.elim
      | some z =>
        obtain ⟨o, ρ2⟩ := z
        rw [e2] at p
        cases o with
        | exc x => exact (fz_noexc e2).elim
        | val d =>
          unfold opt at p
          dsimp only at p
          cases e3 : items d with
          | none => rw [e3] at p; exact p.elim
          | some ds =>
            rw [e3] at p
            exact .inr ⟨d, F, G, avs, ρ, r, ρ1, ρ2, ds, s, e, e2, e3, p⟩
theorem tE_exc {f : M RV} {x : Exc} {Q : VK} (s : Sim K F G avs σ ρ H) (e : f ρ = some (.exc x, ρ1)) (h : XB K mg F G avs W x ρ1) : tE K mg W f σ H Q := ⟨F, G, avs, ρ, s, by rw [e]; exact h⟩
theorem tE_val {f : M RV} {r : RV} {Q : VK} (s : Sim K F G avs σ ρ H) (e : f ρ = some (.val r, ρ1)) (h : ∀ v F' H', Ext F G F' → Sim K F' G avs σ ρ1 H' → RvOk K F' G ρ1 σ H' v r → Q v H') : tE K mg W f σ H Q := ⟨F, G, avs, ρ, s, by rw [e]; exact h⟩
end
theorem itd_list {K : Fr} {F : Hp} {a : Addr} {xs : List V} {ds : List D} (h : SqL K F a xs) (r : RepL K F xs ds) : ItData K (Itl K a) F ds := fun F1 H e1 e2 i => by
  have q : SqL K H a xs := (e1.trans e2).seq h
  refine ⟨fun hl => ⟨xs, q, by rw [r.length]; exact hl⟩, fun d hd => ?_⟩
  obtain ⟨v, h1, h2⟩ := r.get hd
  exact ⟨⟨xs, v, q, h1⟩, fun x H' ⟨y1, y2⟩ => by
    subst y1
    have := y2 xs q
    rw [h1] at this
    cases this
    exact ⟨F1, Grow.refl e2, h2.mono e1⟩⟩
theorem itd_tup {K : Fr} {F : Hp} {a : Addr} {xs : List V} {ds : List D} (h : SqT K F a xs) (r : RepL K F xs ds) : ItData K (Itt K a) F ds := fun F1 H e1 e2 i => by
  have q : SqT K H a xs := Same.sqt (e1.trans e2) h
  refine ⟨fun hl => ⟨xs, q, by rw [r.length]; exact hl⟩, fun d hd => ?_⟩
  obtain ⟨v, h1, h2⟩ := r.get hd
  exact ⟨⟨xs, v, q, h1⟩, fun x H' ⟨y1, y2⟩ => by
    subst y1
    have := y2 xs q
    rw [h1] at this
    cases this
    exact ⟨F1, Grow.refl e2, h2.mono e1⟩⟩
theorem itd_str {K : Fr} {F : Hp} {x : Str} : ItData K (Its x) F (x.cps.toList.map fun c => .str ⟨#[c]⟩) := fun F1 H e1 e2 i => by
  refine ⟨fun hl => show x.cps.size ≤ i by simpa using hl, fun d hd => ?_⟩
  rw [List.getElem?_map] at hd
  cases e : x.cps.toList[i]? with
  | none => rw [e] at hd; cases hd
  | some c =>
    rw [e] at hd
    cases hd
    have hi : i < x.cps.size := by
      have := (List.getElem?_eq_some_iff.mp e).1
      simpa using this
    refine ⟨hi, fun v H' y => ?_⟩
    obtain ⟨y1, c', y2, y3⟩ := y
    subst y1
    subst y3
    have : c' = c := by
      rw [Array.getElem?_toList] at e
      rw [e] at y2
      exact (Option.some.inj y2).symm
    subst this
    exact ⟨F1, Grow.refl e2, .str _⟩
theorem itd_range {K : Fr} {F : Hp} (lo : Int) (n : Nat) : ItData K (Itr lo n) F (upFrom lo n) := fun F1 H e1 e2 i => by
  refine ⟨fun hl => show n ≤ i by simpa [upFrom] using hl, fun d hd => ?_⟩
  unfold upFrom at hd
  rw [List.getElem?_map] at hd
  by_cases hi : i < n
  · rw [List.getElem?_range hi] at hd
    cases hd
    exact ⟨hi, fun x H' ⟨y1, y2⟩ => by
      subst y1 y2
      exact ⟨F1, Grow.refl e2, .int _⟩⟩
  · rw [List.getElem?_eq_none (by simpa using hi)] at hd
    cases hd
theorem itd_rangeC {K : Fr} {F : Hp} (lo c : Int) (n : Nat) : ItData K (Itc lo c n) F (stepFrom lo c n) := fun F1 H e1 e2 i => by
  refine ⟨fun hl => show n ≤ i by simpa [stepFrom] using hl, fun d hd => ?_⟩
  unfold stepFrom at hd
  rw [List.getElem?_map] at hd
  by_cases hi : i < n
  · rw [List.getElem?_range hi] at hd
    cases hd
    exact ⟨hi, fun x H' ⟨y1, y2⟩ => by
      subst y1 y2
      exact ⟨F1, Grow.refl e2, .int _⟩⟩
  · rw [List.getElem?_eq_none (by simpa using hi)] at hd
    cases hd
section
variable {X : Cx} {W : WX} {tg e : Expr} {es : List Expr} {f : M RV} {fs : List (M RV)} {pos : Pos}
/-- over a list, a tuple, a text -/
theorem si_data (he : SE X W e f) : SI X W tg e (iD f) := ((pi_list he).or ((pi_tup he).or (pi_str he))).imp fun σ H R h => by
  rcases iD_ok h with ⟨x, ρ1, F, G, avs, ρ, s, e1, xb⟩ | ⟨d, F, G, avs, ρ, r, ρ1, ρ2, ds, s, e1, e2, e3, p⟩
  · exact .inl (tE_exc s e1 xb)
  · have p : ∀ J F' H', Ext F G F' → Sim X.K F' G avs σ ρ2 H' → ItData X.K J F' ds → R J H' := p
    cases d with
    | list xs =>
      cases e3
      refine .inl (tE_val s e1 fun v F' H' x1 s1 r1 => ?_)
      obtain ⟨F2, x2, s2, r2⟩ := fz_ok s1 r1 e2
      cases r2 with
      | lst z1 z2 => exact ⟨_, rfl, ⟨_, s2.le.seq z1⟩, p _ F2 H' (x1.trans x2) s2 (itd_list z1 z2)⟩
    | tuple xs =>
      cases e3
      refine .inr (.inl (tE_val s e1 fun v F' H' x1 s1 r1 => ?_))
      obtain ⟨F2, x2, s2, r2⟩ := fz_ok s1 r1 e2
      cases r2 with
      | tup z1 z2 => exact ⟨_, rfl, ⟨_, sqt_at (s2.le _ _ z1)⟩, p _ F2 H' (x1.trans x2) s2 (itd_tup (sqt_at z1) z2)⟩
    | str x =>
      cases e3
      refine .inr (.inr (tE_val s e1 fun v F' H' x1 s1 r1 => ?_))
      obtain ⟨F2, x2, s2, r2⟩ := fz_ok s1 r1 e2
      cases r2
      exact ⟨x, rfl, p _ F2 H' (x1.trans x2) s2 itd_str⟩
    | _ => cases e3

theorem iN_ok {K : Fr} {mg : Str → Option Value} {op : List D → Option (List D)} {σ : St} {H : Hp} {R : It → Hp → Prop} {Q : List V → Hp → Prop} (h : tI K mg W (iN op fs) σ H R)
    (q : ∀ F H ys ds xs, Same F H → RepVL K F H ys ds → op ds = some xs → (∀ J, (∀ F', ItData K J F' xs) → R J H) → Q ys H) : tAs K mg W fs σ H Q := by
  obtain ⟨F, G, avs, ρ, s, p⟩ := h
  refine stepA IPost.rest s Held.nil p fun ys rs F1 ρ1 H1 l1 l2 x1 s1 h1 p1 => ?_
  cases e : rds rs ρ1 with
  | none => rw [e] at p1; exact p1.elim
  | some ds =>
    rw [e] at p1
    have p1 : IPost K mg G avs W σ R F1 (opt (op ds) ρ1) := p1
    unfold opt at p1
    cases e2 : op ds with
    | none => rw [e2] at p1; exact p1.elim
    | some xs =>
      rw [e2] at p1
      exact q F1 H1 ys ds xs s1.le (rds_rep s1 l1 (fun p hp => h1.ok p (by simpa using hp)) e) e2 fun J hJ => p1 J F1 H1 (Ext.refl F1 G) s1 (hJ F1)
theorem repv_int {K : Fr} {F H : Hp} {v : V} {i : Int} (h : RepV K F H v (.int i)) : v = .int i := by
  rcases h with h | ⟨_, _, h⟩
  · cases h; rfl
  · exact h.elim
theorem repv_bool {K : Fr} {F H : Hp} {v : V} {b : Bool} (h : RepV K F H v (.bool b)) : v = .bl b := by
  rcases h with h | ⟨_, _, h⟩
  · cases h; rfl
  · exact h.elim
theorem repv_str {K : Fr} {F H : Hp} {v : V} {x : Str} (h : RepV K F H v (.str x)) : v = .str x := by
  rcases h with h | ⟨_, _, h⟩
  · cases h; rfl
  · exact h.elim
theorem repv_none {K : Fr} {F H : Hp} {v : V} (h : RepV K F H v .none) : v = .non := by
  rcases h with h | ⟨_, _, h⟩
  · cases h; rfl
  · exact h.elim
theorem small62_of {i : Int} (h : small62 i = true) : -(2 ^ 62) ≤ i ∧ i < 2 ^ 62 := by
  unfold small62 at h
  simp only [Bool.and_eq_true, decide_eq_true_eq] at h
  omega
theorem si_range1 {p : Pos} (hg : Gl X "range") (hm : X.mg "range" = none) (ha : SA X W [e] fs) (hs : starEach [e] X.env = [(false, eval e X.env)] := by rfl) : SI X W tg (.Call (.Name "range" p) [e] [] pos) (iN rng1 fs) :=
  (pi_range1 hg hm ha hs).imp fun σ H R h => iN_ok h fun F H ys ds xs hF r e q => by
    unfold rng1 at e
    split at e
    · rename_i b
      cases r with
      | cons r1 r2 =>
        cases r2
        have := repv_int r1
        subst this
        split at e
        · rename_i hb
          cases e
          obtain ⟨h1, h2⟩ := small62_of hb
          exact ⟨b, rfl, h1, h2, q _ fun F' => itd_range 0 b.toNat⟩
        · cases e
    · cases e
theorem si_range2 {a b : Expr} {p : Pos} (hg : Gl X "range") (hm : X.mg "range" = none) (ha : SA X W [a, b] fs) (hs : starEach [a, b] X.env = [(false, eval a X.env), (false, eval b X.env)] := by rfl) (hs2 : starEach [b] X.env = [(false, eval b X.env)] := by rfl) :
    SI X W tg (.Call (.Name "range" p) [a, b] [] pos) (iN rng2 fs) :=
  (pi_range2 hg hm ha hs hs2).imp fun σ H R h => iN_ok h fun F H ys ds xs hF r e q => by
    unfold rng2 at e
    split at e
    · rename_i a b
      cases r with
      | cons r1 r2 =>
        cases r2 with
        | cons r2 r3 =>
          cases r3
          have := repv_int r1
          subst this
          have := repv_int r2
          subst this
          split at e
          · rename_i hb
            cases e
            obtain ⟨hb1, hb2⟩ := Bool.and_eq_true_iff.mp hb
            obtain ⟨h1, h2⟩ := small62_of hb1
            obtain ⟨h3, h4⟩ := small62_of hb2
            exact ⟨a, b, rfl, ⟨h1, h2, h3, h4⟩, q _ fun F' => itd_range a (b - a).toNat⟩
          · cases e
    · cases e
end
end Fd
/-! Fd, part 7: ranges with a step, enumerate, zip. -/
namespace Fd
open PySem PySem.Spec PyProof.Rows L2
set_option maxHeartbeats 1000000 in
theorem meets_enum1 {v : Value} {o : Obj} {B : Heap → Prop} (b : Begins v o B) :
    Meets (Builtin.«enumerate.__new__» ⟨[.type "enumerate", v], []⟩) (fun _ R s => B s.heap ∧
      R (.ok (.ret (.ref (s.heap.push o).objs.size))) { s with heap := (s.heap.push o).push { cls := .type "enumerate", data := .fields #[.none, .bool false, .ref s.heap.objs.size, rawInt 0, .none, .none] } }) :=
  .of_wp fun prog w A R s h => by
    obtain ⟨hp, g, d, tk, os⟩ := s
    obtain ⟨h0, hr⟩ := h
    have sub := sub_enumerate
    have go : ∀ {A' : Around} {E Q : Value → Shared → Prop}, Q (.ref hp.objs.size) ⟨hp.push o, g, d, tk, os⟩ → wpAny (model prog w) A' (pyIter v) Q E ⟨hp, g, d, tk, os⟩ :=
      fun q => b.iter prog w _ _ ⟨hp, g, d, tk, os⟩ _ h0 q
    wp_walk
    refine wpAny_stack_any fun st => wpAny_pure ?_
    split
    · rename_i c _ _ _ _ _
      cases (c == Value.type "enumerate")
      · wp_walk using go
        exact ⟨_, rfl, hr⟩
      · wp_walk using go
        exact ⟨_, rfl, hr⟩
    · wp_walk using go
      exact ⟨_, rfl, hr⟩
theorem call_enum1 {prog : Program} {w : World} {A : Around} {E : Value → Shared → Prop} {s : Shared} {v : Value} {o : Obj} {B : Heap → Prop} {Q : Value → Shared → Prop} (b : Begins v o B) (h0 : B s.heap)
    (h : ∀ h', IsEnum h' (s.heap.objs.size + 1) s.heap.objs.size 0 .none → h'.get? s.heap.objs.size = some o → h'.objs.size = s.heap.objs.size + 2 →
      (∀ c ob, s.heap.get? c = some ob → h'.get? c = some ob) → Q (.ref (s.heap.objs.size + 1)) { s with heap := h' }) : wpAny (model prog w) A (call (.type "enumerate") [v]) Q E s := by
  refine callType_new F.called_enumerate (by decide) (F.typeCall_enumerate_1 _) (F.newCall_enumerate_1 _) (fun obj => F.args_object_init_2 obj _) F.entry_enumerate_new (meets_enum1 b) ⟨h0, ?_⟩
  have hz : (s.heap.push o).objs.size = s.heap.objs.size + 1 := Heap.size_push ..
  show _ ∧ _
  rw [hz]
  have he : IsEnum ((s.heap.push o).push { cls := .type "enumerate", data := .fields #[.none, .bool false, .ref s.heap.objs.size, rawInt 0, .none, .none] }) (s.heap.objs.size + 1) s.heap.objs.size 0 .none := by
    have z := Heap.get?_push_size (s.heap.push o) (o := { cls := .type "enumerate", data := .fields #[.none, .bool false, .ref s.heap.objs.size, rawInt 0, .none, .none] }) rfl
    rw [hz] at z
    exact z
  exact ⟨⟨_, he, rfl⟩, h _ he (Heap.get?_push_of_some _ (Heap.get?_push_size _ b.free)) (by rw [Heap.size_push, hz]) fun c ob x => Heap.get?_push_of_some _ (Heap.get?_push_of_some _ x)⟩

/-- the tuple at a, each item in a new pair -/
def IteT (K : Fr) (a : Addr) : It :=
  ⟨fun i H => ∃ (xs : List V) (x : V), SqT K H a xs ∧ xs[i]? = some x, fun i H v H' => ∃ T x, v = .ref T ∧ H T = none ∧ H' = upd H T (.tup [.int (i : Nat), x]) ∧ ∀ xs, SqT K H a xs → xs[i]? = some x, fun i H => ∃ xs : List V, SqT K H a xs ∧ xs.length ≤ i⟩
/-- the letters of a text, each in a new pair -/
def IteS (x : Str) : It :=
  ⟨fun i _ => i < x.cps.size, fun i H v H' => ∃ T c, v = .ref T ∧ H T = none ∧ H' = upd H T (.tup [.int (i : Nat), .str ⟨#[c]⟩]) ∧ x.cps[i]? = some c, fun i _ => x.cps.size ≤ i⟩
theorem turn_enumT {P : Program} {w : World} {K : Fr} {elts : List Expr} {kk : Nat} {tpos : Pos} (a e it : Addr) :
    Turn P w K (.Tuple elts kk tpos) (IteT K a) [e, it] e (fun i h => (∃ old, IsEnum h e it ((i : Nat) : Int) old) ∧ h.IsTupleIter it a i ∧ e ≠ it) where
  mem := by simp
  obj := fun i h st b hb => by
    obtain ⟨⟨old, he⟩, ⟨o, ho, hc, hd⟩, _⟩ := st
    rcases (show b = e ∨ b = it by simpa using hb) with z | z
    · subst z; exact ⟨_, he, fun v q => nomatch q⟩
    · subst z; exact ⟨o, ho, fun v q => by rw [hd] at q; cases q⟩
  keep := fun i h h' st k => let ⟨⟨old, he⟩, hi, hne⟩ := st; ⟨⟨old, k e (by simp) _ he⟩, hi.at fun o q => k it (by simp) o q, hne⟩
  item := by
    intro X hP hw hK hc i pins s σ H E I hf st hg
    subst hP hw hK
    obtain ⟨⟨old, he⟩, hit, hne⟩ := st
    obtain ⟨xs, x, hq, hx⟩ := hg
    obtain ⟨its, rv, p, hz⟩ := I.tuple hq
    obtain ⟨u, hu, ru⟩ := rv.get hx
    have hel : e < s.heap.objs.size := Heap.lt_size he
    have pt : s.heap.IsTuple a its.toArray := p
    have hil : it < s.heap.objs.size := by obtain ⟨_, q, _⟩ := hit; exact Heap.lt_size q
    have hai : a ≠ it := fun z => by
      obtain ⟨o1, q1, c1, _⟩ := pt
      obtain ⟨o2, q2, c2, _⟩ := hit
      rw [z, q2] at q1
      cases q1
      rw [c2] at c1
      have c1 : Value.type "tuple_iterator" = Value.type "tuple" := c1
      injection c1 with c1
      exact absurd c1 (by decide)
    have hae : e ∉ [it, a] := fun z => by
      rcases (show e = it ∨ e = a by simpa using z) with z | z
      · exact hne z
      · obtain ⟨o1, q1, c1, _⟩ := pt
        have he' : s.heap.get? a = some _ := z ▸ he
        rw [q1] at he'
        cases he'
        have c1 : Value.type "enumerate" = Value.type "tuple" := c1
        injection c1 with c1
        exact absurd c1 (by decide)
    have hd1 : X.A.in1.handled = none := I.ok.hd hc
    refine wpAny_pyNext_enum_itemD (i := i) (Draws.tuple (prog := X.prog) (w := X.w) hd1 it a hai its.toArray) he ⟨hit, pt⟩ (by have := (List.getElem?_eq_some_iff.mp hu).1; simpa using this) hne hae fun y h' tk hy ho st' hT hsz hk => ?_
    have ey : y = u := by
      have z : its.toArray[i]? = some u := by simpa using hu
      rw [z] at hy
      exact (Option.some.inj hy).symm
    subst ey
    refine ⟨_, rfl, wpAny_letOwnedTupleGo_enum (s := { s with heap := h', toks := tk + 1 }) ho fun h'' he' sb => ?_⟩
    have hT2 : h''.get? s.heap.objs.size = some { cls := .type "tuple", data := .seq #[.int i tk, y] } := (sb.2 _ (Nat.ne_of_gt hel)).trans hT
    have new : ObjOk X.prog X.w (upd H s.heap.objs.size (.tup [.int (i : Nat), x])) h'' s.heap.objs.size (.tup [.int (i : Nat), x]) :=
      ⟨by show 2 ≤ sizeLine; decide, [.int i tk, y], .cons ⟨_, rfl⟩ (.cons ru .nil), ⟨_, hT2, rfl, _, rfl⟩⟩
    have I1 : Inv X pins σ (upd H s.heap.objs.size (.tup [.int (i : Nat), x])) { s with heap := h'', toks := tk + 1 } :=
      I.turnedNew (ch := [e, it]) (fun b ob hb q => (sb.2 b (fun z => hb (by simp [z]))).trans (hk b ob (fun z => hb (by simp [z])) (fun z => hb (by simp [z])) q)) hf (Nat.le_refl _) new
    refine ⟨.ref s.heap.objs.size, _, I1, rfl, ⟨_, x, rfl, I.hok.fresh (Nat.le_refl _), rfl, fun ys hy => by rw [I.tuple_inj hy hq]; exact hx⟩, ⟨⟨y, ?_⟩, st'.1.at fun o q => (sb.2 it (Ne.symm hne)).trans q, hne⟩, fun b hb => ?_⟩
    · have e1 : ((i + 1 : Nat) : Int) = (i : Int) + 1 := by omega
      rw [e1]; exact he'
    · have hb' : b < s.heap.objs.size := by
        rcases (show b = e ∨ b = it by simpa using hb) with z | z
        · rw [z]; exact hel
        · rw [z]; exact hil
      rw [upd_ne (Nat.ne_of_lt hb')]
      exact (hf b hb).1
  done := by
    intro X hP hw hK hc i pins s σ H E I hf st hg
    subst hP hw hK
    obtain ⟨⟨old, he⟩, hit, hne⟩ := st
    obtain ⟨xs, hq, hx⟩ := hg
    obtain ⟨its, rv, p, hz⟩ := I.tuple hq
    obtain ⟨f0, f1, f2, f3, f4, f5⟩ := hf it (by simp)
    have hl := rv.length
    have pt : s.heap.IsTuple a its.toArray := p
    have hT : s.TypeIs (.ref e) "enumerate" := ⟨_, he, rfl⟩
    unfold pyNext
    refine wpAny_bind (wpAny_attempt (wpAny_callSpecial?_slot (name := Str.ofString "__next__") hT F.slot_enumerate_next
      (wpAny_call_entry F.slot_enumerate_next hT F.entry_enumerate_next ?_ (F.args_enumerate_next_1 _))))
    show wpAny _ _ (field (.ref e) 2 >>= _) _ _ _
    refine wpAny_bind (wpAny_field he rfl (x := .ref it) rfl ?_)
    refine wpAny_bind (wpAny_nextOf_tuple_end (I.ok.hd hc) hit pt (by simp; omega) fun h' x he' hx' => ?_)
    obtain ⟨o, ho, hc'⟩ := hx'
    refine wpAny_bind (wpAny_isInstance (T := "StopIteration") (b := true) ⟨o, ho, hc'⟩ isSubtype_stop ?_)
    exact wpAny_pure ⟨rfl, I.turned (t' := s.toks) (fun b o hb q => he' b o hb q) f0 f1 f3 f4 f5⟩
  self := fun A i s Q E st h => let ⟨⟨_, he⟩, _⟩ := st; wpAny_pyIter_enum he h
theorem turn_enumS {P : Program} {w : World} {K : Fr} {elts : List Expr} {kk : Nat} {tpos : Pos} (x : Str) (t : Tok) (e it : Addr) :
    Turn P w K (.Tuple elts kk tpos) (IteS x) [e, it] e (fun i h => (∃ old, IsEnum h e it ((i : Nat) : Int) old) ∧ h.IsStrIter it (strIterType x) x t i ∧ e ≠ it) where
  mem := by simp
  obj := fun i h st b hb => by
    obtain ⟨⟨old, he⟩, ⟨o, ho, hc, hd⟩, _⟩ := st
    rcases (show b = e ∨ b = it by simpa using hb) with z | z
    · subst z; exact ⟨_, he, fun v q => nomatch q⟩
    · subst z; exact ⟨o, ho, fun v q => by rw [hd] at q; cases q⟩
  keep := fun i h h' st k => let ⟨⟨old, he⟩, hi, hne⟩ := st; ⟨⟨old, k e (by simp) _ he⟩, let ⟨o, q, c, d⟩ := hi; ⟨o, k it (by simp) o q, c, d⟩, hne⟩
  item := by
    intro X hP hw hK hc i pins s σ H E I hf st hg
    subst hP hw hK
    obtain ⟨⟨old, he⟩, hit, hne⟩ := st
    have hel : e < s.heap.objs.size := Heap.lt_size he
    have hil : it < s.heap.objs.size := by obtain ⟨_, q, _⟩ := hit; exact Heap.lt_size q
    have hd1 : X.A.in1.handled = none := I.ok.hd hc
    refine wpAny_pyNext_enum_itemD (i := i) (Draws.text (prog := X.prog) (w := X.w) hd1 it x t) he hit hg hne (by simpa using hne) fun y h' tk hy ho st' hT hsz hk => ?_
    obtain ⟨c, u, hx, ey⟩ := hy
    subst ey
    refine ⟨_, rfl, wpAny_letOwnedTupleGo_enum (s := { s with heap := h', toks := tk + 1 }) ho fun h'' he' sb => ?_⟩
    have hT2 : h''.get? s.heap.objs.size = some { cls := .type "tuple", data := .seq #[.int i tk, .str ⟨#[c]⟩ u] } := (sb.2 _ (Nat.ne_of_gt hel)).trans hT
    have new : ObjOk X.prog X.w (upd H s.heap.objs.size (.tup [.int (i : Nat), .str ⟨#[c]⟩])) h'' s.heap.objs.size (.tup [.int (i : Nat), .str ⟨#[c]⟩]) :=
      ⟨by show 2 ≤ sizeLine; decide, [.int i tk, .str ⟨#[c]⟩ u], .cons ⟨_, rfl⟩ (.cons ⟨_, rfl⟩ .nil), ⟨_, hT2, rfl, _, rfl⟩⟩
    have I1 : Inv X pins σ (upd H s.heap.objs.size (.tup [.int (i : Nat), .str ⟨#[c]⟩])) { s with heap := h'', toks := tk + 1 } :=
      I.turnedNew (ch := [e, it]) (fun b ob hb q => (sb.2 b (fun z => hb (by simp [z]))).trans (hk b ob (fun z => hb (by simp [z])) (fun z => hb (by simp [z])) q)) hf (Nat.le_refl _) new
    refine ⟨.ref s.heap.objs.size, _, I1, rfl, ⟨_, c, rfl, I.hok.fresh (Nat.le_refl _), rfl, hx⟩, ⟨⟨.str ⟨#[c]⟩ u, ?_⟩, let ⟨o, q, c, d⟩ := st'; ⟨o, (sb.2 it (Ne.symm hne)).trans q, c, d⟩, hne⟩, fun b hb => ?_⟩
    · have e1 : ((i + 1 : Nat) : Int) = (i : Int) + 1 := by omega
      rw [e1]; exact he'
    · have hb' : b < s.heap.objs.size := by
        rcases (show b = e ∨ b = it by simpa using hb) with z | z
        · rw [z]; exact hel
        · rw [z]; exact hil
      rw [upd_ne (Nat.ne_of_lt hb')]
      exact (hf b hb).1
  done := by
    intro X hP hw hK hc i pins s σ H E I hf st hg
    subst hP hw hK
    obtain ⟨⟨old, he⟩, hit, hne⟩ := st
    obtain ⟨f0, f1, f2, f3, f4, f5⟩ := hf it (by simp)
    have hT : s.TypeIs (.ref e) "enumerate" := ⟨_, he, rfl⟩
    have hend : x.cps[i]? = none := Array.getElem?_eq_none hg
    have fin : ∀ h', Heap.ExtBut it s.heap h' → Inv X pins σ H { s with heap := h' } := fun h' he' => I.turned (t' := s.toks) (fun b o hb q => he' b o hb q) f0 f1 f3 f4 f5
    unfold pyNext
    refine wpAny_bind (wpAny_attempt (wpAny_callSpecial?_slot (name := Str.ofString "__next__") hT F.slot_enumerate_next
      (wpAny_call_entry F.slot_enumerate_next hT F.entry_enumerate_next ?_ (F.args_enumerate_next_1 _))))
    show wpAny _ _ (field (.ref e) 2 >>= _) _ _ _
    refine wpAny_bind (wpAny_field he rfl (x := .ref it) rfl ?_)
    refine wpAny_bind ?_
    cases ha : x.cps.all (· < 128)
    · simp only [strIterType, ha, Bool.false_eq_true, if_false] at hit
      refine wpAny_nextOf_wide_end (I.ok.hd hc) hit hend fun h' x he' hx' => ?_
      obtain ⟨o, ho, hc'⟩ := hx'
      exact wpAny_bind (wpAny_isInstance (T := "StopIteration") (b := true) ⟨o, ho, hc'⟩ isSubtype_stop (wpAny_pure ⟨rfl, fin h' he'⟩))
    · simp only [strIterType, ha, if_true] at hit
      refine wpAny_nextOf_ascii_end (I.ok.hd hc) hit hend fun h' x he' hx' => ?_
      obtain ⟨o, ho, hc'⟩ := hx'
      exact wpAny_bind (wpAny_isInstance (T := "StopIteration") (b := true) ⟨o, ho, hc'⟩ isSubtype_stop (wpAny_pure ⟨rfl, fin h' he'⟩))
  self := fun A i s Q E st h => let ⟨⟨_, he⟩, _⟩ := st; wpAny_pyIter_enum he h
def iEnumA (K : Fr) (ta : TA) : TI := fun σ H R => ta σ H fun vs H1 => (∃ a xs, vs = [.ref a] ∧ SqL K H1 a xs ∧ R (Ite K a) H1) ∨ (∃ a xs, vs = [.ref a] ∧ SqT K H1 a xs ∧ R (IteT K a) H1) ∨ ∃ x, vs = [.str x] ∧ R (IteS x) H1
theorem pi_enumA {X : Cx} {e : Expr} {ta : TA} {p pos tpos : Pos} {elts : List Expr} {kk : Nat} (hg : Gl X "enumerate") (hm : X.mg "enumerate" = none) (ha : PA X [e] ta) (hs : starEach [e] X.env = [(false, eval e X.env)] := by rfl) :
    PI X (.Tuple elts kk tpos) (.Call (.Name "enumerate" p) [e] [] pos) (iEnumA X.K ta) := by
  refine ⟨fun pins s σ H R I h => ?_⟩
  refine Call_ (ld_blt I hg hm boot_enumerate (PyProof.Rows.callWith_type1 (thn (ha.run pos pins s σ H _ I h) fun us s1 ⟨vs, H1, I1, r1, q1⟩ => ?_) hs rfl))
  have two : ∀ b, b ∈ [s1.heap.objs.size + 1, s1.heap.objs.size] → FpOk X pins H1 b := fun b hb => by
    have hle : s1.heap.objs.size ≤ b := by
      rcases (show b = s1.heap.objs.size + 1 ∨ b = s1.heap.objs.size by simpa using hb) with z | z
      · rw [z]; exact Nat.le_add_right _ _
      · rw [z]; exact Nat.le_refl _
    exact I1.fpOk hle (I1.hok.fresh hle)
  rcases q1 with ⟨a, xs, ex, hq, q⟩ | ⟨a, xs, ex, hq, q⟩ | ⟨x, ex, q⟩
  · subst ex
    cases r1 with
    | cons r rr =>
      cases rr
      cases r
      obtain ⟨its, rv, p', hz⟩ := I1.list hq
      refine call_enumerate_list p'.isList fun h' he hit hsz hk => wpAny_pyIter_enum he ?_
      exact ⟨_, _, _, _, H1, rfl, I1.kept (t' := s1.toks) hk, turn_enum a (s1.heap.objs.size + 1) s1.heap.objs.size, ⟨⟨.none, he⟩, hit, Nat.succ_ne_self _⟩, two, q⟩
  · subst ex
    cases r1 with
    | cons r rr =>
      cases rr
      cases r
      obtain ⟨its, rv, p', hz⟩ := I1.tuple hq
      refine call_enum1 (begins_tuple a its.toArray) (show s1.heap.IsTuple a its.toArray from p') fun h' he hit hsz hk => wpAny_pyIter_enum he ?_
      exact ⟨_, _, _, _, H1, rfl, I1.kept (t' := s1.toks) hk, turn_enumT a (s1.heap.objs.size + 1) s1.heap.objs.size, ⟨⟨.none, he⟩, ⟨_, hit, rfl, rfl⟩, Nat.succ_ne_self _⟩, two, q⟩
  · subst ex
    cases r1 with
    | cons r rr =>
      cases rr
      obtain ⟨t, rfl⟩ := r
      refine call_enumerate_str fun h' he hit hsz hk => wpAny_pyIter_enum he ?_
      exact ⟨_, _, _, _, H1, rfl, I1.kept (t' := s1.toks) hk, turn_enumS x t (s1.heap.objs.size + 1) s1.heap.objs.size, ⟨⟨.none, he⟩, hit, Nat.succ_ne_self _⟩, two, q⟩
theorem pairsD_length : ∀ (k : Nat) (ds : List D), (pairsD k ds).length = ds.length
  | _, [] => rfl
  | k, d :: ds => by
    unfold pairsD
    rw [List.length_cons, List.length_cons, pairsD_length (k + 1) ds]
theorem pairsD_get : ∀ {k : Nat} {ds : List D} {i : Nat} {x : D}, (pairsD k ds)[i]? = some x → ∃ d, ds[i]? = some d ∧ x = .tuple [.int ((k + i : Nat) : Int), d]
  | k, [], i, x, h => by simp [pairsD] at h
  | k, d :: ds, 0, x, h => by
    unfold pairsD at h
    cases h
    exact ⟨d, rfl, rfl⟩
  | k, d :: ds, i + 1, x, h => by
    unfold pairsD at h
    rw [List.getElem?_cons_succ] at h
    obtain ⟨d', h1, h2⟩ := pairsD_get h
    refine ⟨d', by rw [List.getElem?_cons_succ]; exact h1, ?_⟩
    rw [h2, show k + 1 + i = k + (i + 1) by omega]
theorem pair_up {K : Fr} {F F1 H : Hp} {T : Addr} {u V : L2.V} {d e : D} (e1 : Same F F1) (e2 : Same F1 H) (hT : H T = none) (h : Rep K F V d) (hu : ∀ F, Rep K F u e := by intro F; constructor) :
    ∃ F2, Grow F1 H F2 (upd H T (.tup [u, V])) ∧ Rep K F2 (.ref T) (.tuple [e, d]) := by
  have g := Grow.froz (o := .tup [u, V]) e2 hT
  exact ⟨_, g, .tup upd_same (.cons (hu _) (.cons (h.mono (e1.trans g.le)) .nil))⟩
theorem rg_two {i j : Int} (ha : -(2 ^ 62) ≤ i) (ha' : i < 2 ^ 62) (hb : -(2 ^ 62) ≤ j) (hb' : j < 2 ^ 62) : RgC i j 2 ((j - i + 1) / 2).toNat := by
  refine ⟨by decide, by decide, ?_, ?_⟩
  · unfold Builtin.Range.small
    unfold Builtin.Range.rangeSize
    simp only [Builtin.Range.rangeFitsLong, Bool.and_eq_true, Bool.or_eq_true, decide_eq_true_eq, beq_iff_eq, show ((2 : Int) > 0) by decide, if_true]
    split <;> omega
  · unfold Builtin.Range.rangeSize
    simp only [show ((2 : Int) > 0) by decide, if_true]
    split <;> omega
def zipL : List D → List D → List D
  | a :: as, b :: bs => .tuple [a, b] :: zipL as bs
  | _, _ => []
def zipD : List D → Option (List D)
  | [.list as, .list bs] => some (zipL as bs)
  | [.tuple as, .tuple bs] => some (zipL as bs)
  | _ => none
def iZ (fa fb : M RV) : M (List D) := bnd (eS [fa, fb]) fun rs => bnd (fzs rs) fun ds => opt (zipD ds)
theorem zipL_get : ∀ {as bs : List D} {i : Nat} {x : D}, (zipL as bs)[i]? = some x → ∃ a b, as[i]? = some a ∧ bs[i]? = some b ∧ x = .tuple [a, b]
  | [], _, i, x, h => by simp [zipL] at h
  | _ :: _, [], i, x, h => by simp [zipL] at h
  | a :: as, b :: bs, 0, x, h => by
    unfold zipL at h
    cases h
    exact ⟨a, b, rfl, rfl, rfl⟩
  | a :: as, b :: bs, i + 1, x, h => by
    unfold zipL at h
    rw [List.getElem?_cons_succ] at h
    obtain ⟨c, d, h1, h2, h3⟩ := zipL_get h
    exact ⟨c, d, by rw [List.getElem?_cons_succ]; exact h1, by rw [List.getElem?_cons_succ]; exact h2, h3⟩
theorem zipL_end : ∀ {as bs : List D} {i : Nat}, (zipL as bs).length ≤ i → as.length ≤ i ∨ bs.length ≤ i
  | [], _, i, h => .inl (Nat.zero_le _)
  | _ :: _, [], i, h => .inr (Nat.zero_le _)
  | a :: as, b :: bs, 0, h => by
    unfold zipL at h
    rw [List.length_cons] at h
    exact absurd h (by omega)
  | a :: as, b :: bs, i + 1, h => by
    unfold zipL at h
    rw [List.length_cons] at h
    rcases zipL_end (as := as) (bs := bs) (i := i) (by omega) with z | z
    · exact .inl (by rw [List.length_cons]; omega)
    · exact .inr (by rw [List.length_cons]; omega)
theorem pair_up2 {K : Fr} {F F1 H : Hp} {T : Addr} {u V : L2.V} {d e : D} (e1 : Same F F1) (e2 : Same F1 H) (hT : H T = none) (hu : Rep K F u e) (h : Rep K F V d) :
    ∃ F2, Grow F1 H F2 (upd H T (.tup [u, V])) ∧ Rep K F2 (.ref T) (.tuple [e, d]) := by
  have g := Grow.froz (o := .tup [u, V]) e2 hT
  exact ⟨_, g, .tup upd_same (.cons (hu.mono (e1.trans g.le)) (.cons (h.mono (e1.trans g.le)) .nil))⟩
theorem itd_zipL {K : Fr} {F : Hp} {a b : Addr} {xs ys : List V} {as bs : List D} (ha : SqL K F a xs) (hb : SqL K F b ys) (r : RepL K F xs as) (r' : RepL K F ys bs) : ItData K (Itz K a b) F (zipL as bs) := fun F1 H e1 e2 i => by
  have q : SqL K H a xs := (e1.trans e2).seq ha
  have q' : SqL K H b ys := (e1.trans e2).seq hb
  refine ⟨fun hl => ⟨xs, ys, q, q', by rw [r.length, r'.length]; exact zipL_end hl⟩, fun d hd => ?_⟩
  obtain ⟨x, y, h1, h2, rfl⟩ := zipL_get hd
  obtain ⟨v, h3, h4⟩ := r.get h1
  obtain ⟨w, h5, h6⟩ := r'.get h2
  refine ⟨⟨xs, ys, v, w, q, q', h3, h5⟩, fun z H' ⟨T, x', y', y1, y2, y3, y4, y5⟩ => ?_⟩
  subst y1 y3
  have e3 := y4 xs q
  rw [h3] at e3
  cases e3
  have e4 := y5 ys q'
  rw [h5] at e4
  cases e4
  exact pair_up2 e1 e2 y2 h4 h6
theorem itd_zipT {K : Fr} {F : Hp} {a b : Addr} {xs ys : List V} {as bs : List D} (ha : SqT K F a xs) (hb : SqT K F b ys) (r : RepL K F xs as) (r' : RepL K F ys bs) : ItData K (RZ.ItzT K a b) F (zipL as bs) := fun F1 H e1 e2 i => by
  have q : SqT K H a xs := Same.sqt (e1.trans e2) ha
  have q' : SqT K H b ys := Same.sqt (e1.trans e2) hb
  refine ⟨fun hl => ⟨xs, ys, q, q', by rw [r.length, r'.length]; exact zipL_end hl⟩, fun d hd => ?_⟩
  obtain ⟨x, y, h1, h2, rfl⟩ := zipL_get hd
  obtain ⟨v, h3, h4⟩ := r.get h1
  obtain ⟨w, h5, h6⟩ := r'.get h2
  refine ⟨⟨xs, ys, v, w, q, q', h3, h5⟩, fun z H' ⟨T, x', y', y1, y2, y3, y4, y5⟩ => ?_⟩
  subst y1 y3
  have e3 := y4 xs q
  rw [h3] at e3
  cases e3
  have e4 := y5 ys q'
  rw [h5] at e4
  cases e4
  exact pair_up2 e1 e2 y2 h4 h6
theorem itd_enumL {K : Fr} {F : Hp} {a : Addr} {xs : List V} {ds : List D} (h : SqL K F a xs) (r : RepL K F xs ds) : ItData K (Ite K a) F (pairsD 0 ds) := fun F1 H e1 e2 i => by
  have q : SqL K H a xs := (e1.trans e2).seq h
  refine ⟨fun hl => ⟨xs, q, by rw [r.length]; rw [pairsD_length] at hl; exact hl⟩, fun d hd => ?_⟩
  obtain ⟨d', h1, rfl⟩ := pairsD_get hd
  obtain ⟨v, h2, h3⟩ := r.get h1
  refine ⟨⟨xs, v, q, h2⟩, fun x H' ⟨T, y, y1, y2, y3, y4⟩ => ?_⟩
  subst y1 y3
  have := y4 xs q
  rw [h2] at this
  cases this
  rw [Nat.zero_add]
  exact pair_up e1 e2 y2 h3
theorem itd_enumT {K : Fr} {F : Hp} {a : Addr} {xs : List V} {ds : List D} (h : SqT K F a xs) (r : RepL K F xs ds) : ItData K (IteT K a) F (pairsD 0 ds) := fun F1 H e1 e2 i => by
  have q : SqT K H a xs := Same.sqt (e1.trans e2) h
  refine ⟨fun hl => ⟨xs, q, by rw [r.length]; rw [pairsD_length] at hl; exact hl⟩, fun d hd => ?_⟩
  obtain ⟨d', h1, rfl⟩ := pairsD_get hd
  obtain ⟨v, h2, h3⟩ := r.get h1
  refine ⟨⟨xs, v, q, h2⟩, fun x H' ⟨T, y, y1, y2, y3, y4⟩ => ?_⟩
  subst y1 y3
  have := y4 xs q
  rw [h2] at this
  cases this
  rw [Nat.zero_add]
  exact pair_up e1 e2 y2 h3
theorem itd_enumS {K : Fr} {F : Hp} {x : Str} : ItData K (IteS x) F (pairsD 0 (x.cps.toList.map fun c => .str ⟨#[c]⟩)) := fun F1 H e1 e2 i => by
  refine ⟨fun hl => show x.cps.size ≤ i by rw [pairsD_length] at hl; simpa using hl, fun d hd => ?_⟩
  obtain ⟨d', h1, rfl⟩ := pairsD_get hd
  rw [List.getElem?_map] at h1
  cases e : x.cps.toList[i]? with
  | none => rw [e] at h1; cases h1
  | some c =>
    rw [e] at h1
    cases h1
    have hi : i < x.cps.size := by
      have := (List.getElem?_eq_some_iff.mp e).1
      simpa using this
    refine ⟨hi, fun v H' ⟨T, c', y1, y2, y3, y4⟩ => ?_⟩
    subst y1 y3
    have : c' = c := by
      rw [Array.getElem?_toList] at e
      rw [e] at y4
      exact (Option.some.inj y4).symm
    subst this
    rw [Nat.zero_add]
    exact pair_up (V := .str ⟨#[c']⟩) (Same.refl F1) e2 y2 (.str _)
section
variable {X : Cx} {W : WX} {e : Expr} {es : List Expr} {f : M RV} {fs : List (M RV)} {pos : Pos}
theorem si_range3 {tg a b c : Expr} {p : Pos} (hg : Gl X "range") (hm : X.mg "range" = none) (ha : SA X W [a, b, c] fs) (hs : starEach [a, b, c] X.env = (false, eval a X.env) :: starEach [b, c] X.env := by rfl) (hpl : (backTo pos (starEach [b, c] X.env)).any (·.1) = false := by rfl) :
    SI X W tg (.Call (.Name "range" p) [a, b, c] [] pos) (iN rng3 fs) :=
  (pi_range3 hg hm ha hs hpl).imp fun σ H R h => iN_ok h fun F H ys ds xs hF r e q => by
    unfold rng3 at e
    split at e
    · rename_i a b c
      cases r with
      | cons r1 r2 =>
        cases r2 with
        | cons r2 r3 =>
          cases r3 with
          | cons r3 r4 =>
            cases r4
            have := repv_int r1
            subst this
            have := repv_int r2
            subst this
            have := repv_int r3
            subst this
            split at e
            · rename_i hb
              obtain ⟨hb1, hb2⟩ := Bool.and_eq_true_iff.mp hb
              obtain ⟨h1, h2⟩ := small62_of hb1
              obtain ⟨h3, h4⟩ := small62_of hb2
              split at e
              · rename_i hc
                subst hc
                cases e
                exact ⟨a, b, -1, _, rfl, RgC.neg h1 h2 h3 h4, q _ fun F' => itd_rangeC a (-1) _⟩
              · split at e
                · rename_i hc
                  subst hc
                  cases e
                  exact ⟨a, b, 2, _, rfl, rg_two h1 h2 h3 h4, q _ fun F' => itd_rangeC a 2 _⟩
                · cases e
            · cases e
    · cases e
/-- enumerate over a list, a tuple, a text -/
theorem si_enum {elts : List Expr} {kk : Nat} {p tpos : Pos} (hg : Gl X "enumerate") (hm : X.mg "enumerate" = none) (ha : SA X W [e] [f]) (hs : starEach [e] X.env = [(false, eval e X.env)] := by rfl) :
    SI X W (.Tuple elts kk tpos) (.Call (.Name "enumerate" p) [e] [] pos) (iE f) :=
  (pi_enumA hg hm ha hs).imp fun σ H R h => by
    obtain ⟨F, G, avs, ρ, s, p⟩ := h
    refine tE_mono (fun v H1 z => ?_) (step (f := f) IPost.rest s Held.nil p)
    obtain ⟨r, F1, ρ1, e1, s1, h1, p1⟩ := z
    have hr := h1.ok (v, r) (by simp)
    unfold bnd at p1
    cases e2 : fz r ρ1 with
    | none => rw [e2] at p1; exact p1.elim
    | some z =>
      obtain ⟨o, ρ2⟩ := z
      rw [e2] at p1
      cases o with
      | exc x => exact (fz_noexc e2).elim
      | val d =>
        obtain ⟨F2, x2, s2, r2⟩ := fz_ok s1 hr e2
        have p2 : IPost X.K X.mg G avs W σ R F1 (opt ((items d).map (pairsD 0)) ρ2) := p1
        cases d with
        | list ds =>
          cases r2 with
          | lst z1 z2 => exact .inl ⟨_, _, rfl, s2.le.seq z1, p2 _ F2 H1 x2 s2 (itd_enumL z1 z2)⟩
        | tuple ds =>
          cases r2 with
          | tup z1 z2 => exact .inr (.inl ⟨_, _, rfl, sqt_at (s2.le _ _ z1), p2 _ F2 H1 x2 s2 (itd_enumT (sqt_at z1) z2)⟩)
        | str x =>
          cases r2
          exact .inr (.inr ⟨x, rfl, p2 _ F2 H1 x2 s2 itd_enumS⟩)
        | _ => exact p2.elim
/-- zip of two lists, of two tuples -/
theorem si_zip {a b : Expr} {fa fb : M RV} {elts : List Expr} {kk : Nat} {p tpos : Pos} (hg : Gl X "zip") (hm : X.mg "zip" = none) (ha : SA X W [a, b] [fa, fb]) (hs : starEach [a, b] X.env = (false, eval a X.env) :: starEach [b] X.env := by rfl)
    (hpl : (backTo pos (starEach [b] X.env)).any (·.1) = false := by rfl) : SI X W (.Tuple elts kk tpos) (.Call (.Name "zip" p) [a, b] [] pos) (iZ fa fb) :=
  (RZ.pi_zipA hg hm ha hs hpl).imp fun σ H R h => by
    obtain ⟨F, G, avs, ρ, s, p⟩ := h
    have p' : IPost X.K X.mg G avs W σ R F (bnd (eS [fa, fb]) (fun rs => bnd (fzs rs) fun ds => opt (zipD ds)) ρ) := p
    refine stepA (fs := [fa, fb]) IPost.rest s Held.nil p' fun ys rs F1 ρ1 H1 l1 l2 x1 s1 h1 p1 => ?_
    obtain ⟨F2, ρ2, ds, x2, s2, h2, r2, p2⟩ := fzs_ok IPost.rest l1 s1 h1 p1
    cases e : zipD ds with
    | none => unfold opt at p2; rw [e] at p2; exact p2.elim
    | some xs =>
      unfold opt at p2
      rw [e] at p2
      have p2 : ∀ J F' H', Ext F2 G F' → Sim X.K F' G avs σ ρ2 H' → ItData X.K J F' xs → R J H' := p2
      unfold zipD at e
      split at e
      · rename_i as bs
        cases e
        cases r2 with
        | cons r1 r2 =>
          cases r2 with
          | cons r2 r3 =>
            cases r3
            cases r1 with
            | lst u1 u2 =>
              cases r2 with
              | lst w1 w2 => exact ⟨_, _, _, _, rfl, .inl ⟨s2.le.seq u1, s2.le.seq w1, p2 _ F2 H1 (Ext.refl F2 G) s2 (itd_zipL u1 w1 u2 w2)⟩⟩
      · rename_i as bs
        cases e
        cases r2 with
        | cons r1 r2 =>
          cases r2 with
          | cons r2 r3 =>
            cases r3
            cases r1 with
            | tup u1 u2 =>
              cases r2 with
              | tup w1 w2 => exact ⟨_, _, _, _, rfl, .inr ⟨sqt_at (s2.le _ _ u1), sqt_at (s2.le _ _ w1), p2 _ F2 H1 (Ext.refl F2 G) s2 (itd_zipT (sqt_at u1) (sqt_at w1) u2 w2)⟩⟩
      · cases e
end
end Fd
/-! Fd, part 8: for, list comprehensions. -/
namespace Fd
open PySem PySem.Spec PyProof.Rows L2
theorem tS_of {K : Fr} {mg : Str → Option Value} {W : WX} {F G H : Hp} {avs : List V} {σ : St} {ρ : Rho} {f : M Fl} {D : Ends} (s : Sim K F G avs σ ρ H) (p : SPost K mg G avs W D F (f ρ)) : tS K mg W f D σ H := ⟨F, G, avs, ρ, s, p⟩
section
variable {X : Cx} {W : WX} {tg iter : Expr} {body : List Stmt} {g : M Fl} {fi : M (List D)} {pos : Pos} {p : Pat}
theorem ss_for (hp : PassesOwn (model X.prog X.w) X.A X.env X.xe) (hc : X.calm = true) (hi : SI X W tg iter fi) (hg : PG X tg (patG X.K p)) (hb : SSs X W body g) (hs : ∀ x, foldedSetIterable iter X.env x = pure x := by intro _; rfl) :
    SS X W (.For tg iter body [] pos) (sFor fi p g) := (ps_for hp hc hi hg hb hs).imp fun D σ H ⟨F, G, avs, ρ, s, q⟩ => by
  refine ⟨F, G, avs, ρ, s, ?_⟩
  unfold sFor bnd at q
  cases e : fi ρ with
  | none => rw [e] at q; exact q.elim
  | some z =>
    obtain ⟨o, ρ1⟩ := z
    rw [e] at q
    cases o with
    | exc x => exact q
    | val ds =>
      intro J F1 H1 e1 s1 J1
      refine ⟨fun i m σ H => m = ds.length - i ∧ i ≤ ds.length ∧ ∃ F' ρ', Ext F1 G F' ∧ Sim X.K F' G avs σ ρ' H ∧ SPost X.K X.mg G avs W D F' (loopD p g (ds.drop i) ρ'), ⟨ds.length, rfl, Nat.zero_le _, F1, ρ1, Ext.refl F1 G, s1, SPost.rest.up _ _ _ e1 q⟩, ?_⟩
      rintro i m σ H ⟨rfl, hi, F2, ρ2, e2, s2, q2⟩
      obtain ⟨j1, j2⟩ := J1 F2 H e2.le s2.le i
      by_cases hlt : i < ds.length
      · refine .inr ?_
        obtain ⟨j3, j4⟩ := j2 ds[i] (List.getElem?_eq_getElem hlt)
        refine ⟨j3, fun σ' H' => (∃ F' ρ', Ext F1 G F' ∧ Sim X.K F' G avs σ' ρ' H' ∧ SPost X.K X.mg G avs W D F' (loopD p g (ds.drop (i + 1)) ρ')), fun σ' H' h => ⟨ds.length - (i + 1), by omega, rfl, hlt, h⟩, fun x H' y => ?_⟩
        obtain ⟨F3, gr, r3⟩ := j4 x H' y
        have e3 := gr.ext s2.gl
        have s3 := s2.grow gr
        rw [List.drop_eq_getElem_cons hlt] at q2
        have q3 : SPost X.K X.mg G avs W D F3 (bnd (patM p ds[i]) (fun _ => bnd g fun x => match x with
          | .nx => loopD p g (ds.drop (i + 1))
          | .ct => loopD p g (ds.drop (i + 1))
          | .bk => ret .nx
          | .rt r => ret (.rt r)) ρ2) := SPost.rest.up _ _ _ e3 q2
        refine pat_ok SPost.rest p s3 r3 q3 fun σ4 ρ4 s4 _ q4 => ?_
        refine tS_of s4 ?_
        unfold bnd at q4
        cases e5 : g ρ4 with
        | none => rw [e5] at q4; exact q4.elim
        | some z =>
          obtain ⟨o, ρ5⟩ := z
          rw [e5] at q4
          cases o with
          | exc x => exact q4
          | val fl =>
            intro σ6 F6 H6 e6 s6
            cases fl with
            | nx => exact ⟨F6, ρ5, (e2.trans e3).trans e6, s6, SPost.rest.up _ _ _ e6 q4⟩
            | ct => exact ⟨F6, ρ5, (e2.trans e3).trans e6, s6, SPost.rest.up _ _ _ e6 q4⟩
            | bk => exact q4 σ6 F6 H6 e6 s6
            | rt r => exact q4 σ6 F6 H6 e6 s6
      · refine .inl ⟨j1 (by omega), ?_⟩
        rw [List.drop_eq_nil_of_le (by omega)] at q2
        exact q2 σ F2 H (Ext.refl F2 G) s2
end

/-! ### list comprehensions -/
/-- no exception is wished -/
def WN : WX := fun _ _ _ _ => False
section
variable {K : Fr} {mg : Str → Option Value} {F G H : Hp} {avs : List V} {σ : St} {ρ : Rho}
theorem wipeR_length (ρ : Rho) : ∀ vs : List Nat, (wipeR ρ vs).length = ρ.length
  | [] => rfl
  | v :: vs => by unfold wipeR; rw [List.length_set, wipeR_length ρ vs]
theorem wipeR_get {i : Nat} {c : Cell} (hc : c ≠ .un) : ∀ {vs : List Nat}, (wipeR ρ vs)[i]? = some c → ρ[i]? = some c ∧ i ∉ vs
  | [], h => ⟨h, by simp⟩
  | v :: vs, h => by
    unfold wipeR at h
    by_cases hi : v = i
    · subst hi
      by_cases hv : v < (wipeR ρ vs).length
      · rw [List.getElem?_set_self hv] at h
        cases h
        exact absurd rfl hc
      · rw [List.getElem?_eq_none (by simpa using hv)] at h
        cases h
    · rw [List.getElem?_set_ne hi] at h
      obtain ⟨h1, h2⟩ := wipeR_get hc h
      exact ⟨h1, by simp only [List.mem_cons, not_or]; exact ⟨fun e => hi e.symm, h2⟩⟩
theorem wipe_get {i : Nat} : ∀ {vs : List Nat}, i ∉ vs → (wipe σ vs)[i]? = σ[i]?
  | [], _ => rfl
  | v :: vs, h => by
    unfold wipe
    rw [List.getElem?_set_ne (fun e => h (by rw [e]; exact List.mem_cons_self)), wipe_get (fun m => h (List.mem_cons_of_mem _ m))]
theorem Mu.wiped {i : Nat} {d : D} {vs : List Nat} (h : Mu (wipeR ρ vs) i d) : Mu ρ i d ∧ i ∉ vs := by
  rcases h with h | h
  · exact ⟨.inl (wipeR_get (by intro z; cases z) h).1, (wipeR_get (by intro z; cases z) h).2⟩
  · exact ⟨.inr (wipeR_get (by intro z; cases z) h).1, (wipeR_get (by intro z; cases z) h).2⟩
theorem Sim.wiped (s : Sim K F G avs σ ρ H) (vs : List Nat) : Sim K F G avs (wipe σ vs) (wipeR ρ vs) H := by
  refine ⟨s.le, s.gl, by rw [wipe_length, wipeR_length]; exact s.ln, fun i d h => ?_, fun i d h => ?_, fun i d h => ?_, fun i j d e a n h1 h2 h3 h4 => ?_⟩
  · obtain ⟨h1, h2⟩ := wipeR_get (by intro z; cases z) h
    obtain ⟨v, q1, q2⟩ := s.sh i d h1
    exact ⟨v, by rw [wipe_get h2]; exact q1, q2⟩
  · obtain ⟨h1, h2⟩ := Mu.wiped h
    obtain ⟨a, q1, q2⟩ := s.ow i d h1
    exact ⟨a, by rw [wipe_get h2]; exact q1, q2⟩
  · obtain ⟨h1, h2⟩ := wipeR_get (by intro z; cases z) h
    obtain ⟨v, q1, q2⟩ := s.ar i d h1
    exact ⟨v, q1, by rw [wipe_get h2]; exact q2⟩
  · obtain ⟨a1, a2⟩ := Mu.wiped h1
    obtain ⟨b1, b2⟩ := Mu.wiped h2
    rw [wipe_get a2] at h3
    rw [wipe_get b2] at h4
    exact s.ap i j d e a n a1 b1 h3 h4
theorem restR_length (ρ0 ρ : Rho) : ∀ vs : List Nat, (restR ρ0 ρ vs).length = ρ.length
  | [] => rfl
  | v :: vs => by unfold restR; rw [List.length_set, restR_length ρ0 ρ vs]
theorem restR_get {ρ0 : Rho} {i : Nat} {c : Cell} : ∀ {vs : List Nat}, (restR ρ0 ρ vs)[i]? = some c → (i ∈ vs ∧ (ρ0[i]?).getD .un = c) ∨ (i ∉ vs ∧ ρ[i]? = some c)
  | [], h => .inr ⟨by simp, h⟩
  | v :: vs, h => by
    unfold restR at h
    by_cases hi : v = i
    · subst hi
      by_cases hv : v < (restR ρ0 ρ vs).length
      · rw [List.getElem?_set_self hv] at h
        cases h
        exact .inl ⟨List.mem_cons_self, rfl⟩
      · rw [List.getElem?_eq_none (by simpa using hv)] at h
        cases h
    · rw [List.getElem?_set_ne hi] at h
      rcases restR_get h with ⟨h1, h2⟩ | ⟨h1, h2⟩
      · exact .inl ⟨List.mem_cons_of_mem _ h1, h2⟩
      · exact .inr ⟨by simp only [List.mem_cons, not_or]; exact ⟨fun e => hi e.symm, h1⟩, h2⟩
/-- behind a comprehension the slots are as they were -/
theorem Sim.rested {F0 H0 : Hp} {ρ0 : Rho} {vs : List Nat} (s : Sim K F G avs (wipe σ vs) ρ H) (s0 : Sim K F0 G avs σ ρ0 H0) (e : Same F0 F) (hp : vs.all (plainAt ρ0) = true) : Sim K F G avs σ (restR ρ0 ρ vs) H := by
  have pl : ∀ (i : Nat) (c : Cell), i ∈ vs → (ρ0[i]?).getD .un = c → c ≠ .un → ∃ d, c = .sh d ∧ ρ0[i]? = some (Cell.sh d) := fun i c hi hc hn => by
    have q := List.all_eq_true.mp hp i hi
    unfold plainAt at q
    cases z : ρ0[i]? with
    | none => rw [z] at q; cases q
    | some cl =>
      rw [z] at q hc
      cases cl with
      | un => exact absurd hc.symm hn
      | sh d => exact ⟨d, hc.symm, rfl⟩
      | own d => cases q
      | arg d => cases q
  have mu : ∀ (i : Nat) (d : D), Mu (restR ρ0 ρ vs) i d → i ∉ vs ∧ Mu ρ i d := fun i d h => by
    rcases h with h | h
    · rcases restR_get h with ⟨h1, h2⟩ | ⟨h1, h2⟩
      · obtain ⟨_, q, _⟩ := pl i _ h1 h2 (fun z => nomatch z)
        cases q
      · exact ⟨h1, .inl h2⟩
    · rcases restR_get h with ⟨h1, h2⟩ | ⟨h1, h2⟩
      · obtain ⟨_, q, _⟩ := pl i _ h1 h2 (fun z => nomatch z)
        cases q
      · exact ⟨h1, .inr h2⟩
  refine ⟨s.le, s.gl, by rw [restR_length, s.ln, wipe_length], fun i d h => ?_, fun i d h => ?_, fun i d h => ?_, fun i j d e a n h1 h2 h3 h4 => ?_⟩
  · rcases restR_get h with ⟨h1, h2⟩ | ⟨h1, h2⟩
    · obtain ⟨d', q1, q2⟩ := pl i _ h1 h2 (fun z => nomatch z)
      cases q1
      obtain ⟨v, q3, q4⟩ := s0.sh i d q2
      exact ⟨v, q3, q4.mono e⟩
    · obtain ⟨v, q1, q2⟩ := s.sh i d h2
      rw [wipe_get h1] at q1
      exact ⟨v, q1, q2⟩
  · obtain ⟨h1, h2⟩ := mu i d h
    obtain ⟨a, q1, q2⟩ := s.ow i d h2
    rw [wipe_get h1] at q1
    exact ⟨a, q1, q2⟩
  · obtain ⟨h1, h2⟩ := mu i d (.inr h)
    rcases restR_get h with ⟨q, _⟩ | ⟨_, q⟩
    · exact absurd q h1
    · obtain ⟨v, q1, q2⟩ := s.ar i d q
      rw [wipe_get h1] at q2
      exact ⟨v, q1, q2⟩
  · obtain ⟨a1, a2⟩ := mu i d h1
    obtain ⟨b1, b2⟩ := mu j e h2
    exact s.ap i j d e a n a2 b2 (by rw [wipe_get a1]; exact h3) (by rw [wipe_get b1]; exact h4)
theorem same_gset {D0 : Addr} {o : HO} (h : Same G H) : Same (upd G D0 o) (upd H D0 o) := same_upd2 h
/-- the object at D, kept for the comprehension, changes -/
theorem Sim.putG {D0 : Addr} {o o' : HO} (s : Sim K F (upd G D0 o) avs σ ρ H) (hF : F D0 = none) : Sim K F (upd G D0 o') avs σ ρ (upd H D0 o') := by
  refine ⟨fun b x e => ?_, fun b x e => ?_, s.ln, s.sh, fun i d h => ?_, s.ar, s.ap⟩
  · have hb : b ≠ D0 := fun z => by rw [z, hF] at e; cases e
    rw [upd_ne hb]
    exact s.le _ _ e
  · by_cases hb : b = D0
    · subst hb
      rw [upd_same] at e ⊢
      exact e
    · rw [upd_ne hb] at e ⊢
      exact s.gl _ _ (by rw [upd_ne hb]; exact e)
  · obtain ⟨a, q1, q2, q3, q4⟩ := s.ow i d h
    have ha : a ≠ D0 := fun z => by rw [z, upd_same] at q4; cases q4
    refine ⟨a, q1, q2.mono (Same.refl F) fun x e => by rw [upd_ne ha]; exact e, q3, ?_⟩
    rw [upd_ne ha] at q4 ⊢
    exact q4
theorem Sim.newG {D0 : Addr} {o : HO} (s : Sim K F G avs σ ρ H) (hD : H D0 = none) : Sim K F (upd G D0 o) avs σ ρ (upd H D0 o) := by
  refine ⟨s.le.trans (same_upd hD), same_upd2 s.gl, s.ln, s.sh, fun i d h => ?_, s.ar, s.ap⟩
  obtain ⟨a, q1, q2, q3, q4⟩ := s.ow i d h
  have ha : a ≠ D0 := fun z => by rw [z] at q2; exact q2.ne hD
  refine ⟨a, q1, q2.mono (Same.refl F) fun x e => by rw [upd_ne ha]; exact e, q3, ?_⟩
  rw [upd_ne ha]
  exact q4
theorem Rest.eq {W : WX} {α : Type} {G' : Hp} (a : α) (ρe : Rho) : Rest K mg G' avs W (fun _ (o : Option (Out α × Rho)) => o = some (.val a, ρe)) :=
  ⟨fun _ h => (nomatch h), fun _ _ _ h => (nomatch h), fun _ _ _ _ h => h⟩
theorem Ext.dom {F1 : Hp} {D0 : Addr} {o : HO} (e : Ext F (upd G D0 o) F1) (hF : F D0 = none) : F1 D0 = none := by
  cases z : F1 D0 with
  | none => rfl
  | some x =>
    have := e.new D0 (by rw [z]; exact fun q => nomatch q) hF
    rw [upd_same] at this
    cases this
theorem Ext.gput {F1 : Hp} {D0 : Addr} {o : HO} (e : Ext F (upd G D0 o) F1) (hG : G D0 = none) : Ext F G F1 := e.gless (same_upd hG)
theorem wipeM_ok {vs : List Nat} {α : Type} {k : Unit → M α} {a : α} {ρe : Rho} (h : bnd (wipeM vs) k ρ = some (.val a, ρe)) : vs.all (plainAt ρ) = true ∧ k () (wipeR ρ vs) = some (.val a, ρe) := by
  unfold bnd wipeM at h
  by_cases hv : vs.all (plainAt ρ) = true
  · rw [if_pos hv] at h
    exact ⟨hv, h⟩
  · rw [if_neg hv] at h
    cases h
theorem noX_ok {α : Type} {m : M α} {a : α} {ρe : Rho} (h : noX m ρ = some (.val a, ρe)) : m ρ = some (.val a, ρe) := by
  unfold noX at h
  split at h
  · cases h
  · exact h
theorem wipe_idem (σ : St) (vs : List Nat) : wipe (wipe σ vs) vs = wipe σ vs := by
  refine List.ext_getElem? fun i => ?_
  by_cases h : i ∈ vs
  · have no : ∀ {σ : St} {us : List Nat}, i ∈ us → ∀ z, (wipe σ us)[i]? ≠ some (some z) := fun {σ us} hi z e => (wipe_some e).2 hi
    have ln : (wipe (wipe σ vs) vs).length = (wipe σ vs).length := wipe_length _ _
    cases e1 : (wipe (wipe σ vs) vs)[i]? with
    | none =>
      have q := List.getElem?_eq_none_iff.mp e1
      rw [ln] at q
      rw [List.getElem?_eq_none_iff.mpr q]
    | some c =>
      cases c with
      | some z => exact absurd e1 (no h z)
      | none =>
        have q := (List.getElem?_eq_some_iff.mp e1).1
        rw [ln] at q
        cases e2 : (wipe σ vs)[i]? with
        | none => exact absurd (List.getElem?_eq_none_iff.mp e2) (by omega)
        | some c =>
          cases c with
          | some z => exact absurd e2 (no h z)
          | none => rfl
  · rw [wipe_get h]
/-- the body of a list comprehension s proof -/
theorem lc_ok {W : WX} {own : List Nat} {fi : M (List D)} {p : Pat} {t : M Bool} {f : M RV} {Q : VK} {tt : TT} (hs : ∀ i ∈ p.slots, i ∈ own) (ht : ∀ σ H Q, tT K mg WN t σ H Q → tt σ H Q) (h : tE K mg W (eLc own fi p t f) σ H Q) :
    tLc (tI K mg W fi) (patG K p) tt (tE K mg WN f) own σ H Q := by
  obtain ⟨F, G, avs, ρ, s, q⟩ := h
  refine ⟨F, G, avs, ρ, s, ?_⟩
  unfold eLc bnd at q
  cases e : fi ρ with
  | none => rw [e] at q; exact q.elim
  | some z =>
    obtain ⟨o, ρ1⟩ := z
    rw [e] at q
    cases o with
    | exc x => exact q
    | val ds =>
      intro J F1 H1 e1 s1 J1 D0 hD
      have q : EPost K mg G avs W σ Q F (if ds.length ≤ 16777216 then (match bnd (wipeM own) (fun _ => noX (lcD own p t f ds [])) ρ1 with
        | some (.val xs, ρ') => some (.val (.new (.list xs)), restR ρ1 ρ' own)
        | _ => none) else none) := q
      by_cases hl : ds.length ≤ 16777216
      · rw [if_pos hl] at q
        cases e2 : bnd (wipeM own) (fun _ => noX (lcD own p t f ds [])) ρ1 with
        | none => rw [e2] at q; exact q.elim
        | some z =>
          obtain ⟨o, ρe⟩ := z
          rw [e2] at q
          cases o with
          | exc x => exact q.elim
          | val xs =>
            obtain ⟨hv, e3⟩ := wipeM_ok e2
            have e3 := noX_ok e3
            have q := EPost.rest.up _ _ _ e1 q
            have hG : G D0 = none := s1.gl.free hD
            have hF1 : F1 D0 = none := s1.le.free hD
            refine ⟨fun i m H => m = ds.length - i ∧ i ≤ ds.length ∧ ∃ F' ρ' acc av, Ext F1 G F' ∧ F' D0 = none ∧ Sim K F' (upd G D0 (.lst av)) avs (wipe σ own) ρ' H ∧ RepL K F' av acc ∧ acc.length ≤ i ∧ lcD own p t f (ds.drop i) acc ρ' = some (.val xs, ρe),
              ⟨ds.length, rfl, Nat.zero_le _, F1, _, [], [], Ext.refl F1 G, hF1, (s1.newG hD).wiped own, .nil, Nat.le_refl _, e3⟩, ?_⟩
            rintro i m H2 ⟨rfl, hi, F2, ρ2, acc, av, x2, f2, s2, r2, l2, q2⟩
            obtain ⟨j1, j2⟩ := J1 F2 H2 x2.le s2.le i
            by_cases hlt : i < ds.length
            · refine .inr ?_
              obtain ⟨j3, j4⟩ := j2 ds[i] (List.getElem?_eq_getElem hlt)
              refine ⟨j3, fun H => (∃ F' ρ' acc av, Ext F1 G F' ∧ F' D0 = none ∧ Sim K F' (upd G D0 (.lst av)) avs (wipe σ own) ρ' H ∧ RepL K F' av acc ∧ acc.length ≤ i + 1 ∧ lcD own p t f (ds.drop (i + 1)) acc ρ' = some (.val xs, ρe)), fun H' h => ⟨ds.length - (i + 1), by omega, rfl, hlt, h⟩, fun x H' y => ?_⟩
              obtain ⟨F3, gr, r3⟩ := j4 x H' y
              have x3 := gr.ext s2.gl
              have f3 : F3 D0 = none := x3.dom f2
              have s3 := s2.grow gr
              rw [List.drop_eq_getElem_cons hlt] at q2
              have R : Rest K mg (upd G D0 (.lst av)) avs WN (fun _ (o : Option (Out (List PyData) × Rho)) => o = some (.val xs, ρe)) := Rest.eq xs ρe
              have q3 : bnd (patM p ds[i]) (fun _ => bnd t fun b => if b then bnd f fun r => bnd (fz r) fun x => bnd (wipeM own) fun _ => lcD own p t f (ds.drop (i + 1)) (acc ++ [x]) else bnd (wipeM own) fun _ => lcD own p t f (ds.drop (i + 1)) acc) ρ2 = some (.val xs, ρe) := q2
              refine pat_ok R p s3 r3 q3 fun σ4 ρ4 s4 hw q4 => ⟨(hw own hs).trans (wipe_idem σ own), ?_⟩
              have hw4 : wipe σ4 own = wipe σ own := (hw own hs).trans (wipe_idem σ own)
              refine ht _ _ _ (tT_mono (fun b H5 z => ?_) (stepT R s4 Held.nil q4))
              obtain ⟨F5, ρ5, x5, s5, _, q5⟩ := z
              have f5 : F5 D0 = none := x5.dom f3
              cases b with
              | false =>
                obtain ⟨_, q6⟩ := wipeM_ok q5
                refine ⟨F5, _, acc, av, (x2.trans (x3.gput hG)).trans (x5.gput hG), f5, ?_, (r2.mono x3.le).mono x5.le, Nat.le_succ_of_le l2, q6⟩
                rw [← hw4]
                exact s5.wiped own
              | true =>
                rw [if_pos rfl] at q5 ⊢
                refine tE_mono (fun yv H6 z => ?_) (step R s5 Held.nil q5)
                obtain ⟨r, F6, ρ6, x6, s6, h6, q6⟩ := z
                have f6 : F6 D0 = none := x6.dom f5
                unfold bnd at q6
                cases e7 : fz r ρ6 with
                | none => rw [e7] at q6; cases q6
                | some z =>
                  obtain ⟨o, ρ7⟩ := z
                  rw [e7] at q6
                  cases o with
                  | exc x => exact (fz_noexc e7).elim
                  | val yd =>
                    obtain ⟨F7, x7, s7, r7⟩ := fz_ok s6 (h6.ok (yv, r) (by simp)) e7
                    have f7 : F7 D0 = none := x7.dom f6
                    obtain ⟨_, q7⟩ := wipeM_ok (k := fun _ => lcD own p t f (ds.drop (i + 1)) (acc ++ [yd])) q6
                    have r8 : RepL K F7 (av ++ [yv]) (acc ++ [yd]) := ((((r2.mono x3.le).mono x5.le).mono x6.le).mono x7.le).app (.one r7)
                    refine ⟨av, s7.gl _ _ upd_same, ?_, F7, _, acc ++ [yd], av ++ [yv], (((x2.trans (x3.gput hG)).trans (x5.gput hG)).trans (x6.gput hG)).trans (x7.gput hG), f7, ?_, r8, by rw [List.length_append]; exact Nat.succ_le_succ l2, q7⟩
                    · rw [r2.length]
                      show acc.length < 16777216
                      omega
                    · rw [← hw4]
                      exact (s7.putG f7).wiped own
            · refine .inl ⟨j1 (by omega), ?_⟩
              rw [List.drop_eq_nil_of_le (by omega)] at q2
              have q2 : some (Out.val acc, ρ2) = some (Out.val xs, ρe) := q2
              cases q2
              have s3 : Sim K F2 G avs (wipe σ own) _ H2 := s2.gless (same_upd hG)
              have s4 := s3.rested s1 x2.le hv
              have hH : H2 D0 = some (.lst av) := s2.gl _ _ upd_same
              refine q (.ref D0) F2 H2 x2 s4 ⟨D0, rfl, ⟨av, hH, r2⟩, f2, hG, fun i d m z => ?_⟩
              have s5 := s2.rested (s1.newG (o := .lst av) hD) x2.le hv
              obtain ⟨a, z1, _, _, z4⟩ := s5.ow i d m
              rw [z] at z1
              cases z1
              rw [upd_same] at z4
              cases z4
      · rw [if_neg hl] at q
        exact q.elim
end
section
variable {X : Cx} {W : WX} {elt tg iter c : Expr} {ifs : List Expr} {scope : Scope} {own : List (Str × Nat)} {pos : Pos} {fi : M (List D)} {p : Pat} {t : M Bool} {f : M RV}
theorem se_lc (hc : X.calm = true) (hN : X.N.Nodup) (hi : SI X W tg iter fi) (ok : BlkOk X.N X.env.scope scope own) (hg : ∀ (s : Shared) (H : Hp) (C : Addr) (cl : List (Str × Addr)) (fp : List Addr), PG (X.blk s H scope (compEnvC scope cl C X.env) fp) tg (patG X.K p))
    (he : ∀ (s : Shared) (H : Hp) (C : Addr) (cl : List (Str × Addr)) (fp : List Addr), SE (X.blk s H scope (compEnvC scope cl C X.env) fp) WN elt f) (hs : ∀ i ∈ p.slots, i ∈ own.map (·.2)) (hf : ∀ x, foldedSetIterable iter X.env x = pure x := by intro _; rfl) :
    SE X W (.ListComp elt [⟨tg, iter, [], 0⟩] scope pos) (eLc (own.map (·.2)) fi p Fd.tYes f) :=
  (pe_lc hc hN hi ok hg (fun _ _ _ _ _ => pts_nil) he hf).imp fun σ H Q h => lc_ok hs (fun σ H Q ⟨F, G, avs, ρ, s, q⟩ => q F H (Ext.refl F G) s) h
theorem se_lcIf (hc : X.calm = true) (hN : X.N.Nodup) (hi : SI X W tg iter fi) (ok : BlkOk X.N X.env.scope scope own) (hg : ∀ (s : Shared) (H : Hp) (C : Addr) (cl : List (Str × Addr)) (fp : List Addr), PG (X.blk s H scope (compEnvC scope cl C X.env) fp) tg (patG X.K p))
    (ht : ∀ (s : Shared) (H : Hp) (C : Addr) (cl : List (Str × Addr)) (fp : List Addr), ST (X.blk s H scope (compEnvC scope cl C X.env) fp) WN c t)
    (he : ∀ (s : Shared) (H : Hp) (C : Addr) (cl : List (Str × Addr)) (fp : List Addr), SE (X.blk s H scope (compEnvC scope cl C X.env) fp) WN elt f) (hs : ∀ i ∈ p.slots, i ∈ own.map (·.2)) (hf : ∀ x, foldedSetIterable iter X.env x = pure x := by intro _; rfl) :
    SE X W (.ListComp elt [⟨tg, iter, [c], 0⟩] scope pos) (eLc (own.map (·.2)) fi p t f) :=
  (pe_lc hc hN hi ok hg (fun s H C cl fp => pts_one (ht s H C cl fp)) he hf).imp fun σ H Q h => lc_ok hs (fun _ _ _ h => h) h
/-- name = [..] on one line -/
theorem lcs_ok {i : Nat} {D : Ends} {σ : St} {H : Hp} {tt : TT} (hs : ∀ i ∈ p.slots, i ∈ own.map (·.2)) (ht : ∀ σ H Q, tT X.K X.mg WN t σ H Q → tt σ H Q) (h : tS X.K X.mg W (sSet (asg i) (eLc (own.map (·.2)) fi p t f)) D σ H) :
    tAsg (tLc (tI X.K X.mg W fi) (patG X.K p) tt (tE X.K X.mg WN f) (own.map (·.2))) (gName i) D σ H := by
  obtain ⟨F, G, avs, ρ, s, q⟩ := h
  have h1 := step SPost.rest s Held.nil q
  refine lc_ok hs ht (tE_mono (fun v H1 z => ?_) h1)
  obtain ⟨r, F1, ρ1, e1, s1, h1, p1⟩ := z
  have u := UPost.of (Q := D.nx) p1 rfl
  have hr := h1.ok (v, r) (by simp)
  cases e : asg i r ρ1 with
  | none => rw [e] at u; exact u.elim
  | some z =>
    obtain ⟨o, ρ2⟩ := z
    have ho : o = .val () := by
      cases o with
      | val u => rfl
      | exc x => exact (asg_noexc e).elim
    subst ho
    rw [e] at u
    obtain ⟨F2, e2, s2⟩ := asg_ok s1 hr e
    exact u _ F2 H1 e2 s2
theorem ss_setLc (i : Nat) {y : Str} {py spos : Pos} (hc : X.calm = true) (hN : X.N.Nodup) (hi : SI X W tg iter fi) (ok : BlkOk X.N X.env.scope scope own) (hg : ∀ (s : Shared) (H : Hp) (C : Addr) (cl : List (Str × Addr)) (fp : List Addr), PG (X.blk s H scope (compEnvC scope cl C X.env) fp) tg (patG X.K p))
    (he : ∀ (s : Shared) (H : Hp) (C : Addr) (cl : List (Str × Addr)) (fp : List Addr), SE (X.blk s H scope (compEnvC scope cl C X.env) fp) WN elt f) (hs : ∀ i ∈ p.slots, i ∈ own.map (·.2)) (hy : X.N[i]? = some y := by rfl) (hyl : X.env.scope.names.lookup y = some .local := by rfl)
    (hsw : swapsWith (.ListComp elt [⟨tg, iter, [], 0⟩] scope pos) (some (.Name y py)) spos.line X.env = pure true := by rfl) (hf : ∀ x, foldedSetIterable iter X.env x = pure x := by intro _; rfl) :
    SS X W (.Assign [.Name y py] (.ListComp elt [⟨tg, iter, [], 0⟩] scope pos) spos) (sSet (asg i) (eLc (own.map (·.2)) fi p Fd.tYes f)) :=
  (ps_setLc hc hN hy hyl hsw hi ok hg (fun _ _ _ _ _ => pts_nil) he hf).imp fun D σ H h => lcs_ok hs (fun σ H Q ⟨F, G, avs, ρ, s, q⟩ => q F H (Ext.refl F G) s) h
theorem ss_setLcIf (i : Nat) {y : Str} {py spos : Pos} (hc : X.calm = true) (hN : X.N.Nodup) (hi : SI X W tg iter fi) (ok : BlkOk X.N X.env.scope scope own) (hg : ∀ (s : Shared) (H : Hp) (C : Addr) (cl : List (Str × Addr)) (fp : List Addr), PG (X.blk s H scope (compEnvC scope cl C X.env) fp) tg (patG X.K p))
    (ht : ∀ (s : Shared) (H : Hp) (C : Addr) (cl : List (Str × Addr)) (fp : List Addr), ST (X.blk s H scope (compEnvC scope cl C X.env) fp) WN c t)
    (he : ∀ (s : Shared) (H : Hp) (C : Addr) (cl : List (Str × Addr)) (fp : List Addr), SE (X.blk s H scope (compEnvC scope cl C X.env) fp) WN elt f) (hs : ∀ i ∈ p.slots, i ∈ own.map (·.2)) (hy : X.N[i]? = some y := by rfl) (hyl : X.env.scope.names.lookup y = some .local := by rfl)
    (hsw : swapsWith (.ListComp elt [⟨tg, iter, [c], 0⟩] scope pos) (some (.Name y py)) spos.line X.env = pure true := by rfl) (hf : ∀ x, foldedSetIterable iter X.env x = pure x := by intro _; rfl) :
    SS X W (.Assign [.Name y py] (.ListComp elt [⟨tg, iter, [c], 0⟩] scope pos) spos) (sSet (asg i) (eLc (own.map (·.2)) fi p t f)) :=
  (ps_setLc hc hN hy hyl hsw hi ok hg (fun s H C cl fp => pts_one (ht s H C cl fp)) he hf).imp fun D σ H h => lcs_ok hs (fun _ _ _ h => h) h
end
end Fd
/-! Fd, part 9: stores into subscripts, unpacking, augmented stores. -/
namespace Fd
open PySem PySem.Spec PyProof.Rows L2
def NoSlot (r : RV) : Prop := ∀ i, r ≠ .slot i
section
variable {K : Fr} {mg : Str → Option Value} {W : WX} {F F1 G H H1 : Hp} {avs : List V} {σ σ1 : St} {ρ ρ1 : Rho} {vs : List (V × RV)}
/-- held results that are no slots stay behind stores -/
theorem Held.overN (h : Held K F G ρ σ H vs) (hn : ∀ p ∈ vs, NoSlot p.2) (e : Ext F (gadd G H (tmps vs)) F1) (s1 : Sim K F1 (gadd G H (tmps vs)) avs σ1 ρ1 H1) : Held K F1 G ρ1 σ1 H1 vs := by
  refine ⟨fun p hp => ?_, h.nd⟩
  obtain ⟨v, r⟩ := p
  have q := h.ok _ hp
  cases r with
  | sh d => exact Rep.mono e.le d q
  | slot i => exact absurd rfl (hn _ hp i)
  | new d =>
    obtain ⟨a, h1, h2, h3, h4, h5⟩ := q
    have h1 : v = .ref a := h1
    subst h1
    have ha : a ∈ tmps vs := List.mem_filterMap.mpr ⟨_, hp, rfl⟩
    have keep : ∀ o, H a = some o → H1 a = some o := fun o z => s1.gl _ _ (by rw [gadd_in ha]; exact z)
    have f1 : F1 a = none := by
      cases z : F1 a with
      | none => rfl
      | some o =>
        have := e.new a (by rw [z]; exact fun q => nomatch q) h3
        rw [gadd_in ha] at this
        exact absurd this h2.ne
    refine ⟨a, rfl, h2.mono e.le keep, f1, h4, fun i x m z => ?_⟩
    obtain ⟨b, z1, _, _, z4⟩ := s1.ow i x m
    rw [z] at z1
    cases z1
    rw [gadd_in ha] at z4
    exact h2.ne z4
/-- a store, then the rest -/
theorem stepG {α : Type} {PP : Hp → Option (Out α × Rho) → Prop} {g : RV → M Unit} {k : Unit → M α} {v : V} {r : RV} (R : Rest K mg G avs W PP) (s : Sim K F G avs σ ρ H) (h : Held K F G ρ σ H vs) (hn : ∀ p ∈ vs, NoSlot p.2) (hr : RvOk K F (gadd G H (tmps vs)) ρ σ H v r) (p : PP F (bnd (g r) k ρ)) :
    tG K mg W g v σ H fun σ1 H1 => ∃ F1 ρ1, Ext F G F1 ∧ Sim K F1 G avs σ1 ρ1 H1 ∧ Held K F1 G ρ1 σ1 H1 vs ∧ PP F1 (k () ρ1) := by
  refine ⟨F, gadd G H (tmps vs), avs, ρ, r, h.sim s, hr, ?_⟩
  unfold bnd at p
  cases e : g r ρ with
  | none => rw [e] at p; exact (R.no _ p).elim
  | some q =>
    obtain ⟨o, ρ1⟩ := q
    rw [e] at p
    cases o with
    | exc x => exact XB.gadd' h.gsame (R.ex _ _ _ p)
    | val u =>
      intro σ1 F1 H1 e1 s1
      exact ⟨F1, ρ1, e1.gless h.gsame, s1.gless h.gsame, h.overN hn e1 s1, R.up _ _ _ (e1.gless h.gsame) p⟩
def tGs (K : Fr) (mg : Str → Option Value) (W : WX) : List (RV → M Unit) → TGs
  | [] => gNil
  | g :: gs => gCons (tG K mg W g) (tGs K mg W gs)
theorem tG_mono {g : RV → M Unit} {v : V} {Q Q' : St → Hp → Prop} (h : ∀ σ H, Q σ H → Q' σ H) : tG K mg W g v σ H Q → tG K mg W g v σ H Q' := fun ⟨F, G, avs, ρ, r, s, hr, p⟩ => ⟨F, G, avs, ρ, r, s, hr, by
  revert p
  generalize g r ρ = o
  intro p
  match o, p with
  | some (.exc x, ρ), p => exact p
  | some (.val a, ρ), p => exact fun σ' F' H' e1 e2 => h _ _ (p σ' F' H' e1 e2)⟩
theorem tmps_cons {v : V} {r : RV} : tmps ((v, r) :: vs) = (match tmp (v, r) with | some a => [a] | none => []) ++ tmps vs := by
  unfold tmps
  rw [List.filterMap_cons]
  cases e : tmp (v, r) <;> rfl
theorem Held.tail {p : V × RV} (h : Held K F G ρ σ H (p :: vs)) : Held K F G ρ σ H vs := ⟨fun q hq => h.ok q (List.mem_cons_of_mem _ hq), by
  have nd := h.nd
  unfold tmps at nd ⊢
  rw [List.filterMap_cons] at nd
  split at nd
  · exact nd
  · exact (List.nodup_cons.mp nd).2⟩
theorem Held.headG {v : V} {r : RV} (h : Held K F G ρ σ H ((v, r) :: vs)) : RvOk K F (gadd G H (tmps vs)) ρ σ H v r := by
  have q := h.ok (v, r) List.mem_cons_self
  cases r with
  | sh d => exact q
  | slot i => exact q
  | new d =>
    obtain ⟨a, h1, h2, h3, h4, h5⟩ := q
    have h1 : v = .ref a := h1
    subst h1
    refine ⟨a, rfl, h2, h3, ?_, h5⟩
    rw [gadd_out (fun hm => ?_)]
    · exact h4
    · have nd := h.nd
      rw [tmps_cons] at nd
      exact (List.nodup_cons.mp (show (a :: tmps vs).Nodup from nd)).1 hm
/-- stores in order, then the rest -/
theorem stepGs {α : Type} {PP : Hp → Option (Out α × Rho) → Prop} (R : Rest K mg G avs W PP) : ∀ {gs : List (RV → M Unit)} {rs : List RV} {ys : List V} {k : Unit → M α} {F H : Hp} {ρ : Rho} {σ : St} {Q : St → Hp → Prop},
    ys.length = rs.length → Sim K F G avs σ ρ H → Held K F G ρ σ H (ys.zip rs) → (∀ r ∈ rs, NoSlot r) → PP F (bnd (gSeq gs rs) k ρ) →
    (∀ F1 ρ1 σ1 H1, Ext F G F1 → Sim K F1 G avs σ1 ρ1 H1 → PP F1 (k () ρ1) → Q σ1 H1) → tGs K mg W gs ys σ H Q
  | [], [], [], k, F, H, ρ, σ, Q, _, s, h, _, p, q => ⟨rfl, q F ρ σ H (Ext.refl F G) s p⟩
  | g :: gs, r :: rs, y :: ys, k, F, H, ρ, σ, Q, hl, s, h, hn, p, q => by
    refine ⟨y, ys, rfl, ?_⟩
    rw [List.zip_cons_cons] at h
    have p' : PP F (bnd (g r) (fun _ => bnd (gSeq gs rs) k) ρ) := by
      unfold gSeq bnd at p
      unfold bnd
      cases e : g r ρ with
      | none => rw [e] at p; exact p
      | some z =>
        rw [e] at p
        obtain ⟨o, ρ1⟩ := z
        cases o with
        | exc x => exact p
        | val u => exact p
    have hn' : ∀ p ∈ ys.zip rs, NoSlot p.2 := fun p hp => hn p.2 (List.mem_cons_of_mem _ (List.of_mem_zip hp).2)
    refine tG_mono (fun σ1 H1 z => ?_) (stepG R s h.tail hn' h.headG p')
    obtain ⟨F1, ρ1, e1, s1, h1, p1⟩ := z
    refine stepGs R (by simpa using hl) s1 h1 (fun r hr => hn r (List.mem_cons_of_mem _ hr)) p1 fun F2 ρ2 σ2 H2 e2 s2 p2 => ?_
    exact q F2 ρ2 σ2 H2 (e1.trans e2) s2 p2
  | [], _ :: _, _, k, F, H, ρ, σ, Q, _, s, h, _, p, q => (R.no _ p).elim
  | _ :: _, [], _, k, F, H, ρ, σ, Q, _, s, h, _, p, q => (R.no _ p).elim
  | [], [], _ :: _, _, _, _, _, _, _, hl, _, _, _, _, _ => by cases hl
  | _ :: _, _ :: _, [], _, _, _, _, _, _, hl, _, _, _, _, _ => by cases hl
/-- slots among held results are frozen -/
theorem fzSlot_ok {α : Type} {PP : Hp → Option (Out α × Rho) → Prop} (R : Rest K mg G avs W PP) : ∀ {rs : List RV} {ys : List V} {k : List RV → M α} {F : Hp} {ρ : Rho} {ws : List (V × RV)}, ys.length = rs.length →
    Sim K F G avs σ ρ H → Held K F G ρ σ H (ws ++ ys.zip rs) → (∀ p ∈ ws, NoSlot p.2) → PP F (bnd (fzSlot rs) k ρ) →
    ∃ F1 ρ1 qs, Ext F G F1 ∧ Sim K F1 G avs σ ρ1 H ∧ ys.length = qs.length ∧ Held K F1 G ρ1 σ H (ws ++ ys.zip qs) ∧ (∀ r ∈ qs, NoSlot r) ∧ PP F1 (k qs ρ1)
  | [], [], k, F, ρ, ws, _, s, h, hn, p => ⟨F, ρ, [], Ext.refl F G, s, rfl, h, fun _ h => (nomatch h), p⟩
  | r :: rs, y :: ys, k, F, ρ, ws, hl, s, h, hn, p => by
    -- one that is no slot
    have go : ∀ (q : RV) (F1 : Hp) (ρ1 : Rho), Ext F G F1 → Sim K F1 G avs σ ρ1 H → NoSlot q → Held K F1 G ρ1 σ H ((ws ++ [(y, q)]) ++ ys.zip rs) → PP F1 (bnd (fzSlot rs) (fun qs => k (q :: qs)) ρ1) →
        ∃ F1 ρ1 qs, Ext F G F1 ∧ Sim K F1 G avs σ ρ1 H ∧ (y :: ys).length = qs.length ∧ Held K F1 G ρ1 σ H (ws ++ (y :: ys).zip qs) ∧ (∀ r ∈ qs, NoSlot r) ∧ PP F1 (k qs ρ1) := fun q F1 ρ1 e1 s1 nq h1 p1 => by
      obtain ⟨F2, ρ2, qs, e2, s2, l2, h2, n2, p2⟩ := fzSlot_ok R (by simpa using hl) s1 h1 (fun p hp => by
        rcases List.mem_append.mp hp with z | z
        · exact hn p z
        · cases List.mem_singleton.mp z; exact nq) p1
      refine ⟨F2, ρ2, q :: qs, e1.trans e2, s2, by rw [List.length_cons, List.length_cons, l2], ?_, fun r hr => ?_, p2⟩
      · rw [List.zip_cons_cons]
        rw [List.append_assoc] at h2
        exact h2
      · rcases List.mem_cons.mp hr with z | z
        · rw [z]; exact nq
        · exact n2 r z
    rw [List.zip_cons_cons] at h
    have shift : ∀ {q : RV}, (ws ++ [(y, q)]) ++ ys.zip rs = ws ++ (y, q) :: ys.zip rs := fun {q} => by rw [List.append_assoc]; rfl
    have p0 : ∀ (q : RV), fzSlot (q :: rs) = bnd (fzSlot rs) (fun qs => ret (q :: qs)) → PP F (bnd (fzSlot (q :: rs)) k ρ) → PP F (bnd (fzSlot rs) (fun qs => k (q :: qs)) ρ) := fun q eq z => by
      rw [eq] at z
      unfold bnd ret at z
      unfold bnd
      cases e : fzSlot rs ρ with
      | none => rw [e] at z; exact z
      | some w =>
        rw [e] at z
        obtain ⟨o, ρ1⟩ := w
        cases o with
        | exc x => exact z
        | val u => exact z
    cases r with
    | sh d => exact go (.sh d) F ρ (Ext.refl F G) s (fun i z => by cases z) (by rw [shift]; exact h) (p0 _ rfl p)
    | new d => exact go (.new d) F ρ (Ext.refl F G) s (fun i z => by cases z) (by rw [shift]; exact h) (p0 _ rfl p)
    | slot i =>
      have hy : σ[i]? = some (some y) := h.ok (y, .slot i) (List.mem_append_right _ List.mem_cons_self)
      have p' : PP F (bnd (fz (.slot i)) (fun d => bnd (bnd (fzSlot rs) fun qs => ret (.sh d :: qs)) k) ρ) := by
        unfold fzSlot at p
        unfold bnd at p ⊢
        cases e : fz (.slot i) ρ with
        | none => rw [e] at p; exact p
        | some z =>
          rw [e] at p
          obtain ⟨o, ρ1⟩ := z
          cases o with
          | exc x => exact p
          | val r => exact p
      -- the held ones without this one
      have old : ∀ p ∈ ws ++ ys.zip rs, RvOk K F G ρ σ H p.1 p.2 := fun p hp => h.ok p (by
        rcases List.mem_append.mp hp with z | z
        · exact List.mem_append_left _ z
        · exact List.mem_append_right _ (List.mem_cons_of_mem _ z))
      have ndz : ∀ d, (tmps ((ws ++ [(y, RV.sh d)]) ++ ys.zip rs)).Nodup := fun d => by
        have nd := h.nd
        unfold tmps at nd ⊢
        rw [List.filterMap_append, List.filterMap_cons] at nd
        rw [List.filterMap_append, List.filterMap_append, List.filterMap_cons]
        have t1 : tmp (y, RV.slot i) = none := by unfold tmp; split <;> first | rfl | (rename_i e; cases e)
        have t2 : tmp (y, RV.sh d) = none := by unfold tmp; split <;> first | rfl | (rename_i e; cases e)
        rw [t1] at nd
        rw [t2]
        simpa using nd
      have p2 : ∀ (F1 : Hp) (ρ1 : Rho) (d : D), PP F1 (bnd (bnd (fzSlot rs) fun qs => ret (.sh d :: qs)) k ρ1) → PP F1 (bnd (fzSlot rs) (fun qs => k (.sh d :: qs)) ρ1) := fun F1 ρ1 d p1 => by
        unfold bnd ret at p1
        unfold bnd
        cases e : fzSlot rs ρ1 with
        | none => rw [e] at p1; exact p1
        | some z =>
          rw [e] at p1
          obtain ⟨o, ρ2⟩ := z
          cases o with
          | exc x => exact p1
          | val rs => exact p1
      unfold bnd fz at p'
      dsimp only at p'
      cases c : ρ[i]? with
      | none => rw [c] at p'; exact (R.no _ p').elim
      | some cl =>
        rw [c] at p'
        cases cl with
        | un => exact (R.no _ p').elim
        | arg d => exact (R.no _ p').elim
        | sh d =>
          obtain ⟨w, z1, z2⟩ := s.sh i d c
          rw [hy] at z1
          cases z1
          refine go (.sh d) F ρ (Ext.refl F G) s (fun i z => by cases z) ⟨fun p hp => ?_, ndz d⟩ (p2 F ρ d p')
          rcases List.mem_append.mp hp with z | z
          · rcases List.mem_append.mp z with z | z
            · exact old p (List.mem_append_left _ z)
            · cases List.mem_singleton.mp z; exact z2
          · exact old p (List.mem_append_right _ z)
        | own d =>
          obtain ⟨F1, w, z1, e1, s1, r1, f1⟩ := s.freeze c
          rw [hy] at z1
          cases z1
          have up : ∀ p ∈ ws ++ ys.zip rs, RvOk K F1 G (ρ.set i (.sh d)) σ H p.1 p.2 := fun p hp => by
            obtain ⟨v, q⟩ := p
            have z := old _ hp
            cases q with
            | sh x => exact Rep.mono e1.le x z
            | slot i => exact z
            | new x =>
              obtain ⟨b, eb, q1, q2, q3, q4⟩ := z
              have eb : v = .ref b := eb
              subst eb
              have hb : b ≠ w := fun e => q4 i d (.inl c) (by rw [e]; exact hy)
              refine ⟨b, rfl, q1.mono e1.le fun _ z => z, by rw [f1 b hb]; exact q2, q3, fun j x m w => ?_⟩
              have m' : ∃ x', Mu ρ j x' := by
                by_cases hj : i = j
                · subst hj; exact ⟨d, .inl c⟩
                · exact ⟨x, (Mu.set_ne hj).mp m⟩
              obtain ⟨x', m'⟩ := m'
              exact q4 j x' m' w
          refine go (.sh d) F1 _ e1 s1 (fun i z => by cases z) ⟨fun p hp => ?_, ndz d⟩ (p2 F1 _ d (R.up _ _ _ e1 p'))
          rcases List.mem_append.mp hp with z | z
          · rcases List.mem_append.mp z with z | z
            · exact up p (List.mem_append_left _ z)
            · cases List.mem_singleton.mp z; exact r1
          · exact up p (List.mem_append_right _ z)
  | [], _ :: _, _, _, _, _, hl, _, _, _, _ => by cases hl
  | _ :: _, [], _, _, _, _, hl, _, _, _, _ => by cases hl
end
abbrev SGs (X : Cx) (W : WX) (ts : List Expr) (gs : List (RV → M Unit)) : Prop := PGs X ts (tGs X.K X.mg W gs)
section
variable {X : Cx} {W : WX} {a b c e o i : Expr} {es ts : List Expr} {fa fb fo fi f : M RV} {fs : List (M RV)} {gs : List (RV → M Unit)} {g : RV → M Unit} {pos : Pos}
theorem sgs_nil : SGs X W [] [] := pgs_nil
theorem sgs_cons (h1 : SG X W e g) (h2 : SGs X W es gs) (hs : (assignEach (e :: es) X.env).map (·.2) = assign e X.env :: (assignEach es X.env).map (·.2) := by rfl) : SGs X W (e :: es) (g :: gs) := pgs_cons h1 h2 hs
theorem zip_sh {K : Fr} {F G H : Hp} {ρ : Rho} {σ : St} : ∀ {xs : List V} {ds : List D}, RepL K F xs ds → Held K F G ρ σ H (xs.zip (ds.map .sh))
  | _, _, .nil => Held.nil
  | _, _, .cons (v := v) (d := d) r h => by
    rw [List.map_cons, List.zip_cons_cons]
    have ih := zip_sh (G := G) (H := H) (ρ := ρ) (σ := σ) h
    refine ⟨fun p hp => ?_, ?_⟩
    · rcases List.mem_cons.mp hp with z | z
      · cases z; exact r
      · exact ih.ok p z
    · rw [tmps_cons]
      have t2 : tmp (v, RV.sh d) = none := by unfold tmp; split <;> first | rfl | (rename_i e; cases e)
      rw [t2]
      exact ih.nd
theorem sh_noslot (ds : List D) : ∀ r ∈ ds.map RV.sh, NoSlot r := fun r hr i z => by
  obtain ⟨d, _, e⟩ := List.mem_map.mp hr
  rw [z] at e
  cases e
/-- (a, b) = a tuple -/
theorem sg_tup {k : Nat} {n : Nat} (hc : X.calm = true) (h : SGs X W es gs) (hn : (assignEach es X.env).length = gs.length := by rfl) (hst : (assignEach es X.env).findIdx? (·.1) = none := by rfl) : SG X W (.Tuple es k pos) (Fd.gTup gs) :=
  (pg_tup hc h hn hst).imp fun v σ H Q ⟨F, G, avs, ρ, r, s, hr, p⟩ => by
  unfold Fd.gTup at p
  cases e : rd r ρ with
  | none => rw [e] at p; exact p.elim
  | some d =>
    rw [e] at p
    cases d with
    | tuple ds =>
      dsimp only at p
      rcases rd_rep s hr e with z | ⟨_, _, z⟩
      · cases z with
        | @tup a xs _ z1 z2 =>
          by_cases hl : ds.length = gs.length
          · rw [if_pos hl] at p
            refine ⟨a, xs, rfl, sqt_at (s.le _ _ z1), by rw [z2.length, hl], ?_⟩
            have p' : UPost X.K X.mg G avs W Q F (bnd (gSeq gs (ds.map .sh)) (fun _ => ret ()) ρ) := by
              unfold bnd
              cases e : gSeq gs (ds.map .sh) ρ with
              | none => rw [e] at p; exact p
              | some z =>
                rw [e] at p
                obtain ⟨o, ρ1⟩ := z
                cases o with
                | exc x => exact p
                | val u => exact p
            exact stepGs UPost.rest (by rw [List.length_map, z2.length]) s (zip_sh z2) (sh_noslot ds) p' fun F1 ρ1 σ1 H1 e1 s1 p1 => p1 σ1 F1 H1 (Ext.refl F1 G) s1
          · rw [if_neg hl] at p
            exact p.elim
      · exact z.elim
    | _ => exact p.elim
/-- (a, b) = a list -/
theorem sg_unl {k : Nat} (hc : X.calm = true) (h : SGs X W es gs) (hn : (assignEach es X.env).length = gs.length := by rfl) (hst : (assignEach es X.env).findIdx? (·.1) = none := by rfl) : SG X W (.Tuple es k pos) (gLs gs) :=
  (pg_unl hc h hn hst).imp fun v σ H Q ⟨F, G, avs, ρ, r, s, hr, p⟩ => by
  unfold gLs bnd at p
  cases e : fz r ρ with
  | none => rw [e] at p; exact p.elim
  | some z =>
    obtain ⟨o, ρ1⟩ := z
    rw [e] at p
    cases o with
    | exc x => exact (fz_noexc e).elim
    | val d =>
      obtain ⟨F1, e1, s1, r1⟩ := fz_ok s hr e
      cases d with
      | list ds =>
        dsimp only at p
        cases r1 with
        | @lst a xs _ z1 z2 =>
          by_cases hl : ds.length = gs.length
          · rw [if_pos hl] at p
            refine ⟨a, xs, rfl, s1.le.seq z1, by rw [z2.length, hl], ?_⟩
            have p' : UPost X.K X.mg G avs W Q F1 (bnd (gSeq gs (ds.map .sh)) (fun _ => ret ()) ρ1) := by
              have p := UPost.rest.up _ _ _ e1 p
              unfold bnd
              cases e : gSeq gs (ds.map .sh) ρ1 with
              | none => rw [e] at p; exact p
              | some z =>
                rw [e] at p
                obtain ⟨o, ρ1⟩ := z
                cases o with
                | exc x => exact p
                | val u => exact p
            exact stepGs UPost.rest (by rw [List.length_map, z2.length]) s1 (zip_sh z2) (sh_noslot ds) p' fun F1 ρ1 σ1 H1 e1 s1 p1 => p1 σ1 F1 H1 (Ext.refl F1 G) s1
          · rw [if_neg hl] at p
            exact p.elim
      | _ => exact p.elim
/-- a, b, .. = x, y, ..: the tuple is made, then taken apart -/
theorem ss_unp {k k2 : Nat} {pt pt2 : Pos} (hc : X.calm = true) (ha : SA X W es fs) (hg : SGs X W ts gs) (hl : fs.length ≤ 1000 := by decide) (hlg : fs.length = gs.length := by rfl) (hn : (assignEach ts X.env).length = gs.length := by rfl) (hst : (assignEach ts X.env).findIdx? (·.1) = none := by rfl)
    (hs : swapsWithSole [.Tuple ts k pt] (.Tuple es k2 pt2) pos.line X.env = pure false := by rfl) (hw : swappedStores [.Tuple ts k pt] (.Tuple es k2 pt2) X.env = pure none := by rfl) (h1 : (assignEach [.Tuple ts k pt] X.env).map (·.2) = [assign (.Tuple ts k pt) X.env] := by rfl) :
    SS X W (.Assign [.Tuple ts k pt] (.Tuple es k2 pt2) pos) (sUnp gs fs) := (ps_asg (pe_tup ha) (pg_tup hc hg hn hst) hs hw h1).imp fun D σ H ⟨F, G, avs, ρ, s, p⟩ => by
  refine stepA SPost.rest s Held.nil p fun ys rs F1 ρ1 H1 l1 l2 x1 s1 h1 p1 => ?_
  obtain ⟨F2, ρ2, qs, x2, s2, l3, h2, n2, p2⟩ := fzSlot_ok (ws := []) SPost.rest l1 s1 (by simpa using h1) (fun _ h => (nomatch h)) p1
  refine ⟨by rw [l1, l2]; exact lenLine hl, fun q hq => ⟨q, ys, rfl, sqt_at upd_same, by rw [l1, l2, hlg], ?_⟩⟩
  have g := Grow.fresh (o := .tup ys) s2.le hq
  have s3 := s2.grow g
  have h3 : Held X.K F2 G ρ2 σ (upd H1 q (.tup ys)) (ys.zip qs) := by
    have h2 : Held X.K F2 G ρ2 σ H1 (ys.zip qs) := by simpa using h2
    refine h2.over s2 (Ext.refl _ _) ((h2.sim s2).grow g)
  exact stepGs SPost.rest l3 s3 h3 n2 p2 fun F3 ρ3 σ3 H3 e3 s3 p3 => p3 σ3 F3 H3 (Ext.refl F3 G) s3
/-- a, b = x, y with plain local names -/
theorem asgs_ok {K : Fr} {mg : Str → Option Value} {G H : Hp} {avs : List V} {α : Type} {PP : Hp → Option (Out α × Rho) → Prop} (R : Rest K mg G avs W PP) {F : Hp} {ρ : Rho} {σ : St} {i : Nat} {v : V} {r : RV} {k : Unit → M α} {ws : List (V × RV)} (s : Sim K F G avs σ ρ H) (h : Held K F G ρ σ H (ws ++ [(v, r)])) (hn : ∀ p ∈ ws ++ [(v, r)], NoSlot p.2)
    (p : PP F (bnd (asg i r) k ρ)) : ∃ F' ρ', Ext F G F' ∧ Sim K F' G avs (σ.set i (some v)) ρ' H ∧ Held K F' G ρ' (σ.set i (some v)) H ws ∧ PP F' (k () ρ') := by
  unfold bnd at p
  cases e : asg i r ρ with
  | none => rw [e] at p; exact (R.no _ p).elim
  | some z =>
    obtain ⟨o, ρ1⟩ := z
    cases o with
    | exc x => exact (asg_noexc e).elim
    | val u =>
      rw [e] at p
      have h1 : Held K F G ρ σ H ws := ⟨fun p hp => h.ok p (List.mem_append_left _ hp), by
        have nd := h.nd
        unfold tmps at nd ⊢
        rw [List.filterMap_append] at nd
        exact (List.nodup_append.mp nd).1⟩
      have hr : RvOk K F (gadd G H (tmps ws)) ρ σ H v r := by
        have q := h.ok (v, r) (List.mem_append_right _ List.mem_cons_self)
        cases r with
        | sh d => exact q
        | slot i => exact q
        | new d =>
          obtain ⟨a, h1, h2, h3, h4, h5⟩ := q
          have h1 : v = .ref a := h1
          subst h1
          refine ⟨a, rfl, h2, h3, ?_, h5⟩
          rw [gadd_out (fun hm => ?_)]
          · exact h4
          · have nd := h.nd
            rw [tmps_snoc] at nd
            exact (List.nodup_append.mp (show (tmps ws ++ [a]).Nodup from nd)).2.2 a hm a (by simp) rfl
      obtain ⟨F1, e1, s1⟩ := asg_ok (h1.sim s) hr e
      exact ⟨F1, ρ1, e1.gless h1.gsame, s1.gless h1.gsame, h1.overN (fun p hp => hn p (List.mem_append_left _ hp)) e1 s1, R.up _ _ _ (e1.gless h1.gsame) p⟩
theorem len2 {α : Type} {xs : List α} (h : xs.length = 2) : ∃ a b, xs = [a, b] := by
  match xs, h with
  | [a, b], _ => exact ⟨a, b, rfl⟩
theorem len3 {α : Type} {xs : List α} (h : xs.length = 3) : ∃ a b c, xs = [a, b, c] := by
  match xs, h with
  | [a, b, c], _ => exact ⟨a, b, c, rfl⟩
theorem bnd_seqc {α : Type} {g : RV → M Unit} {gs : List (RV → M Unit)} {r : RV} {rs : List RV} {k : Unit → M α} : bnd (gSeq (g :: gs) (r :: rs)) k = bnd (g r) fun _ => bnd (gSeq gs rs) k := by
  funext ρ
  conv => lhs; unfold gSeq
  unfold bnd
  cases g r ρ with
  | none => rfl
  | some z =>
    obtain ⟨o, ρ1⟩ := z
    cases o <;> rfl
theorem bnd_seqn {α : Type} {k : Unit → M α} : bnd (gSeq [] []) k = k () := rfl
theorem bnd_seq2 {α : Type} {g g' : RV → M Unit} {r r' : RV} {k : Unit → M α} : bnd (gSeq [g, g'] [r, r']) k = bnd (g r) fun _ => bnd (g' r') k := by
  rw [bnd_seqc]
  congr 1
  funext _
  rw [bnd_seqc]
  congr 1
theorem bnd_seq3 {α : Type} {g g' g2 : RV → M Unit} {r r' r2 : RV} {k : Unit → M α} : bnd (gSeq [g, g', g2] [r, r', r2]) k = bnd (g r) fun _ => bnd (g' r') fun _ => bnd (g2 r2) k := by
  rw [bnd_seqc]
  congr 1
  funext _
  rw [bnd_seq2]
theorem ss_par (i j : Nat) {x y : Str} {px py pt : Pos} {kt k2 : Nat} {pt2 : Pos} (hc : X.calm = true) (hN : X.N.Nodup) (ha : SA X W [a, b] [fa, fb]) (hi : X.N[i]? = some x := by rfl) (hj : X.N[j]? = some y := by rfl) (hij : i ≠ j := by decide)
    (hx : X.env.scope.names.lookup x = some .local := by rfl) (hy : X.env.scope.names.lookup y = some .local := by rfl)
    (hw : swappedStores [.Tuple [.Name x px, .Name y py] kt pt] (.Tuple [a, b] k2 pt2) X.env = pure (some [x, y]) := by rfl)
    (hs : swapsWithSole [.Tuple [.Name x px, .Name y py] kt pt] (.Tuple [a, b] k2 pt2) pos.line X.env = pure false := by rfl) :
    SS X W (.Assign [.Tuple [.Name x px, .Name y py] kt pt] (.Tuple [a, b] k2 pt2) pos) (sUnpR [asg i, asg j] [fa, fb]) := (ps_par hc hN hi hj hij hx hy ha hw hs).imp fun D σ H ⟨F, G, avs, ρ, s, p⟩ => by
  refine stepA SPost.rest s Held.nil p fun ys rs F1 ρ1 H1 l1 l2 x1 s1 h1 p1 => ?_
  obtain ⟨F2, ρ2, qs, x2, s2, l3, h2, n2, p2⟩ := fzSlot_ok (ws := []) SPost.rest l1 s1 (by simpa using h1) (fun _ h => (nomatch h)) p1
  have l4 : ys.length = 2 := by rw [l1, l2]; rfl
  obtain ⟨v, w, rfl⟩ := len2 l4
  obtain ⟨r, q, rfl⟩ := len2 (l3.symm.trans l4)
  · have h2 : Held X.K F2 G ρ2 σ H1 ([(v, r)] ++ [(w, q)]) := h2
    have nn : ∀ p ∈ [(v, r)] ++ [(w, q)], NoSlot p.2 := fun p hp => by
      rcases List.mem_append.mp hp with z | z
      · cases List.mem_singleton.mp z; exact n2 r (by simp)
      · cases List.mem_singleton.mp z; exact n2 q (by simp)
    have p3 : SPost X.K X.mg G avs W D F2 (bnd (asg j q) (fun _ => bnd (asg i r) fun _ => ret .nx) ρ2) := by
      have z : bnd (gSeq [asg i, asg j].reverse [r, q].reverse) (fun _ => (ret .nx : M Fl)) = bnd (asg j q) fun _ => bnd (asg i r) fun _ => ret .nx := bnd_seq2
      rw [← z]
      exact p2
    obtain ⟨F3, ρ3, x3, s3, h3, p3⟩ := asgs_ok SPost.rest s2 h2 nn p3
    obtain ⟨F4, ρ4, x4, s4, h4, p4⟩ := asgs_ok (ws := []) SPost.rest s3 h3 (fun p hp => nn p (List.mem_append_left _ hp)) p3
    refine ⟨v, w, rfl, ?_⟩
    rw [List.set_comm _ _ (Ne.symm hij)] at s4
    exact p4 _ F4 H1 (Ext.refl F4 G) s4
theorem ss_par3 (i j l : Nat) {x y z : Str} {px py pz pt : Pos} {kt k2 : Nat} {pt2 : Pos} {fc : M RV} (hc : X.calm = true) (hN : X.N.Nodup) (ha : SA X W [a, b, c] [fa, fb, fc]) (hi : X.N[i]? = some x := by rfl) (hj : X.N[j]? = some y := by rfl) (hl : X.N[l]? = some z := by rfl) (hij : i ≠ j := by decide) (hil : i ≠ l := by decide) (hjl : j ≠ l := by decide)
    (hx : X.env.scope.names.lookup x = some .local := by rfl) (hy : X.env.scope.names.lookup y = some .local := by rfl) (hz : X.env.scope.names.lookup z = some .local := by rfl)
    (hw : swappedStores [.Tuple [.Name x px, .Name y py, .Name z pz] kt pt] (.Tuple [a, b, c] k2 pt2) X.env = pure (some [x, y, z]) := by rfl)
    (hs : swapsWithSole [.Tuple [.Name x px, .Name y py, .Name z pz] kt pt] (.Tuple [a, b, c] k2 pt2) pos.line X.env = pure false := by rfl) :
    SS X W (.Assign [.Tuple [.Name x px, .Name y py, .Name z pz] kt pt] (.Tuple [a, b, c] k2 pt2) pos) (sUnpR [asg i, asg j, asg l] [fa, fb, fc]) := (L2.ps_par3 hc hN hi hj hl hij hil hjl hx hy hz ha hw hs).imp fun D σ H ⟨F, G, avs, ρ, s, p⟩ => by
  refine stepA SPost.rest s Held.nil p fun ys rs F1 ρ1 H1 l1 l2 x1 s1 h1 p1 => ?_
  obtain ⟨F2, ρ2, qs, x2, s2, l3, h2, n2, p2⟩ := fzSlot_ok (ws := []) SPost.rest l1 s1 (by simpa using h1) (fun _ h => (nomatch h)) p1
  have l4 : ys.length = 3 := by rw [l1, l2]; rfl
  obtain ⟨u, v, w, rfl⟩ := len3 l4
  obtain ⟨r0, r, q, rfl⟩ := len3 (l3.symm.trans l4)
  · have h2 : Held X.K F2 G ρ2 σ H1 ([(u, r0), (v, r)] ++ [(w, q)]) := h2
    have nn : ∀ p ∈ [(u, r0), (v, r)] ++ [(w, q)], NoSlot p.2 := fun p hp => n2 p.2 (by
      have hp : p = (u, r0) ∨ p = (v, r) ∨ p = (w, q) := by simpa using hp
      rcases hp with z | z | z <;> (rw [z]; simp))
    have p3 : SPost X.K X.mg G avs W D F2 (bnd (asg l q) (fun _ => bnd (asg j r) fun _ => bnd (asg i r0) fun _ => ret .nx) ρ2) := by
      have z : bnd (gSeq [asg i, asg j, asg l].reverse [r0, r, q].reverse) (fun _ => (ret .nx : M Fl)) = bnd (asg l q) fun _ => bnd (asg j r) fun _ => bnd (asg i r0) fun _ => ret .nx := bnd_seq3
      rw [← z]
      exact p2
    obtain ⟨F3, ρ3, x3, s3, h3, p3⟩ := asgs_ok SPost.rest s2 h2 nn p3
    obtain ⟨F4, ρ4, x4, s4, h4, p4⟩ := asgs_ok (ws := [(u, r0)]) SPost.rest s3 h3 (fun p hp => nn p (List.mem_append_left _ hp)) p3
    obtain ⟨F5, ρ5, x5, s5, h5, p5⟩ := asgs_ok (ws := []) SPost.rest s4 h4 (fun p hp => nn p (List.mem_append_left _ (List.mem_append_left [(v, r)] hp))) p4
    refine ⟨u, v, w, rfl, ?_⟩
    rw [List.set_comm _ _ (Ne.symm hjl), List.set_comm _ _ (Ne.symm hil), List.set_comm _ _ (Ne.symm hij)] at s5
    exact p5 _ F5 H1 (Ext.refl F5 G) s5

/-! ### stores into lists and dicts -/
def rPut (K : Fr) (ch : D → D → D → Option D) : TSet := fun o i v H Q => ∃ F a d k e d', Same F H ∧ o = V.ref a ∧ Own K F H a d ∧ F a = none ∧ Rep K F i k ∧ Rep K F v e ∧ ch k e d = some d' ∧ ∀ z, Own K F (upd H a z) a d' → Q (upd H a z)
abbrev OpP (X : Cx) (ch : D → D → D → Option D) : Prop := PSet X (rPut X.K ch)
theorem put_ok {K : Fr} {mg : Str → Option Value} {F G H : Hp} {avs : List V} {σ : St} {ρ : Rho} {α : Type} {PP : Hp → Option (Out α × Rho) → Prop} {g : Unit → M α} {ch : D → D → D → Option D} {r : RV} {k e : D} {o i v : V} (R : Rest K mg G avs W PP) (s : Sim K F G avs σ ρ H)
    (ho : ∀ j, r = .slot j → σ[j]? = some (some o)) (hi : Rep K F i k) (hv : Rep K F v e) (p : PP F (bnd (put ch k e r) g ρ)) : rPut K ch o i v H fun H1 => ∃ ρ1, Sim K F G avs σ ρ1 H1 ∧ PP F (g () ρ1) := by
  unfold bnd put at p
  cases r with
  | sh d => exact (R.no _ p).elim
  | new d => exact (R.no _ p).elim
  | slot j =>
    have hx := ho j rfl
    dsimp only at p
    have go : ∀ (d : D) (c : D → Cell), ((ρ[j]? = some (Cell.own d) ∧ c = Cell.own) ∨ (ρ[j]? = some (Cell.arg d) ∧ c = Cell.arg)) → ∀ d', ch k e d = some d' → PP F (g () (ρ.set j (c d'))) → rPut K ch o i v H fun H1 => ∃ ρ1, Sim K F G avs σ ρ1 H1 ∧ PP F (g () ρ1) := fun d c hc d' e1 p => by
      obtain ⟨a, y1, y2, y3, y4⟩ := s.ow j d (by rcases hc with z | z; exact .inl z.1; exact .inr z.1)
      rw [hx] at y1
      cases y1
      refine ⟨F, a, d, k, e, d', s.le, rfl, y2, y3, hi, hv, e1, fun z ow => ?_⟩
      exact ⟨_, s.change (c := c d') (by rcases hc with z | z; exact .inl ⟨z.1, by rw [z.2]⟩; exact .inr ⟨z.1, by rw [z.2]⟩) hx ow, p⟩
    cases c : ρ[j]? with
    | none => rw [c] at p; exact (R.no _ p).elim
    | some cl =>
      rw [c] at p
      cases cl with
      | un => exact (R.no _ p).elim
      | sh d => exact (R.no _ p).elim
      | own d =>
        dsimp only at p
        cases e1 : ch k e d with
        | none => rw [e1] at p; exact (R.no _ p).elim
        | some d' => rw [e1] at p; exact go d Cell.own (.inl ⟨c, rfl⟩) d' e1 p
      | arg d =>
        dsimp only at p
        cases e1 : ch k e d with
        | none => rw [e1] at p; exact (R.no _ p).elim
        | some d' => rw [e1] at p; exact go d Cell.arg (.inr ⟨c, rfl⟩) d' e1 p
theorem put2_ok {K : Fr} {mg : Str → Option Value} {F G H : Hp} {avs : List V} {σ : St} {ρ : Rho} {α : Type} {PP : Hp → Option (Out α × Rho) → Prop} {g : Unit → M α} {ch : D → D → D → Option D} {r : RV} {ds : List D} {o i v : V} (R : Rest K mg G avs W PP) (s : Sim K F G avs σ ρ H)
    (ho : ∀ j, r = .slot j → σ[j]? = some (some o)) (hr : RepL K F [v, i] ds) (p : PP F (bnd (put2 ch r ds) g ρ)) : rPut K ch o i v H fun H1 => ∃ ρ1, Sim K F G avs σ ρ1 H1 ∧ PP F (g () ρ1) := by
  cases hr with
  | cons h1 h2 =>
    cases h2 with
    | cons h2 h3 =>
      cases h3
      exact put_ok R s ho h2 h1 p
theorem rPut_mono {K : Fr} {ch : D → D → D → Option D} {o i v : V} {H : Hp} {Q Q' : Hp → Prop} (h : ∀ H, Q H → Q' H) : rPut K ch o i v H Q → rPut K ch o i v H Q' := fun ⟨F, a, d, k, e, d', h1, h2, h3, h4, h5, h6, h7, h8⟩ => ⟨F, a, d, k, e, d', h1, h2, h3, h4, h5, h6, h7, fun z ow => h _ (h8 z ow)⟩
theorem Held.slot {K : Fr} {F G H : Hp} {σ : St} {ρ : Rho} {vs : List (V × RV)} {x : V} {r : RV} (h : Held K F G ρ σ H vs) (hm : (x, r) ∈ vs) : ∀ j, r = .slot j → σ[j]? = some (some x) := fun j e => by
  have := h.ok _ hm
  rw [e] at this
  exact this
theorem sg_put {ch : D → D → D → Option D} (hp : OpP X ch) (ho : SE X W o fo) (hi : SE X W i fi)
    (ha : ∀ v, assign (.Subscript o i pos) X.env v = (do
      let ov ← holding [v] (eval o X.env)
      let iv ← holding [v, ov] (eval i X.env)
      standAt pos
      holding [v, ov, iv] (setItem ov iv v)
      release [v, ov, iv] []) := by intro _; rfl) : SG X W (.Subscript o i pos) (gPut ch fo fi) := (pg_sub ho hi hp ha).imp fun v σ H Q ⟨F, G, avs, ρ, r, s, hr, p⟩ => by
  have h0 : Held X.K F G ρ σ H [(v, r)] := Held.nil.snoc hr fun d e a e2 hm => by cases hm
  have p' : UPost X.K X.mg G avs W Q F (bnd fo (fun o => bnd fi fun ix => bnd (fzs [r, ix]) fun ds => put2 ch o ds) ρ) := p
  refine tE_mono (fun x H1 z => ?_) (step UPost.rest s h0 p')
  obtain ⟨ro, F1, ρ1, e1, s1, h1, p1⟩ := z
  refine tE_mono (fun y H2 z => ?_) (step UPost.rest s1 h1 p1)
  obtain ⟨ri, F2, ρ2, e2, s2, h2, p2⟩ := z
  have hx := h2.slot (x := x) (r := ro) (by simp)
  have h3 : Held X.K F2 G ρ2 σ H2 ([] ++ [v, y].zip [r, ri]) := ⟨fun p hp => h2.ok p (by
    have hp : p = (v, r) ∨ p = (y, ri) := by simpa using hp
    rcases hp with z | z <;> (rw [z]; simp)), h2.nd.sublist (by
      refine List.Sublist.filterMap _ ?_
      show List.Sublist [(v, r), (y, ri)] [(v, r), (x, ro), (y, ri)]
      exact .cons_cons _ (.cons _ (.refl _)))⟩
  obtain ⟨F3, ρ3, ds, e3, s3, h3, r3, p3⟩ := fzs_ok UPost.rest rfl s2 h3 p2
  have p4 : UPost X.K X.mg G avs W Q F3 (bnd (put2 ch ro ds) (fun _ => ret ()) ρ3) := by
    unfold bnd
    cases e : put2 ch ro ds ρ3 with
    | none => rw [e] at p3; exact p3
    | some z =>
      rw [e] at p3
      obtain ⟨o, ρ1⟩ := z
      cases o with
      | exc x => exact p3
      | val u => exact p3
  refine rPut_mono (fun H4 z => ?_) (put2_ok UPost.rest s3 hx r3 p4)
  obtain ⟨ρ4, s4, p5⟩ := z
  exact p5 σ F3 H4 (Ext.refl F3 G) s4
abbrev OpG (X : Cx) (op : D → D → Option RV) : Prop := PGet X (rD2 X.K op)
abbrev OpI (X : Cx) (k : Operator) (op : D → D → Option RV) : Prop := PIp X k (rD2 X.K op)
theorem rD2_mono {K : Fr} {op : D → D → Option RV} {x y : V} {H : Hp} {Q Q' : VK} (h : ∀ v H, Q v H → Q' v H) : rD2 K op x y H Q → rD2 K op x y H Q' := fun ⟨F, d, e, h1, h2, h3, h4⟩ => ⟨F, d, e, h1, h2, h3, by
  revert h4
  generalize op d e = o
  intro h4
  match o, h4 with
  | some (.sh d), h4 => exact fun v F' H' g r => h _ _ (h4 v F' H' g r)
  | some (.new d), h4 => exact fun v F' H' g n f w => h _ _ (h4 v F' H' g n f w)⟩
theorem fin_noexc {o : Option RV} {ρ ρ' : Rho} {x : Exc} (e : fin o ρ = some (.exc x, ρ')) : False := by
  match o, e with
  | some (.sh _), e => cases e
  | some (.new _), e => cases e
theorem fin_same {o : Option RV} {ρ ρ' : Rho} {r : RV} (e : fin o ρ = some (.val r, ρ')) : o = some r ∧ ρ' = ρ ∧ NoSlot r := by
  match o, e with
  | some (.sh _), e => cases e; exact ⟨rfl, rfl, fun i z => by cases z⟩
  | some (.new _), e => cases e; exact ⟨rfl, rfl, fun i z => by cases z⟩
theorem fin_gadd {K : Fr} {mg : Str → Option Value} {F G H : Hp} {avs : List V} {σ : St} {ρ : Rho} {α : Type} {PP : Hp → Option (Out α × Rho) → Prop} {k : RV → M α} {o : Option RV} {vs : List (V × RV)} {Q : VK} (R : Rest K mg G avs W PP) (s : Sim K F G avs σ ρ H) (h : Held K F G ρ σ H vs)
    (p : PP F (bnd (fin o) k ρ)) (q : ∀ y r F1 H1, Ext F G F1 → Sim K F1 G avs σ ρ H1 → Held K F1 G ρ σ H1 (vs ++ [(y, r)]) → NoSlot r → PP F1 (k r ρ) → Q y H1) : Fin K F H Q o := by
  have key : EPost K mg (gadd G H (tmps vs)) avs W σ Q F (fin o ρ) := by
    unfold bnd at p
    cases e : fin o ρ with
    | none => rw [e] at p; exact (R.no _ p).elim
    | some z =>
      obtain ⟨o', ρ1⟩ := z
      cases o' with
      | exc x => exact (fin_noexc e).elim
      | val r =>
        rw [e] at p
        obtain ⟨_, rfl, n⟩ := fin_same e
        intro v F1 H1 e1 s1 ok
        have h1 := h.over s e1 s1
        refine q v r F1 H1 (e1.gless h.gsame) (s1.gless h.gsame) (h1.snoc (ok.gless h.gsame) fun d hr a hv hm => ?_) n (R.up _ _ _ (e1.gless h.gsame) p)
        subst hr hv
        obtain ⟨b, eb, o1, _, o3, _⟩ := ok
        cases eb
        rw [gadd_in hm] at o3
        obtain ⟨_, q1, _⟩ := h.tmp hm
        exact q1.ne o3
  exact fin_ok (h.sim s) key
/-- an operation of two, then the rest -/
theorem step2 {K : Fr} {mg : Str → Option Value} {F G H : Hp} {avs : List V} {σ : St} {ρ : Rho} {α : Type} {PP : Hp → Option (Out α × Rho) → Prop} {k : RV → M α} {op : D → D → Option RV} {x y : V} {r q : RV} {vs : List (V × RV)} {Q : VK} (R : Rest K mg G avs W PP) (s : Sim K F G avs σ ρ H) (h : Held K F G ρ σ H vs)
    (hx : RvOk K F G ρ σ H x r) (hy : RvOk K F G ρ σ H y q) (p : PP F (bnd (ap2 op r q) k ρ))
    (go : ∀ y r F1 H1, Ext F G F1 → Sim K F1 G avs σ ρ H1 → Held K F1 G ρ σ H1 (vs ++ [(y, r)]) → NoSlot r → PP F1 (k r ρ) → Q y H1) : rD2 K op x y H Q := by
  unfold bnd ap2 at p
  cases e : rd r ρ with
  | none => rw [e] at p; exact (R.no _ p).elim
  | some d =>
    rw [e] at p
    cases e2 : rd q ρ with
    | none => rw [e2] at p; exact (R.no _ p).elim
    | some d2 =>
      rw [e2] at p
      exact ⟨F, d, d2, s.le, rd_rep s hx e, rd_rep s hy e2, fin_gadd R s h p go⟩
/-- x op= e -/
theorem ss_aug (i : Nat) {x : Str} {k : Operator} {op : D → D → Option RV} {pos' : Pos} (hN : X.N.Nodup) (he : SE X W e f) (ho : OpI X k op) (hi : X.N[i]? = some x := by rfl) (hx : Loc X.env.scope x := by first | exact Or.inl rfl | exact Or.inr rfl) (hf : X.fn x = true ∨ X.env.scope.names.lookup x = some .local := by first | exact .inl rfl | exact .inr rfl | assumption) :
    SS X W (.AugAssign (.Name x pos') k e pos) (sAug i op f) := (ps_aug hN hi hx he ho hf).imp fun D σ H ⟨F, G, avs, ρ, s, p⟩ => by
  unfold sAug bnd eV at p
  dsimp only at p
  cases c : ρ[i]? with
  | none => rw [c] at p; exact p.elim
  | some cl =>
    rw [c] at p
    cases cl with
    | un => exact p.elim
    | own d => exact p.elim
    | arg d => exact p.elim
    | sh d =>
      obtain ⟨v, h1, h2⟩ := s.sh i d c
      refine ⟨v, h1, ?_⟩
      have p1 : SPost X.K X.mg G avs W D F (bnd f (fun b => bnd (ap2 op (.sh d) b) fun r => bnd (asg i r) fun _ => ret .nx) ρ) := p
      have h0 : Held X.K F G ρ σ H [(v, .sh d)] := Held.nil.snoc (show RvOk X.K F G ρ σ H v (.sh d) from h2) fun d e a e2 hm => by cases hm
      refine tE_mono (fun y H1 z => ?_) (step SPost.rest s h0 p1)
      obtain ⟨r, F1, ρ1, e1, s1, h1', p2⟩ := z
      refine step2 SPost.rest s1 Held.nil (h1'.ok (v, .sh d) (by simp)) (h1'.ok (y, r) (by simp)) p2 fun z r F2 H2 e2 s2 h2 n2 p3 => ?_
      obtain ⟨F3, ρ3, e3, s3, _, p4⟩ := asgs_ok (ws := []) SPost.rest s2 h2 (fun p hp => by
        have hp : p = (z, r) := by simpa using hp
        rw [hp]; exact n2) p3
      exact p4 _ F3 H2 (Ext.refl F3 G) s3
end
end Fd
/-! Fd, part 10: what the operations do upon data. -/
namespace Fd
open PySem L2
def sizeD : Nat := 16777216
def smallL (n : Nat) : Bool := decide (n ≤ 16777216)
def opAdd : D → D → Option RV
  | .int i, .int j => some (.sh (.int (i + j)))
  | .str x, .str y => if x.length + y.length ≤ 16777216 then some (.sh (.str (x ++ y))) else none
  | .list xs, .list ys => if xs.length + ys.length ≤ 16777216 then some (.new (.list (xs ++ ys))) else none
  | .tuple xs, .tuple ys => if xs.length + ys.length ≤ 16777216 then some (.sh (.tuple (xs ++ ys))) else none
  | _, _ => none
def opSub : D → D → Option RV
  | .int i, .int j => some (.sh (.int (i - j)))
  | _, _ => none
def opMul : D → D → Option RV
  | .int i, .int j => if i.natAbs.log2 + j.natAbs.log2 < 1000000 then some (.sh (.int (i * j))) else none
  | .str x, .int k => if x.length ≤ 16 ∧ -1000 ≤ k ∧ k ≤ 1000 then some (.sh (.str (Txt.mul x k))) else none
  | .tuple xs, .int k => if 1 ≤ xs.length ∧ xs.length ≤ 1000 ∧ 2 ≤ k ∧ k ≤ 1000 then some (.sh (.tuple (List.replicate k.toNat xs).flatten)) else none
  | _, _ => none
/-- a list just written, times an int -/
def opRep : D → D → Option RV
  | .list xs, .int k => if k ≤ 16777216 ∧ -16777216 ≤ k ∧ xs.length * k.toNat ≤ 16777216 then some (.new (.list (List.replicate k.toNat xs).flatten)) else none
  | _, _ => none
def newOnly (r : RV) : M Unit := fun ρ => match r with
  | .new _ => some (.val (), ρ)
  | _ => none
def eRep (fa fb : M RV) : M RV := bnd fa fun a => bnd fb fun b => bnd (newOnly a) fun _ => ap2 opRep a b
def opFdiv : D → D → Option RV
  | .int i, .int j => if 0 < j ∧ j.natAbs.log2 < 9000 then some (.sh (.int (i / j))) else none
  | _, _ => none
def opMod : D → D → Option RV
  | .int i, .int j => if 0 < j then some (.sh (.int (i % j))) else none
  | _, _ => none
def opPow : D → D → Option RV
  | .int i, .int j => if 0 ≤ j ∧ j ≤ 1000 ∧ i.natAbs ≤ 4294967296 then some (.sh (.int (i ^ j.toNat))) else none
  | _, _ => none
def opNeg : D → Option RV
  | .int i => some (.sh (.int (-i)))
  | _ => none
def bl (b : Bool) : Option RV := some (.sh (.bool b))
def opLt : D → D → Option RV
  | .int i, .int j => bl (decide (i < j))
  | .str x, .str y => bl (decide (x.cps.toList < y.cps.toList))
  | _, _ => none
def opLe : D → D → Option RV
  | .int i, .int j => bl (decide (i ≤ j))
  | .str x, .str y => bl (!decide (y.cps.toList < x.cps.toList))
  | _, _ => none
def opGt : D → D → Option RV
  | .int i, .int j => bl (decide (j < i))
  | .str x, .str y => bl (decide (y.cps.toList < x.cps.toList))
  | _, _ => none
def opGe : D → D → Option RV
  | .int i, .int j => bl (decide (j ≤ i))
  | .str x, .str y => bl (!decide (x.cps.toList < y.cps.toList))
  | _, _ => none
def opEq : D → D → Option RV
  | .str x, .str y => bl (decide (x = y))
  | d, e => if SeqAt.shaped d && SeqAt.shaped e then bl (PyData.eqv d e) else none
def opNe : D → D → Option RV
  | .str x, .str y => bl (!decide (x = y))
  | d, e => if SeqAt.shaped d && SeqAt.shaped e then bl (!PyData.eqv d e) else none
def isNone : D → Bool
  | .none => true
  | _ => false
def opIsN : D → D → Option RV
  | d, .none => bl (isNone d)
  | .bool a, .bool b => bl (decide (a = b))
  | _, _ => none
def opIsNotN : D → D → Option RV
  | d, .none => bl (!isNone d)
  | .bool a, .bool b => bl (!decide (a = b))
  | _, _ => none
/-! ### keys -/
inductive KD where
  | k (a : Int ⊕ Str)
  | t (a : List (Int ⊕ Str))
  deriving DecidableEq
def key1 : D → Option (Int ⊕ Str)
  | .int i => some (.inl i)
  | .str x => some (.inr x)
  | _ => none
def keyN : List D → Option (List (Int ⊕ Str))
  | [] => some []
  | d :: ds => match key1 d, keyN ds with
    | some k, some ks => some (k :: ks)
    | _, _ => none
def kd : D → Option KD
  | .tuple ds => (keyN ds).map .t
  | d => (key1 d).map .k
def getD (kvs : List (D × D)) (k : D) : Option D := (kvs.find? fun e => decide (kd e.1 = kd k)).map (·.2)
def putD (kvs : List (D × D)) (k v : D) : List (D × D) :=
  if (kvs.any fun e => decide (kd e.1 = kd k)) = true then kvs.map (fun e => if kd e.1 = kd k then (e.1, v) else e) else kvs ++ [(k, v)]
def dropD (kvs : List (D × D)) (k : D) : List (D × D) := kvs.filter fun e => decide (kd e.1 ≠ kd k)
/-- all keys of the kind of k -/
def alike (kvs : List (D × D)) (k : D) : Bool := match kd k with
  | some (.k _) => kvs.all fun e => match kd e.1 with | some (.k _) => true | _ => false
  | some (.t _) => kvs.all fun e => match kd e.1 with | some (.t _) => true | _ => false
  | none => false
def cutD (xs : List D) (lo hi : Option Int) : List D := (xs.drop (HT.sIx xs.length 0 lo)).take (HT.sIx xs.length xs.length hi - HT.sIx xs.length 0 lo)
def opIx : D → D → Option RV
  | .list xs, .int i => (atI xs i).map .sh
  | .tuple xs, .int i => (atI xs i).map .sh
  | .str z, .int i => if z.length ≤ 16777216 then (atI z.cps.toList i).map fun c => .sh (.str ⟨#[c]⟩) else none
  | .dict kvs, k => if (kd k).isSome && alike kvs k then (getD kvs k).map .sh else none
  | _, _ => none
def opSl : D → Option Int → Option Int → Option RV
  | .list xs, lo, hi => some (.new (.list (cutD xs lo hi)))
  | .tuple xs, lo, hi => some (.sh (.tuple (cutD xs lo hi)))
  | .str z, lo, hi => if z.length ≤ 16777216 then some (.sh (.str (cutS z lo hi))) else none
  | _, _, _ => none
def flatD : D → Bool
  | .none => true
  | .bool _ => true
  | .int _ => true
  | .str _ => true
  | _ => false
def memD (x : D) (ys : List D) : Bool := ys.any fun y => PyData.eqv y x
def opIn : D → D → Option RV
  | x, .list ys => if flatD x && ys.all flatD then bl (memD x ys) else if SeqAt.shaped x && SeqAt.shaped (.list ys) then bl (memD x ys) else none
  | x, .tuple ys => if flatD x && ys.all flatD then bl (memD x ys) else none
  | .str x, .str z => match x.cps.toList with
    | [c] => bl (decide (c ∈ z.cps.toList))
    | _ => none
  | k, .dict kvs => if (kd k).isSome && alike kvs k then bl (getD kvs k).isSome else none
  | _, _ => none
def opNotIn : D → D → Option RV
  | x, .list ys => if flatD x && ys.all flatD then bl (!memD x ys) else if SeqAt.shaped x && SeqAt.shaped (.list ys) then bl (!memD x ys) else none
  | x, .tuple ys => if flatD x && ys.all flatD then bl (!memD x ys) else none
  | .str x, .str z => match x.cps.toList with
    | [c] => bl (!decide (c ∈ z.cps.toList))
    | _ => none
  | k, .dict kvs => if (kd k).isSome && alike kvs k then bl (!(getD kvs k).isSome) else none
  | _, _ => none
/-! ### built-ins -/
def opLen : List D → Option RV
  | [.list xs] => some (.sh (.int xs.length))
  | [.tuple xs] => some (.sh (.int xs.length))
  | [.str x] => if x.length ≤ 16777216 then some (.sh (.int x.length)) else none
  | [.dict kvs] => if (kvs.all fun e => (key1 e.1).isSome) then some (.sh (.int kvs.length)) else none
  | _ => none
def opList : List D → Option RV
  | [.list xs] => some (.new (.list xs))
  | [.tuple xs] => some (.new (.list xs))
  | _ => none
def opTuple : List D → Option RV
  | [.list xs] => some (.sh (.tuple xs))
  | [.tuple xs] => some (.sh (.tuple xs))
  | _ => none
def opInt : List D → Option RV
  | [.int i] => some (.sh (.int i))
  | [.bool b] => some (.sh (.int (if b then 1 else 0)))
  | _ => none
def opAbs : List D → Option RV
  | [.int i] => some (.sh (.int (if i < 0 then -i else i)))
  | _ => none
def intsOf : List D → Option (List Int)
  | [] => some []
  | .int i :: ds => (intsOf ds).map (i :: ·)
  | _ :: _ => none
def boolsOf : List D → Option (List Bool)
  | [] => some []
  | .bool i :: ds => (boolsOf ds).map (i :: ·)
  | _ :: _ => none
def strsOf : List D → Option (List Str)
  | [] => some []
  | .str i :: ds => (strsOf ds).map (i :: ·)
  | _ :: _ => none
def maxI : List Int → Option Int
  | [] => none
  | x :: xs => some (xs.foldl (fun a b => if a < b then b else a) x)
def minI : List Int → Option Int
  | [] => none
  | x :: xs => some (xs.foldl (fun a b => if b < a then b else a) x)
def opMax : List D → Option RV
  | [.int i, .int j] => some (.sh (.int (if j > i then j else i)))
  | [.list xs] => (intsOf xs).bind fun ns => (maxI ns).map fun m => .sh (.int m)
  | [.tuple xs] => (intsOf xs).bind fun ns => (maxI ns).map fun m => .sh (.int m)
  | _ => none
def opMin : List D → Option RV
  | [.int i, .int j] => some (.sh (.int (if j < i then j else i)))
  | [.list xs] => (intsOf xs).bind fun ns => (minI ns).map fun m => .sh (.int m)
  | [.tuple xs] => (intsOf xs).bind fun ns => (minI ns).map fun m => .sh (.int m)
  | _ => none
def opSum : List D → Option RV
  | [.list xs] => (intsOf xs).map fun ns => .sh (.int ns.sum)
  | _ => none
def opAll : List D → Option RV
  | [.list xs] => (boolsOf xs).map fun ns => .sh (.bool (ns.all id))
  | _ => none
def opAny : List D → Option RV
  | [.list xs] => (boolsOf xs).map fun ns => .sh (.bool (ns.any id))
  | _ => none
def reprOk (d : D) : Bool := d.canLay0 && (d.showable && decide (d.depth ≤ 40) && decide (d.shown.length ≤ 16777216))
def opRepr : List D → Option RV
  | [.int i] => if i.natAbs.log2 < 1920 then some (.sh (.str (toString i))) else none
  | [.list xs] => let d := PyData.list xs; if reprOk d then some (.sh (.str d.shown)) else none
  | [.tuple xs] => let d := PyData.tuple xs; if reprOk d then some (.sh (.str d.shown)) else none
  | [.str x] => if reprOk (.str x) then some (.sh (.str (reprText x))) else none
  | [.bool b] => some (.sh (.str (if b then "True" else "False")))
  | [.none] => some (.sh (.str "None"))
  | _ => none
/-- isinstance of a built-in type -/
def tyD : D → String
  | .none => "NoneType"
  | .bool _ => "bool"
  | .int _ => "int"
  | .str _ => "str"
  | .list _ => "list"
  | .tuple _ => "tuple"
  | .dict _ => "dict"
def opIsInt : D → Option RV
  | .int _ => bl true
  | .bool _ => bl true
  | _ => bl false
def opIsBool : D → Option RV
  | .bool _ => bl true
  | _ => bl false
def opIsStr : D → Option RV
  | .str _ => bl true
  | _ => bl false
def opIsList : D → Option RV
  | .list _ => bl true
  | _ => bl false
def opIsTuple : D → Option RV
  | .tuple _ => bl true
  | _ => bl false
def opIsDict : D → Option RV
  | .dict _ => bl true
  | _ => bl false
/-! ### text methods -/
def opJoin : List D → Option RV
  | [.str a, .list xs] => (strsOf xs).bind fun ys => if (ys.map (·.length)).sum + ys.length * a.length ≤ 16777216 then some (.sh (.str (Txt.join a ys))) else none
  | _ => none
def opCount : List D → Option RV
  | [.str a, .str b] => some (.sh (.int (Txt.count a b)))
  | _ => none
/-! ### changes -/
def chAppend : List D → D → Option (D × D)
  | [v], .list xs => if xs.length < 16777216 then some (.list (xs ++ [v]), .none) else none
  | _, _ => none
def chPop : List D → D → Option (D × D)
  | [], .list xs => (xs[xs.length - 1]?).map fun v => (.list xs.dropLast, v)
  | [.int i], .list xs => if -4611686018427387904 ≤ i ∧ i < 4611686018427387904 then (seqIndex? i xs.length).bind fun k => (xs[k]?).map fun v => (.list (xs.eraseIdx k), v) else none
  | _, _ => none
def putIx (k v : D) : D → Option D
  | .list xs => match k with
    | .int i => (ixN xs.length i).map fun j => .list (xs.set j v)
    | _ => none
  | .dict kvs => if kvs.length < 16777216 && alike kvs k then some (.dict (putD kvs k v)) else none
  | _ => none
end Fd
namespace Fd
open PySem L2
/-- a written dict: key, value, key, value .. -/
def isK (d : D) : Bool := (key1 d).isSome
def mkD : List D → List (D × D) → Option (List (D × D))
  | [], acc => some acc
  | k :: v :: r, acc => if isK k then mkD r (putD acc k v) else none
  | _, _ => none
def toD (ds : List D) : Option RV := if ds.length ≤ 30 then (mkD ds []).map fun kvs => .new (.dict kvs) else none
def flat2 : List (M RV × M RV) → List (M RV)
  | [] => []
  | (f, g) :: r => f :: g :: flat2 r
def eDct (ps : List (M RV × M RV)) : M RV := bnd (eS (flat2 ps)) fun rs => bnd (fzs rs) fun ds => fin (toD ds)
def eDct0 : M RV := ret (.new (.dict []))
/-- d.get(k, x) -/
def opGet : List D → Option RV
  | [.dict kvs, k] => if (kd k).isSome && alike kvs k then some (.sh ((getD kvs k).getD .none)) else none
  | [.dict kvs, k, x] => if (kd k).isSome && alike kvs k then some (.sh ((getD kvs k).getD x)) else none
  | _ => none
/-- d.pop(k) -/
def chPopD : List D → D → Option (D × D)
  | [k], .dict kvs => if isK k && alike kvs k then (getD kvs k).map fun v => (.dict (dropD kvs k), v) else none
  | _, _ => none
end Fd
namespace Fd
open PySem L2
/-- what can be sorted, all the same kind -/
def sortOk (ds : List D) : Bool := ds.all SeqAt.shaped && (ds.all fun d => ds.all fun e => PySem.W.alike d e) && ((ds.all fun d => match d with | .tuple (_ :: _) => true | _ => false) || ds.all fun d => match d with | .none => false | .tuple _ => false | _ => true)
def leD (a b : D) : Bool := !PySem.W.dataLt b a
def opSorted : List D → Option RV
  | [.list ds] => if sortOk ds then some (.new (.list (ds.mergeSort leD))) else none
  | _ => none
end Fd
/-! Fd, part 11: the operations: numbers, sequences. -/
namespace Fd
open PySem PySem.Spec PyProof.Rows L2
section
variable {X : Cx}
theorem OpR.imp {f : Value → Value → Sem Value} {r r' : R2} (h : OpR X f r) (i : ∀ x y H Q, r' x y H Q → r x y H Q) : OpR X f r' := fun pins s σ H x y v u Q I rx ry q => h pins s σ H x y v u Q I rx ry (i x y H Q q)
theorem UnR.imp {f : Value → Sem Value} {r r' : V → Hp → VK → Prop} (h : UnR X f r) (i : ∀ x H Q, r' x H Q → r x H Q) : UnR X f r' := fun pins s σ H x v Q I rx q => h pins s σ H x v Q I rx (i x H Q q)
theorem CallR.imp {f : Value} {r r' : List V → Hp → VK → Prop} (h : CallR X f r) (i : ∀ x H Q, r' x H Q → r x H Q) : CallR X f r' := fun pins s σ H x v Q I rx q => h pins s σ H x v Q I rx (i x H Q q)
theorem MtR.imp {id : String} {r r' : V → List V → Hp → VK → Prop} (h : MtR X id r) (i : ∀ x xs H Q, r' x xs H Q → r x xs H Q) : MtR X id r' := fun pins s σ H x xs v us Q I rx rs q => h pins s σ H x xs v us Q I rx rs (i x xs H Q q)
theorem IxR.imp {r r' : R2} (h : IxR X r) (i : ∀ x y H Q, r' x y H Q → r x y H Q) : IxR X r' := fun a b pins s σ H x y v u Q I rx ry q => h a b pins s σ H x y v u Q I rx ry (i x y H Q q)
theorem SlR.imp {r r' : V → Option Int → Option Int → Hp → VK → Prop} (h : SlR X r) (i : ∀ x lo hi H Q, r' x lo hi H Q → r x lo hi H Q) : SlR X r' := fun pins s σ H x v vl vu lo hi sl Q I rx hs pl pu q => h pins s σ H x v vl vu lo hi sl Q I rx hs pl pu (i x lo hi H Q q)
theorem PSet.imp {r r' : TSet} (h : PSet X r) (i : ∀ o k v H Q, r' o k v H Q → r o k v H Q) : PSet X r' := fun pins s σ H o k v ov iv u Q I ro ri rv q => h pins s σ H o k v ov iv u Q I ro ri rv (i o k v H Q q)
theorem PSet.or {r r' : TSet} (h : PSet X r) (h' : PSet X r') : PSet X (fun o k v H Q => r o k v H Q ∨ r' o k v H Q) := fun pins s σ H o k v ov iv u Q I ro ri rv q => by
  rcases q with q | q
  · exact h pins s σ H o k v ov iv u Q I ro ri rv q
  · exact h' pins s σ H o k v ov iv u Q I ro ri rv q
end
section
variable {K : Fr} {F H : Hp} {v : V} {ds : List D}
theorem repv_list (h : RepV K F H v (.list ds)) (e : Same F H) : ∃ a xs, v = V.ref a ∧ SqL K H a xs ∧ RepL K F xs ds := by
  rcases h with h | ⟨a, rfl, xs, h1, h2⟩
  · cases h with
    | lst h1 h2 => exact ⟨_, _, rfl, e.seq h1, h2⟩
  · exact ⟨a, xs, rfl, .inl (.inl h1), h2⟩
theorem repv_tup (h : RepV K F H v (.tuple ds)) (e : Same F H) : ∃ a xs, v = V.ref a ∧ H a = some (.tup xs) ∧ F a = some (.tup xs) ∧ RepL K F xs ds := by
  rcases h with h | ⟨a, rfl, h⟩
  · cases h with
    | tup h1 h2 => exact ⟨_, _, rfl, e _ _ h1, h1, h2⟩
  · exact h.elim
theorem Rep.tupN {a : Addr} {xs : List V} (h : F a = some (.tup xs)) (r : RepL K F xs ds) : Rep K F (.ref a) (.tuple ds) := .tup h r
theorem fin_sh {Q : VK} {d : D} {v : V} (h : Fin K F H Q (some (.sh d))) (e : Same F H) (r : Rep K F v d) : Q v H := h v F H (Grow.refl e) r
theorem fin_int {Q : VK} {i : Int} (h : Fin K F H Q (some (.sh (.int i)))) (e : Same F H) : Q (.int i) H := fin_sh h e (.int i)
theorem fin_bl {Q : VK} {b : Bool} (h : Fin K F H Q (bl b)) (e : Same F H) : Q (.bl b) H := fin_sh (d := .bool b) h e (.bl b)
theorem fin_str {Q : VK} {x : Str} (h : Fin K F H Q (some (.sh (.str x)))) (e : Same F H) : Q (.str x) H := fin_sh h e (.str x)
/-- a new list -/
theorem fin_lst {Q : VK} {xs : List V} (h : Fin K F H Q (some (.new (.list ds)))) (e : Same F H) (r : RepL K F xs ds) : ∀ p, H p = none → Q (.ref p) (upd H p (.lst xs)) := fun p hp => by
  have g := Grow.fresh (o := .lst xs) e hp
  exact h p F _ g hp (e.free hp) ⟨xs, upd_same, r⟩
/-- a new tuple -/
theorem fin_tup {Q : VK} {xs : List V} (h : Fin K F H Q (some (.sh (.tuple ds)))) (e : Same F H) (r : RepL K F xs ds) : ∀ p, H p = none → Q (.ref p) (upd H p (.tup xs)) := fun p hp => by
  have g := Grow.froz (o := .tup xs) e hp
  exact h _ _ _ g (.tup upd_same (r.mono g.le))
theorem RepL.len0 {xs : List V} (h : RepL K F xs ds) : xs = [] ↔ ds = [] := by
  constructor
  · intro e; subst e; cases h; rfl
  · intro e; subst e; cases h; rfl
theorem RepL.ints' : ∀ {xs : List V} {ds : List D} {ns : List Int}, RepL K F xs ds → intsOf ds = some ns → xs = ns.map V.int
  | _, _, ns, .nil, e => by cases e; rfl
  | _, _, ns, .cons (d := d) (ds := ds) r h, e => by
    cases d with
    | int i =>
      cases r
      unfold intsOf at e
      cases e2 : intsOf ds with
      | none => rw [e2] at e; cases e
      | some ms =>
        rw [e2] at e
        cases e
        rw [List.map_cons, RepL.ints' h e2]
    | _ => cases e
theorem RepL.bools : ∀ {xs : List V} {ds : List D} {ns : List Bool}, RepL K F xs ds → boolsOf ds = some ns → xs = ns.map V.bl
  | _, _, ns, .nil, e => by cases e; rfl
  | _, _, ns, .cons (d := d) (ds := ds) r h, e => by
    cases d with
    | bool i =>
      cases r
      unfold boolsOf at e
      cases e2 : boolsOf ds with
      | none => rw [e2] at e; cases e
      | some ms =>
        rw [e2] at e
        cases e
        rw [List.map_cons, RepL.bools h e2]
    | _ => cases e
theorem RepL.strs : ∀ {xs : List V} {ds : List D} {ns : List Str}, RepL K F xs ds → strsOf ds = some ns → xs = ns.map V.str
  | _, _, ns, .nil, e => by cases e; rfl
  | _, _, ns, .cons (d := d) (ds := ds) r h, e => by
    cases d with
    | str i =>
      cases r
      unfold strsOf at e
      cases e2 : strsOf ds with
      | none => rw [e2] at e; cases e
      | some ms =>
        rw [e2] at e
        cases e
        rw [List.map_cons, RepL.strs h e2]
    | _ => cases e
theorem RepL.rep {xs : List V} (h : RepL K F xs ds) : ∀ k : Nat, RepL K F (List.replicate k xs).flatten (List.replicate k ds).flatten
  | 0 => .nil
  | k + 1 => by
    rw [List.replicate_succ, List.replicate_succ, List.flatten_cons, List.flatten_cons]
    exact h.app (RepL.rep h k)
theorem RepL.cut {xs : List V} (h : RepL K F xs ds) (lo hi : Option Int) : RepL K F (cutV xs lo hi) (cutD ds lo hi) := by
  unfold cutV cutD
  rw [h.length]
  exact (h.drop _).take _
theorem RepL.at {xs : List V} {i : Int} {d : D} (h : RepL K F xs ds) (e : atI ds i = some d) : ∃ v, atI xs i = some v ∧ Rep K F v d := by
  unfold atI at e ⊢
  rw [h.length]
  cases e2 : ixN ds.length i with
  | none => rw [e2] at e; cases e
  | some j =>
    rw [e2] at e
    exact h.get (show ds[j]? = some d from e)
theorem RepL.snoc {xs : List V} {v : V} {d : D} (h : RepL K F xs ds) (r : Rep K F v d) : RepL K F (xs ++ [v]) (ds ++ [d]) := h.app (.one r)
theorem flat_rep {d : D} (h : Rep K F v d) (hf : flatD d = true) : flatV v = true := by
  cases d with
  | none => cases h; rfl
  | bool b => cases h; rfl
  | int i => cases h; rfl
  | str x => cases h; rfl
  | _ => cases hf
theorem flat_repv {d : D} (h : RepV K F H v d) (hf : flatD d = true) : Rep K F v d := by
  rcases h with h | ⟨a, rfl, h⟩
  · exact h
  · cases d with
    | list ds => cases hf
    | dict ds => cases hf
    | _ => exact h.elim
theorem flat_all : ∀ {xs : List V} {ds : List D}, RepL K F xs ds → ds.all flatD = true → xs.all flatV = true
  | _, _, .nil, _ => rfl
  | _, _, .cons r h, e => by
    rw [List.all_cons, Bool.and_eq_true] at e ⊢
    exact ⟨flat_rep r e.1, flat_all h e.2⟩
theorem eqV_rep {w : V} {d e : D} (h : Rep K F v d) (h' : Rep K F w e) (hd : flatD d = true) (he : flatD e = true) : eqV v w = PyData.eqv d e := by
  cases d with
  | none => cases h; cases e with
    | none => cases h'; rfl
    | bool b => cases h'; rfl
    | int i => cases h'; rfl
    | str x => cases h'; rfl
    | _ => cases he
  | bool b => cases h; cases e with
    | none => cases h'; rfl
    | bool b => cases h'; rfl
    | int i => cases h'; rfl
    | str x => cases h'; rfl
    | _ => cases he
  | int i => cases h; cases e with
    | none => cases h'; rfl
    | bool b => cases h'; rfl
    | int i => cases h'; rfl
    | str x => cases h'; rfl
    | _ => cases he
  | str x => cases h; cases e with
    | none => cases h'; rfl
    | bool b => cases h'; rfl
    | int i => cases h'; rfl
    | str x => cases h'; rfl
    | _ => cases he
  | _ => cases hd
theorem inV_rep {d : D} (h : Rep K F v d) (hd : flatD d = true) : ∀ {xs : List V} {ds : List D}, RepL K F xs ds → ds.all flatD = true → inV v xs = memD d ds
  | _, _, .nil, _ => rfl
  | _, _, .cons r t, e => by
    rw [List.all_cons, Bool.and_eq_true] at e
    unfold inV memD
    rw [List.any_cons, List.any_cons, eqV_rep r h e.1 hd]
    congr 1
    exact inV_rep h hd t e.2
/-! deep data -/
mutual
theorem Rep.dp {H : Hp} (e : Same F H) : ∀ (d : D) {v : V}, d.canLay0 = true → Rep K F v d → Dp K H v d
  | .none, _, _, h => by cases h; exact .non
  | .bool b, _, _, h => by cases h; exact .bl b
  | .int i, _, _, h => by cases h; exact .int i
  | .str x, _, _, h => by cases h; exact .str x
  | .list ds, _, c, h => by
    cases h with
    | lst h1 h2 => exact .lst (e.seq h1) (RepL.dp e ds (by simpa [PyData.canLay0] using c) h2)
  | .tuple ds, _, c, h => by
    cases h with
    | tup h1 h2 => exact .tup (.inl (.inl (e _ _ h1))) (RepL.dp e ds (by simpa [PyData.canLay0] using c) h2)
  | .dict ds, _, c, h => by simp [PyData.canLay0] at c
theorem RepL.dp {H : Hp} (e : Same F H) : ∀ (ds : List D) {vs : List V}, PyData.canLayAll0 ds = true → RepL K F vs ds → DpAll K H vs ds
  | [], _, _, h => by cases h; exact .nil
  | d :: ds, _, c, h => by
    cases h with
    | cons h1 h2 =>
      have c := Bool.and_eq_true_iff.mp (show (d.canLay0 && PyData.canLayAll0 ds) = true by simpa [PyData.canLayAll0] using c)
      exact .cons (Rep.dp e d c.1 h1) (RepL.dp e ds c.2 h2)
end
theorem RepV.dp {d : D} (e : Same F H) (c : SeqAt.shaped d = true) (h : RepV K F H v d) : Dp K H v d := by
  have c := SeqAt.canLay_of_shaped c
  rcases h with h | ⟨a, rfl, h⟩
  · exact Rep.dp e d c h
  · cases d with
    | list ds =>
      obtain ⟨xs, h1, h2⟩ := h
      exact .lst (.inl (.inl h1)) (RepL.dp e ds (by simpa [PyData.canLay0] using c) h2)
    | dict ds => simp [PyData.canLay0] at c
    | _ => exact h.elim
end
end Fd
/-! Fd, part 12: the operations' rules. -/
namespace Fd
open PySem PySem.Spec PyProof.Rows L2
section
variable {X : Cx}
/-! ### + - * // % ** -/
/-- list + list, also of lists that are known -/
def rCatLA (K : Fr) : R2 := fun x y H Q => ∃ a b xs ys, x = V.ref a ∧ y = V.ref b ∧ SqL K H a xs ∧ SqL K H b ys ∧ xs.length + ys.length ≤ sizeLine ∧ ∀ p, H p = none → Q (V.ref p) (upd H p (.lst (xs ++ ys)))
theorem op_catLA : OpR X (binaryOp .Add) (rCatLA X.K) := by
  intro pins s σ H x y v u Q I rx ry h
  obtain ⟨a, b, xs, ys, rfl, rfl, h1, h2, hz, q⟩ := h
  cases rx
  cases ry
  obtain ⟨its, r, ⟨⟨cls, dd, data, sl⟩, n, ho, hc, hd2, hd⟩, _⟩ := I.list h1
  obtain ⟨its2, r2, ⟨⟨cls2, dd2, data2, sl2⟩, n2, ho2, hc2, hd3, hd4⟩, _⟩ := I.list h2
  simp only at hc hd hc2 hd4
  subst hc hd hc2 hd4
  have l1 := r.length
  have l2 := r2.length
  have e : its.toArray ++ its2.toArray = (its ++ its2).toArray := by simp
  refine concat_meets ⟨_, ho, rfl⟩ ⟨_, ho2, rfl⟩ noFill_list_add seq_list_add PySem.F.slot_list_add PySem.F.entry_list_add (PySem.F.args_list_add_2 _ _) (list_addW a b its.toArray its2.toArray n n2 dd dd2 sl sl2 (by rw [List.size_toArray, List.size_toArray]; omega)) ⟨ho, ho2, ?_⟩
  rw [e]
  exact ⟨.ref _, _, I.lnew (t' := s.toks) (r.append r2) (by rw [List.length_append]; omega), rfl, q _ I.fresh⟩
theorem op_dadd : Op2 X (binaryOp .Add) opAdd := OpR.imp (op_add.or (op_add_str.or (op_catLA.or op_catA))) fun x y H Q ⟨F, d, e, hF, hx, hy, h⟩ => by
  unfold opAdd at h
  split at h
  · have := repv_int hx; have := repv_int hy; subst x y
    exact .inl ⟨_, _, rfl, rfl, fin_int h hF⟩
  · have := repv_str hx; have := repv_str hy; subst x y
    split at h
    · rename_i hl
      exact .inr (.inl ⟨_, _, rfl, rfl, hl, fin_str h hF⟩)
    · exact h.elim
  · obtain ⟨a, xs, rfl, h1, h2⟩ := repv_list hx hF
    obtain ⟨b, ys, rfl, h3, h4⟩ := repv_list hy hF
    split at h
    · rename_i hl
      exact .inr (.inr (.inl ⟨a, b, xs, ys, rfl, rfl, h1, h3, by rw [h2.length, h4.length]; exact hl, fin_lst h hF (h2.app h4)⟩))
    · exact h.elim
  · obtain ⟨a, xs, rfl, h1, h1f, h2⟩ := repv_tup hx hF
    obtain ⟨b, ys, rfl, h3, h3f, h4⟩ := repv_tup hy hF
    split at h
    · rename_i hl
      refine .inr (.inr (.inr ⟨a, b, xs, ys, rfl, rfl, sqt_at h1, sqt_at h3, by rw [h2.length, h4.length]; exact hl, fun e => ?_, fun _ e => ?_, fun _ _ => fin_tup h hF (h2.app h4)⟩))
      · rw [h2.len0.mp e] at h
        exact fin_sh h hF (.tup h3f h4)
      · rw [h4.len0.mp e, List.append_nil] at h
        exact fin_sh h hF (.tup h1f h2)
    · exact h.elim
  · exact h.elim
theorem op_dsub : Op2 X (binaryOp .Sub) opSub := OpR.imp op_sub fun x y H Q ⟨F, d, e, hF, hx, hy, h⟩ => by
  unfold opSub at h
  split at h
  · have := repv_int hx; have := repv_int hy; subst x y
    exact ⟨_, _, rfl, rfl, fin_int h hF⟩
  · exact h.elim
theorem op_mul_str : OpR X (binaryOp .Mult) (fun x y H Q => ∃ z k, x = .str z ∧ y = .int k ∧ z.length ≤ 16 ∧ -1000 ≤ k ∧ k ≤ 1000 ∧ Q (.str (Txt.mul z k)) H) := by
  intro pins s σ H x y v u Q I rx ry h
  obtain ⟨z, k, rfl, rfl, h1, h2, h3, q⟩ := h
  obtain ⟨t, rfl⟩ := rx
  obtain ⟨t', rfl⟩ := ry
  exact SB.mul (mulOk_of 16 1000 h1 h3 (by omega) (by decide) (by decide)) fun t' tk => ⟨.str (Txt.mul z k), H, I.tok _, ⟨_, rfl⟩, q⟩
theorem op_dmul : Op2 X (binaryOp .Mult) opMul := OpR.imp (op_mulW.or (op_mul_str.or op_repT)) fun x y H Q ⟨F, d, e, hF, hx, hy, h⟩ => by
  unfold opMul at h
  split at h
  · have := repv_int hx; have := repv_int hy; subst x y
    split at h
    · rename_i hc
      exact .inl ⟨_, _, rfl, rfl, hc, fin_int h hF⟩
    · exact h.elim
  · have := repv_str hx; have := repv_int hy; subst x y
    split at h
    · rename_i hc
      exact .inr (.inl ⟨_, _, rfl, rfl, hc.1, hc.2.1, hc.2.2, fin_str h hF⟩)
    · exact h.elim
  · have := repv_int hy; subst y
    obtain ⟨a, xs, rfl, h1, h1f, h2⟩ := repv_tup hx hF
    split at h
    · rename_i hc
      have l := h2.length
      refine .inr (.inr ⟨a, _, xs, rfl, rfl, sqt_at h1, fun e => ?_, hc.2.2.1, hc.2.2.2, by omega, fin_tup h hF (h2.rep _)⟩)
      subst e
      rw [List.length_nil] at l
      omega
    · exact h.elim
  · exact h.elim
theorem op_dfdiv : Op2 X (binaryOp .FloorDiv) opFdiv := OpR.imp op_fdivW fun x y H Q ⟨F, d, e, hF, hx, hy, h⟩ => by
  unfold opFdiv at h
  split at h
  · have := repv_int hx; have := repv_int hy; subst x y
    split at h
    · rename_i hc
      exact ⟨_, _, rfl, rfl, hc, fin_int h hF⟩
    · exact h.elim
  · exact h.elim
theorem op_dmod : Op2 X (binaryOp .Mod) opMod := OpR.imp op_mod fun x y H Q ⟨F, d, e, hF, hx, hy, h⟩ => by
  unfold opMod at h
  split at h
  · have := repv_int hx; have := repv_int hy; subst x y
    split at h
    · rename_i hc
      exact ⟨_, _, rfl, rfl, hc, fin_int h hF⟩
    · exact h.elim
  · exact h.elim
theorem op_dpow : Op2 X (binaryOp .Pow) opPow := OpR.imp op_pow fun x y H Q ⟨F, d, e, hF, hx, hy, h⟩ => by
  unfold opPow at h
  split at h
  · have := repv_int hx; have := repv_int hy; subst x y
    split at h
    · rename_i hc
      exact ⟨_, _, rfl, rfl, ⟨hc.1, by omega, by omega⟩, fin_int h hF⟩
    · exact h.elim
  · exact h.elim
theorem un_dneg : Op1 X (unaryOp .USub) opNeg := UnR.imp un_neg fun x H Q ⟨F, d, hF, hx, h⟩ => by
  unfold opNeg at h
  split at h
  · have := repv_int hx; subst x
    exact ⟨_, rfl, fin_int h hF⟩
  · exact h.elim
/-- op= upon numbers and texts -/
def opIAdd : D → D → Option RV
  | .int i, .int j => some (.sh (.int (i + j)))
  | .str x, .str y => if x.length + y.length ≤ 16777216 then some (.sh (.str (x ++ y))) else none
  | _, _ => none
theorem ip_dadd : OpI X .Add opIAdd := OpR.imp (f := inplaceOp .Add) (iop_add.or iop_add_str) fun x y H Q ⟨F, d, e, hF, hx, hy, h⟩ => by
  unfold opIAdd at h
  split at h
  · have := repv_int hx; have := repv_int hy; subst x y
    exact .inl ⟨_, _, rfl, rfl, fin_int h hF⟩
  · have := repv_str hx; have := repv_str hy; subst x y
    split at h
    · rename_i hl
      exact .inr ⟨_, _, rfl, rfl, hl, fin_str h hF⟩
    · exact h.elim
  · exact h.elim
theorem ip_dsub : OpI X .Sub opSub := OpR.imp (f := inplaceOp .Sub) iop_sub fun x y H Q ⟨F, d, e, hF, hx, hy, h⟩ => by
  unfold opSub at h
  split at h
  · have := repv_int hx; have := repv_int hy; subst x y
    exact ⟨_, _, rfl, rfl, fin_int h hF⟩
  · exact h.elim
/-- a list just written, times an int -/
def rOw2 (K : Fr) (op : D → D → Option RV) : R2 := fun x y H Q => ∃ F a d e, Same F H ∧ x = V.ref a ∧ Own K F H a d ∧ RepV K F H y e ∧ Fin K F H Q (op d e)
theorem op_drep : OpR X (binaryOp .Mult) (rOw2 X.K opRep) := OpR.imp op_rep fun x y H Q ⟨F, a, d, e, hF, hx, ow, hy, h⟩ => by
  unfold opRep at h
  split at h
  · have := repv_int hy; subst x y
    obtain ⟨xs, h1, h2⟩ := ow
    split at h
    · rename_i hc
      exact ⟨a, _, xs, rfl, rfl, h1, by omega, by omega, by rw [h2.length]; exact hc.2.2, fin_lst h hF (h2.rep _)⟩
    · exact h.elim
  · exact h.elim
theorem se_rep {W : WX} {a b : Expr} {fa fb : M RV} {pos : Pos} (ha : SE X W a fa) (hb : SE X W b fb) : SE X W (.BinOp a .Mult b pos) (eRep fa fb) := (pe_op op_drep ha hb).imp fun σ H Q ⟨F, G, avs, ρ, s, p⟩ => by
  refine tE_mono (fun x H1 z => ?_) (step EPost.rest s Held.nil p)
  obtain ⟨r, F1, ρ1, e1, s1, h1, p1⟩ := z
  refine tE_mono (fun y H2 z => ?_) (step EPost.rest s1 h1 p1)
  obtain ⟨q, F2, ρ2, e2, s2, h2, p2⟩ := z
  have hx := h2.ok (x, r) (by simp)
  have hy := h2.ok (y, q) (by simp)
  unfold bnd newOnly at p2
  dsimp only at p2
  cases r with
  | sh d => exact p2.elim
  | slot i => exact p2.elim
  | new d =>
    have p2 : EPost X.K X.mg G avs W σ Q F2 (ap2 opRep (.new d) q ρ2) := p2
    obtain ⟨a, ea, o1, _⟩ := hx
    unfold ap2 at p2
    cases e : rd q ρ2 with
    | none => rw [e] at p2; exact p2.elim
    | some d2 =>
      rw [e] at p2
      exact ⟨F2, a, d, d2, s2.le, ea, o1, rd_rep s2 hy e, fin_ok s2 p2⟩
/-! ### comparisons -/
theorem op_dlt : Op2 X (compareOp .Lt) opLt := OpR.imp (op_lt.or op_lt_str) fun x y H Q ⟨F, d, e, hF, hx, hy, h⟩ => by
  unfold opLt at h
  split at h
  · have := repv_int hx; have := repv_int hy; subst x y
    exact .inl ⟨_, _, rfl, rfl, fin_bl h hF⟩
  · have := repv_str hx; have := repv_str hy; subst x y
    exact .inr ⟨_, _, rfl, rfl, fin_bl h hF⟩
  · exact h.elim
theorem op_dle : Op2 X (compareOp .LtE) opLe := OpR.imp (op_le.or op_le_str) fun x y H Q ⟨F, d, e, hF, hx, hy, h⟩ => by
  unfold opLe at h
  split at h
  · have := repv_int hx; have := repv_int hy; subst x y
    exact .inl ⟨_, _, rfl, rfl, fin_bl h hF⟩
  · have := repv_str hx; have := repv_str hy; subst x y
    exact .inr ⟨_, _, rfl, rfl, fin_bl h hF⟩
  · exact h.elim
theorem op_dgt : Op2 X (compareOp .Gt) opGt := OpR.imp (op_gt.or op_gt_str) fun x y H Q ⟨F, d, e, hF, hx, hy, h⟩ => by
  unfold opGt at h
  split at h
  · have := repv_int hx; have := repv_int hy; subst x y
    exact .inl ⟨_, _, rfl, rfl, fin_bl h hF⟩
  · have := repv_str hx; have := repv_str hy; subst x y
    exact .inr ⟨_, _, rfl, rfl, fin_bl h hF⟩
  · exact h.elim
theorem op_dge : Op2 X (compareOp .GtE) opGe := OpR.imp (op_ge.or op_ge_str) fun x y H Q ⟨F, d, e, hF, hx, hy, h⟩ => by
  unfold opGe at h
  split at h
  · have := repv_int hx; have := repv_int hy; subst x y
    exact .inl ⟨_, _, rfl, rfl, fin_bl h hF⟩
  · have := repv_str hx; have := repv_str hy; subst x y
    exact .inr ⟨_, _, rfl, rfl, fin_bl h hF⟩
  · exact h.elim
theorem op_deq (hu : X.A.units + 64 < cLine) : Op2 X (compareOp .Eq) opEq := OpR.imp (op_eq.or (op_eqD hu)) fun x y H Q ⟨F, d, e, hF, hx, hy, h⟩ => by
  unfold opEq at h
  split at h
  · rename_i a b
    have := repv_str hx; have := repv_str hy; subst x y
    refine .inl ⟨rfl, ?_⟩
    have e1 : decide (V.str a = V.str b) = decide (a = b) := by
      by_cases z : a = b
      · rw [decide_eq_true z, decide_eq_true (congrArg V.str z)]
      · rw [decide_eq_false z, decide_eq_false fun w => z (V.str.inj w)]
    rw [e1]
    exact fin_bl h hF
  split at h
  · rename_i hc
    obtain ⟨c1, c2⟩ := Bool.and_eq_true_iff.mp hc
    exact .inr ⟨_, _, hx.dp hF c1, hy.dp hF c2, c1, c2, fin_bl h hF⟩
  · exact h.elim
theorem op_dne (hu : X.A.units + 64 < cLine) : Op2 X (compareOp .NotEq) opNe := OpR.imp (op_ne.or (op_neD hu)) fun x y H Q ⟨F, d, e, hF, hx, hy, h⟩ => by
  unfold opNe at h
  split at h
  · rename_i a b
    have := repv_str hx; have := repv_str hy; subst x y
    refine .inl ⟨rfl, ?_⟩
    have e1 : decide (V.str a = V.str b) = decide (a = b) := by
      by_cases z : a = b
      · rw [decide_eq_true z, decide_eq_true (congrArg V.str z)]
      · rw [decide_eq_false z, decide_eq_false fun w => z (V.str.inj w)]
    rw [e1]
    exact fin_bl h hF
  split at h
  · rename_i hc
    obtain ⟨c1, c2⟩ := Bool.and_eq_true_iff.mp hc
    exact .inr ⟨_, _, hx.dp hF c1, hy.dp hF c2, c1, c2, fin_bl h hF⟩
  · exact h.elim
theorem non_dec {K : Fr} {F H : Hp} {x : V} {d : D} (hx : RepV K F H x d) : decide (x = V.non) = isNone d := by
  rcases hx with hx | ⟨a, rfl, hx⟩
  · cases hx <;> rfl
  · cases d with
    | none => exact hx.elim
    | _ => rfl
theorem op_disN : Op2 X (compareOp .Is) opIsN := fun pins s σ H x y v u Q I rx ry ⟨F, d, e, hF, hx, hy, h⟩ => by
  unfold opIsN at h
  split at h
  · rename_i d
    have := repv_none hy; subst y
    refine op_isN pins s σ H x _ v u Q I rx ry ⟨rfl, ?_⟩
    rw [non_dec hx]
    exact fin_bl h hF
  · rename_i a b
    have := repv_bool hx; subst x
    have := repv_bool hy; subst y
    exact op_isBl pins s σ H _ _ v u Q I rx ry ⟨a, b, rfl, rfl, fin_bl h hF⟩
  · exact h.elim
theorem op_dnotN : Op2 X (compareOp .IsNot) opIsNotN := fun pins s σ H x y v u Q I rx ry ⟨F, d, e, hF, hx, hy, h⟩ => by
  unfold opIsNotN at h
  split at h
  · rename_i d
    have := repv_none hy; subst y
    refine op_notN pins s σ H x _ v u Q I rx ry ⟨rfl, ?_⟩
    rw [non_dec hx]
    exact fin_bl h hF
  · rename_i a b
    have := repv_bool hx; subst x
    have := repv_bool hy; subst y
    exact op_notBl pins s σ H _ _ v u Q I rx ry ⟨a, b, rfl, rfl, fin_bl h hF⟩
  · exact h.elim
end
end Fd
/-! Fd, part 13: dicts. -/
namespace Fd
open PySem PySem.Spec PyProof.Rows L2
/-! ### keys -/
theorem key1_D : ∀ k : Key, key1 (keyD k) = some k
  | .inl _ => rfl
  | .inr _ => rfl
theorem key1_of {d : D} {k : Key} (h : key1 d = some k) : d = keyD k := by
  cases d with
  | int i => cases h; rfl
  | str x => cases h; rfl
  | _ => cases h
theorem keyN_D : ∀ ks : List Key, keyN (ks.map keyD) = some ks
  | [] => rfl
  | k :: ks => by
    rw [List.map_cons]
    unfold keyN
    rw [key1_D, keyN_D ks]
theorem keyN_of : ∀ {ds : List D} {ks : List Key}, keyN ds = some ks → ds = ks.map keyD
  | [], ks, h => by cases h; rfl
  | d :: ds, ks, h => by
    unfold keyN at h
    cases e1 : key1 d with
    | none => rw [e1] at h; cases h
    | some k =>
      rw [e1] at h
      cases e2 : keyN ds with
      | none => rw [e2] at h; cases h
      | some ks' =>
        rw [e2] at h
        cases h
        rw [List.map_cons, key1_of e1, keyN_of e2]
theorem kd_K (k : Key) : kd (keyD k) = some (.k k) := by cases k <;> rfl
theorem kd_T (ks : List Key) : kd (.tuple (ks.map keyD)) = some (.t ks) := by
  show (keyN (ks.map keyD)).map KD.t = _
  rw [keyN_D]
  rfl
theorem kd_k {d : D} {k : Key} (h : kd d = some (.k k)) : d = keyD k := by
  cases d with
  | tuple ds =>
    have h : (keyN ds).map KD.t = some (.k k) := h
    cases e : keyN ds with
    | none => rw [e] at h; cases h
    | some ks => rw [e] at h; cases h
  | int i => cases h; rfl
  | str x => cases h; rfl
  | _ => cases h
theorem kd_t {d : D} {ks : List Key} (h : kd d = some (.t ks)) : d = .tuple (ks.map keyD) := by
  cases d with
  | tuple ds =>
    have h : (keyN ds).map KD.t = some (.t ks) := h
    cases e : keyN ds with
    | none => rw [e] at h; cases h
    | some ks' =>
      rw [e] at h
      cases h
      rw [keyN_of e]
  | int i => cases h
  | str x => cases h
  | _ => cases h
section
variable {K : Fr} {F H : Hp} {v : V}
theorem rep_key {k : Key} (h : RepV K F H v (keyD k)) : v = kV k := by
  cases k with
  | inl i => exact repv_int h
  | inr x => exact repv_str h
theorem repL_keys : ∀ {xs : List V} {ks : List Key}, RepL K F xs (ks.map keyD) → xs = ks.map kV
  | _, [], .nil => rfl
  | _, k :: ks, .cons r h => by rw [List.map_cons, rep_key (H := F) (.inl r), repL_keys h]
theorem rep_tkey {ks : List Key} (h : RepV K F H v (.tuple (ks.map keyD))) (e : Same F H) : ∃ b, v = V.ref b ∧ H b = some (.tup (ks.map kV)) := by
  obtain ⟨a, xs, rfl, h1, _, h2⟩ := repv_tup h e
  rw [repL_keys h2] at h1
  exact ⟨a, rfl, h1⟩
theorem repK_get {k : Key} : ∀ {kvs : List (Key × V)} {ds : List (D × D)}, RepK K F kvs ds → (valV kvs k = none ∧ getD ds (keyD k) = none) ∨ ∃ v d, valV kvs k = some v ∧ getD ds (keyD k) = some d ∧ Rep K F v d
  | _, _, .nil => .inl ⟨rfl, rfl⟩
  | _, _, .cons (k := j) (v := v) (d := d) r h => by
    by_cases e : j = k
    · subst e
      refine .inr ⟨v, d, valV_pos rfl, ?_, r⟩
      unfold getD
      rw [List.find?_cons, kd_K]
      simp
    · have n : ¬ kd (keyD j) = kd (keyD k) := fun z => by
        rw [kd_K, kd_K] at z
        cases z
        exact e rfl
      have g : ∀ ds : List (D × D), getD ((keyD j, d) :: ds) (keyD k) = getD ds (keyD k) := fun ds => by
        unfold getD
        rw [List.find?_cons]
        simp [n]
      rw [valV_neg (p := (j, v)) e, g]
      exact repK_get h
theorem repT_get {k : List Key} : ∀ {kvs : List (List Key × V)} {ds : List (D × D)}, RepT K F kvs ds → (valV kvs k = none ∧ getD ds (.tuple (k.map keyD)) = none) ∨ ∃ v d, valV kvs k = some v ∧ getD ds (.tuple (k.map keyD)) = some d ∧ Rep K F v d
  | _, _, .nil => .inl ⟨rfl, rfl⟩
  | _, _, .cons (k := j) (v := v) (d := d) r h => by
    by_cases e : j = k
    · subst e
      refine .inr ⟨v, d, valV_pos rfl, ?_, r⟩
      unfold getD
      rw [List.find?_cons]
      simp
    · have n : ¬ kd (.tuple (j.map keyD)) = kd (.tuple (k.map keyD)) := fun z => by
        rw [kd_T, kd_T] at z
        cases z
        exact e rfl
      have g : ∀ ds : List (D × D), getD ((.tuple (j.map keyD), d) :: ds) (.tuple (k.map keyD)) = getD ds (.tuple (k.map keyD)) := fun ds => by
        unfold getD
        rw [List.find?_cons]
        simp [n]
      rw [valV_neg (p := (j, v)) e, g]
      exact repT_get h
theorem RepK.length : ∀ {kvs : List (Key × V)} {ds : List (D × D)}, RepK K F kvs ds → kvs.length = ds.length
  | _, _, .nil => rfl
  | _, _, .cons _ h => by rw [List.length_cons, List.length_cons, RepK.length h]
theorem RepT.length : ∀ {kvs : List (List Key × V)} {ds : List (D × D)}, RepT K F kvs ds → kvs.length = ds.length
  | _, _, .nil => rfl
  | _, _, .cons _ h => by rw [List.length_cons, List.length_cons, RepT.length h]
theorem RepK.app : ∀ {kvs kvs' : List (Key × V)} {ds ds' : List (D × D)}, RepK K F kvs ds → RepK K F kvs' ds' → RepK K F (kvs ++ kvs') (ds ++ ds')
  | _, _, _, _, .nil, h => h
  | _, _, _, _, .cons r h, h' => .cons r (RepK.app h h')
theorem RepT.app : ∀ {kvs kvs' : List (List Key × V)} {ds ds' : List (D × D)}, RepT K F kvs ds → RepT K F kvs' ds' → RepT K F (kvs ++ kvs') (ds ++ ds')
  | _, _, _, _, .nil, h => h
  | _, _, _, _, .cons r h, h' => .cons r (RepT.app h h')
theorem repK_any {k : Key} : ∀ {kvs : List (Key × V)} {ds : List (D × D)}, RepK K F kvs ds → (kvs.any fun kv => decide (kv.1 = k)) = ds.any fun e => decide (kd e.1 = kd (keyD k))
  | _, _, .nil => rfl
  | _, _, .cons (k := j) r h => by
    rw [List.any_cons, List.any_cons, repK_any h]
    congr 1
    rw [kd_K, kd_K]
    simp
theorem repT_any {k : List Key} : ∀ {kvs : List (List Key × V)} {ds : List (D × D)}, RepT K F kvs ds → (kvs.any fun kv => decide (kv.1 = k)) = ds.any fun e => decide (kd e.1 = kd (.tuple (k.map keyD)))
  | _, _, .nil => rfl
  | _, _, .cons (k := j) r h => by
    rw [List.any_cons, List.any_cons, repT_any h]
    congr 1
    rw [kd_T, kd_T]
    simp
theorem repK_map {k : Key} {w : V} {x : D} (r : Rep K F w x) : ∀ {kvs : List (Key × V)} {ds : List (D × D)}, RepK K F kvs ds → RepK K F (kvs.map fun kv => if kv.1 = k then (kv.1, w) else kv) (ds.map fun e => if kd e.1 = kd (keyD k) then (e.1, x) else e)
  | _, _, .nil => .nil
  | _, _, .cons (k := j) q h => by
    rw [List.map_cons, List.map_cons]
    by_cases e : j = k
    · subst e
      rw [if_pos rfl, if_pos rfl]
      exact .cons r (repK_map r h)
    · have n : ¬ kd (keyD j) = kd (keyD k) := fun z => by
        rw [kd_K, kd_K] at z
        cases z
        exact e rfl
      rw [if_neg e, if_neg n]
      exact .cons q (repK_map r h)
theorem repT_map {k : List Key} {w : V} {x : D} (r : Rep K F w x) : ∀ {kvs : List (List Key × V)} {ds : List (D × D)}, RepT K F kvs ds → RepT K F (kvs.map fun kv => if kv.1 = k then (kv.1, w) else kv) (ds.map fun e => if kd e.1 = kd (.tuple (k.map keyD)) then (e.1, x) else e)
  | _, _, .nil => .nil
  | _, _, .cons (k := j) q h => by
    rw [List.map_cons, List.map_cons]
    by_cases e : j = k
    · subst e
      rw [if_pos rfl, if_pos rfl]
      exact .cons r (repT_map r h)
    · have n : ¬ kd (.tuple (j.map keyD)) = kd (.tuple (k.map keyD)) := fun z => by
        rw [kd_T, kd_T] at z
        cases z
        exact e rfl
      rw [if_neg e, if_neg n]
      exact .cons q (repT_map r h)
theorem RepK.put {kvs : List (Key × V)} {ds : List (D × D)} {k : Key} {w : V} {x : D} (h : RepK K F kvs ds) (r : Rep K F w x) : RepK K F (putK kvs k w) (putD ds (keyD k) x) := by
  unfold putK putD
  rw [repK_any h]
  split
  · exact repK_map r h
  · exact h.app (.cons r .nil)
theorem RepT.put {kvs : List (List Key × V)} {ds : List (D × D)} {k : List Key} {w : V} {x : D} (h : RepT K F kvs ds) (r : Rep K F w x) : RepT K F (putK kvs k w) (putD ds (.tuple (k.map keyD)) x) := by
  unfold putK putD
  rw [repT_any h]
  split
  · exact repT_map r h
  · exact h.app (.cons r .nil)
theorem RepK.drop {k : Key} : ∀ {kvs : List (Key × V)} {ds : List (D × D)}, RepK K F kvs ds → RepK K F (dropK kvs k) (dropD ds (keyD k))
  | _, _, .nil => .nil
  | _, _, .cons (k := j) q h => by
    have ih := RepK.drop (k := k) h
    unfold dropK dropD at ih ⊢
    rw [List.filter_cons, List.filter_cons]
    by_cases e : j = k
    · subst e
      simpa using ih
    · have n : ¬ kd (keyD j) = kd (keyD k) := fun z => by
        rw [kd_K, kd_K] at z
        cases z
        exact e rfl
      rw [if_pos (decide_eq_true e), if_pos (decide_eq_true n)]
      exact .cons q ih
theorem alike_K {kvs : List (List Key × V)} {ds : List (D × D)} {k : Key} (h : RepT K F kvs ds) (a : alike ds (keyD k) = true) : kvs = [] ∧ ds = [] := by
  cases h with
  | nil => exact ⟨rfl, rfl⟩
  | cons r h =>
    unfold alike at a
    rw [kd_K] at a
    simp [kd_T] at a
theorem alike_T {kvs : List (Key × V)} {ds : List (D × D)} {k : List Key} (h : RepK K F kvs ds) (a : alike ds (.tuple (k.map keyD)) = true) : kvs = [] ∧ ds = [] := by
  cases h with
  | nil => exact ⟨rfl, rfl⟩
  | cons r h =>
    unfold alike at a
    rw [kd_T] at a
    simp [kd_K] at a
end
/-! ### an empty dict is of both kinds -/
section
variable {X : Cx} {pins : List (Addr × Obj)} {σ : St} {H : Hp} {s : Shared} {a : Addr}
theorem empty_T {h : Heap} {P : Program} {w : World} (d : h.DictOf (mixKind P w) a ([] : List (Key × Value))) : h.DictOfH (tupleKind (mixKind P w)) a ([] : List (List Key × Addr × Value)) := by
  obtain ⟨o, es, ep, h1, h2, h3, h4, h5, h6⟩ := d
  refine ⟨o, es, ep, h1, h2, h3, ?_, fun x hx => (nomatch hx), List.nodup_nil⟩
  cases e : es.toList with
  | nil => rfl
  | cons b bs => rw [e] at h5; cases h5
theorem empty_K {h : Heap} {P : Program} {w : World} (d : h.DictOfH (tupleKind (mixKind P w)) a ([] : List (List Key × Addr × Value))) : h.DictOf (mixKind P w) a ([] : List (Key × Value)) := by
  obtain ⟨o, es, ep, h1, h2, h3, h4, _, _⟩ := d
  have e : es.toList = [] := h4
  refine ⟨o, es, ep, h1, h2, h3, ?_, by rw [e]; exact .nil, List.nodup_nil⟩
  intro b hb
  have hb : b ∈ es.toList := by simpa using hb
  rw [e] at hb
  cases hb
theorem inv_toT (I : Inv X pins σ H s) (e : H a = some (.dK [])) : Inv X pins σ (upd H a (.dT [])) s := by
  obtain ⟨z, hd, vs, rel, dd⟩ := dk_of I.hok e
  cases rel
  obtain ⟨o, es, ep, h1, h2, h3, h4, _, h5⟩ := empty_T dd
  exact I.write (x := a) (e := a) (t' := s.toks) (h' := s.heap) (by rw [e]; trivial) (.inl rfl) (fun b u _ q => q) ⟨o, h1⟩ ⟨Nat.zero_le _, hd, [], .nil, o, es, ep, h1, h2, h3, h4, List.nodup_nil⟩
theorem inv_toK (I : Inv X pins σ H s) (e : H a = some (.dT [])) : Inv X pins σ (upd H a (.dK [])) s := by
  obtain ⟨z, hd, vs, rel, dd⟩ := dt_of I.hok e
  cases rel
  have d2 := empty_K dd
  have he : ∃ q, s.heap.get? a = some q := let ⟨q, _, _, hq, _⟩ := d2; ⟨q, hq⟩
  exact I.write (x := a) (e := a) (t' := s.toks) (h' := s.heap) (by rw [e]; trivial) (.inl rfl) (fun b u _ q => q) he ⟨Nat.zero_le _, hd, [], .nil, d2⟩
end
/-! ### in, [], get -/
/-- what the dict holds at a key; an empty one is of both kinds -/
def DGetE (H : Hp) (a : Addr) (y : V) (r : Option V) : Prop := DGet H a y r ∨ (r = none ∧ Rd H a (.dT []) ∧ ∃ k, y = kV k) ∨ (r = none ∧ Rd H a (.dK []) ∧ ∃ (k : List Key) (b : Addr), y = .ref b ∧ H b = some (.tup (k.map kV)))
section
variable {X : Cx} {pins : List (Addr × Obj)} {σ : St} {H : Hp} {s : Shared} {a : Addr} {y : V} {u : Value} {o : Option V} {A : Around} {E : Value → Shared → Prop}
theorem dE_in {Q : Value → Shared → Prop} (hu : A.units + 1 < cLine) (I : Inv X pins σ H s) (g : DGetE H a y o) (ry : RelV y u) (h : ∀ s', Inv X pins σ H s' → Q (.bool o.isSome) s') :
    wpAny (model X.prog X.w) A (compareOp .In u (.ref a)) Q E s := by
  rcases g with g | ⟨rfl, e, k, rfl⟩ | ⟨rfl, e, k, b, rfl, eb⟩
  · exact d_in hu I g ry h
  · obtain ⟨z, hd, xs, rel, dd⟩ := dt_rd I.hok e
    cases rel
    exact wpAny_in_of (kV_is ry) hd (empty_K dd).mapOf (h _ (I.tok _))
  · cases (show u = Value.ref b from ry)
    obtain ⟨z, hd, xs, rel, dd⟩ := dk_rd I.hok e
    cases rel
    exact wpAny_in_heap (tupleKind_room_in1 hu) (key_of I.hok eb) hd (empty_T dd) (h _ (I.tok _))
theorem dE_notIn {Q : Value → Shared → Prop} (hu : A.units + 1 < cLine) (I : Inv X pins σ H s) (g : DGetE H a y o) (ry : RelV y u) (h : ∀ s', Inv X pins σ H s' → Q (.bool (!o.isSome)) s') :
    wpAny (model X.prog X.w) A (compareOp .NotIn u (.ref a)) Q E s := by
  rcases g with g | ⟨rfl, e, k, rfl⟩ | ⟨rfl, e, k, b, rfl, eb⟩
  · exact d_notIn hu I g ry h
  · obtain ⟨z, hd, xs, rel, dd⟩ := dt_rd I.hok e
    cases rel
    exact wpAny_notIn_of (kV_is ry) hd (empty_K dd).mapOf (h _ (I.tok _))
  · cases (show u = Value.ref b from ry)
    obtain ⟨z, hd, xs, rel, dd⟩ := dk_rd I.hok e
    cases rel
    exact wpAny_notIn_heap (tupleKind_room_in1 hu) (key_of I.hok eb) hd (empty_T dd) (h _ (I.tok _))
end
section
variable {K : Fr} {F H : Hp} {v y : V} {kvs : List (D × D)} {k : D}
/-- a dict of data, read -/
theorem repv_dict (h : RepV K F H v (.dict kvs)) (e : Same F H) : ∃ a, v = V.ref a ∧ ((∃ ks, Rd H a (.dK ks) ∧ RepK K F ks kvs) ∨ ∃ ks, Rd H a (.dT ks) ∧ RepT K F ks kvs) := by
  rcases h with h | ⟨a, rfl, h⟩
  · cases h with
    | dK h1 h2 => exact ⟨_, rfl, .inl ⟨_, Same.rd e h1, h2⟩⟩
    | dT h1 h2 => exact ⟨_, rfl, .inr ⟨_, Same.rd e h1, h2⟩⟩
  · rcases h with ⟨ks, h1, h2⟩ | ⟨ks, h1, h2⟩
    · exact ⟨a, rfl, .inl ⟨ks, .inl h1, h2⟩⟩
    · exact ⟨a, rfl, .inr ⟨ks, .inl h1, h2⟩⟩
theorem repv_get (h : RepV K F H v (.dict kvs)) (hy : RepV K F H y k) (e : Same F H) (hk : (kd k).isSome = true) (ha : alike kvs k = true) : ∃ a o, v = V.ref a ∧ DGetE H a y o ∧ ((o = none ∧ getD kvs k = none) ∨ ∃ w d, o = some w ∧ getD kvs k = some d ∧ Rep K F w d ∧ DGet H a y (some w)) := by
  obtain ⟨a, rfl, g0⟩ := repv_dict h e
  cases ek : kd k with
  | none => rw [ek] at hk; cases hk
  | some q =>
    cases q with
    | k j =>
      have := kd_k ek
      subst this
      have := rep_key hy
      subst this
      rcases g0 with ⟨ks, h1, h2⟩ | ⟨ks, h1, h2⟩
      · have g : DGet H a (kV j) (valV ks j) := .inl ⟨ks, j, h1, rfl, rfl⟩
        refine ⟨a, _, rfl, .inl g, ?_⟩
        rcases repK_get (k := j) h2 with ⟨q1, q2⟩ | ⟨w, d, q1, q2, q3⟩
        · exact .inl ⟨q1, q2⟩
        · rw [q1] at g
          exact .inr ⟨w, d, q1, q2, q3, g⟩
      · obtain ⟨rfl, rfl⟩ := alike_K h2 ha
        exact ⟨a, none, rfl, .inr (.inl ⟨rfl, h1, j, rfl⟩), .inl ⟨rfl, rfl⟩⟩
    | t j =>
      have := kd_t ek
      subst this
      obtain ⟨b, rfl, hb⟩ := rep_tkey hy e
      rcases g0 with ⟨ks, h1, h2⟩ | ⟨ks, h1, h2⟩
      · obtain ⟨rfl, rfl⟩ := alike_T h2 ha
        exact ⟨a, none, rfl, .inr (.inr ⟨rfl, h1, j, b, rfl, hb⟩), .inl ⟨rfl, rfl⟩⟩
      · have g : DGet H a (.ref b) (valV ks j) := .inr ⟨ks, j, b, h1, rfl, hb, rfl⟩
        refine ⟨a, _, rfl, .inl g, ?_⟩
        rcases repT_get (k := j) h2 with ⟨q1, q2⟩ | ⟨w, d, q1, q2, q3⟩
        · exact .inl ⟨q1, q2⟩
        · rw [q1] at g
          exact .inr ⟨w, d, q1, q2, q3, g⟩
end
section
variable {X : Cx}
def rInE : R2 := fun y x H Q => ∃ a o, x = V.ref a ∧ DGetE H a y o ∧ Q (.bl o.isSome) H
def rNotInE : R2 := fun y x H Q => ∃ a o, x = V.ref a ∧ DGetE H a y o ∧ Q (.bl (!o.isSome)) H
theorem op_inE (hu : X.A.units + 1 < cLine) : OpR X (compareOp .In) rInE := by
  intro pins s σ H y x u v Q I ry rx h
  obtain ⟨a, o, rfl, g, q⟩ := h
  cases rx
  exact dE_in hu I g ry fun s' I' => ⟨.bl o.isSome, H, I', rfl, q⟩
theorem op_notInE (hu : X.A.units + 1 < cLine) : OpR X (compareOp .NotIn) rNotInE := by
  intro pins s σ H y x u v Q I ry rx h
  obtain ⟨a, o, rfl, g, q⟩ := h
  cases rx
  exact dE_notIn hu I g ry fun s' I' => ⟨.bl (!o.isSome), H, I', rfl, q⟩
def rIxE : R2 := fun x y H Q => ∃ a v, x = V.ref a ∧ DGet H a y (some v) ∧ Q v H
theorem ix_dct (hu : X.A.units + 1 < cLine) : IxR X rIxE := by
  intro value slice pins s σ H x y v u Q I rx ry h hs
  obtain ⟨a, w, rfl, g, q⟩ := h
  cases rx
  exact tail_any (dict_typeIs I g) slot_dict_getitem.lookup (d_getItem hu I g ry fun w' s3 I3 rw' => ⟨w, H, I3, rw', q⟩) hs
theorem shaped_mem {x : D} {ys : List D} : (ys.any fun z => PyData.eqv z x) = memD x ys := rfl
theorem inbl {K : Fr} {F H : Hp} {Q : VK} {b c : Bool} (h : Fin K F H Q (bl b)) (e : Same F H) (hb : b = c) : Q (.bl c) H := by subst hb; exact fin_bl h e
theorem str_one {x : Str} {c : Nat} (h : x.cps.toList = [c]) : x = ⟨#[c]⟩ := by
  cases x with
  | mk cps => exact congrArg Str.mk (by rw [← Array.toArray_toList (xs := cps), h])
theorem op_din (hu : X.A.units + 65 < cLine) : Op2 X (compareOp .In) opIn := OpR.imp (op_in_seq.or ((op_inD hu).or (op_in_sign.or (op_inE (by omega))))) fun x y H Q ⟨F, d, e, hF, hx, hy, h⟩ => by
  unfold opIn at h
  split at h
  · obtain ⟨a, ys, rfl, h1, h2⟩ := repv_list hy hF
    split at h
    · rename_i hc
      obtain ⟨c1, c2⟩ := Bool.and_eq_true_iff.mp hc
      have hx := flat_repv hx c1
      exact .inl ⟨a, ys, rfl, .inl h1, flat_rep hx c1, flat_all h2 c2, inbl h hF (inV_rep hx c1 h2 c2).symm⟩
    · split at h
      · rename_i hc
        obtain ⟨c1, c2⟩ := Bool.and_eq_true_iff.mp hc
        exact .inr (.inl ⟨_, _, hx.dp hF c1, hy.dp hF c2, c1, c2, fin_bl h hF⟩)
      · exact h.elim
  · obtain ⟨a, ys, rfl, h1, _, h2⟩ := repv_tup hy hF
    split at h
    · rename_i hc
      obtain ⟨c1, c2⟩ := Bool.and_eq_true_iff.mp hc
      have hx := flat_repv hx c1
      exact .inl ⟨a, ys, rfl, .inr (sqt_at h1), flat_rep hx c1, flat_all h2 c2, inbl h hF (inV_rep hx c1 h2 c2).symm⟩
    · exact h.elim
  · have := repv_str hx; have := repv_str hy; subst x y
    split at h
    · rename_i c hc
      rw [str_one hc]
      exact .inr (.inr (.inl ⟨c, _, rfl, rfl, fin_bl h hF⟩))
    · exact h.elim
  · split at h
    · rename_i hc
      obtain ⟨c1, c2⟩ := Bool.and_eq_true_iff.mp hc
      obtain ⟨a, o, rfl, g, q⟩ := repv_get hy hx hF c1 c2
      refine .inr (.inr (.inr ⟨a, o, rfl, g, inbl h hF ?_⟩))
      rcases q with ⟨q1, q2⟩ | ⟨w, d, q1, q2, _⟩
      · rw [q1, q2]; rfl
      · rw [q1, q2]; rfl
    · exact h.elim
  · exact h.elim
theorem op_dnotin (hu : X.A.units + 65 < cLine) : Op2 X (compareOp .NotIn) opNotIn := OpR.imp (op_notIn_seq.or ((op_notInD hu).or (op_notIn_sign.or (op_notInE (by omega))))) fun x y H Q ⟨F, d, e, hF, hx, hy, h⟩ => by
  unfold opNotIn at h
  split at h
  · obtain ⟨a, ys, rfl, h1, h2⟩ := repv_list hy hF
    split at h
    · rename_i hc
      obtain ⟨c1, c2⟩ := Bool.and_eq_true_iff.mp hc
      have hx := flat_repv hx c1
      exact .inl ⟨a, ys, rfl, .inl h1, flat_rep hx c1, flat_all h2 c2, inbl h hF (by rw [inV_rep hx c1 h2 c2]; rfl)⟩
    · split at h
      · rename_i hc
        obtain ⟨c1, c2⟩ := Bool.and_eq_true_iff.mp hc
        exact .inr (.inl ⟨_, _, hx.dp hF c1, hy.dp hF c2, c1, c2, fin_bl h hF⟩)
      · exact h.elim
  · obtain ⟨a, ys, rfl, h1, _, h2⟩ := repv_tup hy hF
    split at h
    · rename_i hc
      obtain ⟨c1, c2⟩ := Bool.and_eq_true_iff.mp hc
      have hx := flat_repv hx c1
      exact .inl ⟨a, ys, rfl, .inr (sqt_at h1), flat_rep hx c1, flat_all h2 c2, inbl h hF (by rw [inV_rep hx c1 h2 c2]; rfl)⟩
    · exact h.elim
  · have := repv_str hx; have := repv_str hy; subst x y
    split at h
    · rename_i c hc
      rw [str_one hc]
      exact .inr (.inr (.inl ⟨c, _, rfl, rfl, fin_bl h hF⟩))
    · exact h.elim
  · split at h
    · rename_i hc
      obtain ⟨c1, c2⟩ := Bool.and_eq_true_iff.mp hc
      obtain ⟨a, o, rfl, g, q⟩ := repv_get hy hx hF c1 c2
      refine .inr (.inr (.inr ⟨a, o, rfl, g, inbl h hF ?_⟩))
      rcases q with ⟨q1, q2⟩ | ⟨w, d, q1, q2, _⟩
      · rw [q1, q2]; rfl
      · rw [q1, q2]; rfl
    · exact h.elim
  · exact h.elim
theorem ix_d (hu : X.A.units + 1 < cLine) : IxR X (rD2 X.K opIx) := IxR.imp (ix_list.or (ix_tup.or (ix_str.or (ix_dct hu)))) fun x y H Q ⟨F, d, e, hF, hx, hy, h⟩ => by
  unfold opIx at h
  split at h
  · rename_i xs i
    have := repv_int hy; subst y
    obtain ⟨a, ys, rfl, h1, h2⟩ := repv_list hx hF
    cases e : atI xs i with
    | none => rw [e] at h; exact h.elim
    | some d =>
      rw [e] at h
      obtain ⟨v, q1, q2⟩ := h2.at e
      exact .inl ⟨a, ys, i, v, rfl, rfl, h1, q1, fin_sh h hF q2⟩
  · rename_i xs i
    have := repv_int hy; subst y
    obtain ⟨a, ys, rfl, h1, _, h2⟩ := repv_tup hx hF
    cases e : atI xs i with
    | none => rw [e] at h; exact h.elim
    | some d =>
      rw [e] at h
      obtain ⟨v, q1, q2⟩ := h2.at e
      exact .inr (.inl ⟨a, ys, i, v, rfl, rfl, sqt_at h1, q1, fin_sh h hF q2⟩)
  · rename_i z i
    have := repv_int hy; have := repv_str hx; subst x y
    split at h
    · rename_i hz
      cases e : atI z.cps.toList i with
      | none => rw [e] at h; exact h.elim
      | some c =>
        rw [e] at h
        exact .inr (.inr (.inl ⟨z, i, c, rfl, rfl, hz, e, fin_str h hF⟩))
    · exact h.elim
  · rename_i kvs k _
    split at h
    · rename_i hc
      obtain ⟨c1, c2⟩ := Bool.and_eq_true_iff.mp hc
      obtain ⟨a, o, rfl, g, q⟩ := repv_get hx hy hF c1 c2
      rcases q with ⟨q1, q2⟩ | ⟨w, d, q1, q2, q3, q4⟩
      · rw [q2] at h; exact h.elim
      · rw [q2] at h
        exact .inr (.inr (.inr ⟨a, w, rfl, q4, fin_sh h hF q3⟩))
    · exact h.elim
  · exact h.elim
theorem sl_d : SlR X (rDS X.K opSl) := SlR.imp (sl_list.or (sl_tupA.or sl_str)) fun x lo hi H Q ⟨F, d, hF, hx, h⟩ => by
  unfold opSl at h
  split at h
  · obtain ⟨a, xs, rfl, h1, h2⟩ := repv_list hx hF
    exact .inl ⟨a, xs, rfl, h1, fin_lst h hF (h2.cut _ _)⟩
  · obtain ⟨a, xs, rfl, h1, h1f, h2⟩ := repv_tup hx hF
    refine .inr (.inl ⟨a, xs, rfl, sqt_at h1, fun hw => ?_, fun _ => fin_tup h hF (h2.cut _ _)⟩)
    refine fin_sh h hF (.tup h1f ?_)
    have e : cutV xs lo hi = xs := by
      unfold cutV
      rw [hw.1, hw.2, List.drop_zero, Nat.sub_zero, List.take_length]
    have c := h2.cut lo hi
    rw [e] at c
    exact c
  · have := repv_str hx; subst x
    split at h
    · rename_i hz
      exact .inr (.inr ⟨_, rfl, hz, fin_str h hF⟩)
    · exact h.elim
  · exact h.elim
/-! ### stores -/
def rSetE : TSet := fun o i v H Q => ∃ a H', o = V.ref a ∧ Q H' ∧ (DPut H a i v H' ∨ (∃ k, H a = some (.dT []) ∧ i = kV k ∧ H' = upd H a (.dK [(k, v)])) ∨ ∃ (k : List Key) (b : Addr), H a = some (.dK []) ∧ i = V.ref b ∧ H b = some (.tup (k.map kV)) ∧ H' = upd H a (.dT [(k, v)]))
theorem upd_upd {H : Hp} {a : Addr} {o o' : HO} : upd (upd H a o) a o' = upd H a o' := by
  funext b
  by_cases hb : b = a
  · subst hb; rw [upd_same, upd_same]
  · rw [upd_ne hb, upd_ne hb, upd_ne hb]
theorem set_dct (hu : X.A.units + 1 < cLine) : PSet X rSetE := by
  intro pins s σ H o i v ov iv u Q I ro ri rv h
  obtain ⟨a, H', rfl, q, g⟩ := h
  cases ro
  rcases g with g | ⟨k, e, rfl, rfl⟩ | ⟨k, b, e, rfl, eb, rfl⟩
  · exact d_setItem hu I g ri rv fun s' I' => ⟨H', I', q⟩
  · have I2 := inv_toK I e
    have g : DPut (upd H a (.dK [])) a (kV k) v (upd (upd H a (.dK [])) a (.dK [(k, v)])) := DPut.k upd_same (by decide)
    rw [upd_upd] at g
    exact d_setItem hu I2 g ri rv fun s' I' => ⟨_, I', q⟩
  · have I2 := inv_toT I e
    have hb : b ≠ a := fun z => by rw [z, e] at eb; cases eb
    have g : DPut (upd H a (.dT [])) a (.ref b) v (upd (upd H a (.dT [])) a (.dT [(k, v)])) := DPut.t upd_same (by rw [upd_ne hb]; exact eb) (by decide)
    rw [upd_upd] at g
    exact d_setItem hu I2 g ri rv fun s' I' => ⟨_, I', q⟩
theorem set_d (hu : X.A.units + 1 < cLine) : OpP X putIx := PSet.imp (PSet.or set_list (set_dct hu)) fun o i v H Q ⟨F, a, d, k, e, d', hF, ho, ow, hFa, hi, hv, hc, q⟩ => by
  subst ho
  unfold putIx at hc
  split at hc
  · rename_i xs
    obtain ⟨ys, h1, h2⟩ := ow
    split at hc
    · rename_i j
      cases hi
      cases e2 : ixN xs.length j with
      | none => rw [e2] at hc; cases hc
      | some m =>
        rw [e2] at hc
        cases hc
        exact .inl ⟨a, ys, j, m, rfl, rfl, h1, by rw [h2.length]; exact e2, q _ ⟨_, upd_same, h2.set hv m⟩⟩
    · cases hc
  · rename_i kvs
    split at hc
    · rename_i hcc
      cases hc
      obtain ⟨hl, ha⟩ := Bool.and_eq_true_iff.mp hcc
      have hl := of_decide_eq_true hl
      have hi : RepV X.K F H i k := .inl hi
      refine .inr ?_
      cases ek : kd k with
      | none => unfold alike at ha; rw [ek] at ha; cases ha
      | some w =>
        cases w with
        | k j =>
          have := kd_k ek
          subst this
          have := rep_key hi
          subst this
          rcases ow with ⟨ks, h1, h2⟩ | ⟨ks, h1, h2⟩
          · exact ⟨a, _, rfl, q _ (.inl ⟨_, upd_same, h2.put hv⟩), .inl (DPut.k h1 (by rw [h2.length]; exact hl))⟩
          · obtain ⟨rfl, rfl⟩ := alike_K h2 ha
            exact ⟨a, _, rfl, q _ (.inl ⟨_, upd_same, .cons hv .nil⟩), .inr (.inl ⟨j, h1, rfl, rfl⟩)⟩
        | t j =>
          have := kd_t ek
          subst this
          obtain ⟨b, rfl, hb⟩ := rep_tkey hi hF
          rcases ow with ⟨ks, h1, h2⟩ | ⟨ks, h1, h2⟩
          · obtain ⟨rfl, rfl⟩ := alike_T h2 ha
            exact ⟨a, _, rfl, q _ (.inr ⟨_, upd_same, .cons hv .nil⟩), .inr (.inr ⟨j, b, h1, rfl, hb, rfl⟩)⟩
          · exact ⟨a, _, rfl, q _ (.inr ⟨_, upd_same, h2.put hv⟩), .inl (DPut.t h1 hb (by rw [h2.length]; exact hl))⟩
    · cases hc
  · cases hc
end
end Fd
/-! Fd, part 14: built-ins, methods. -/
namespace Fd
open PySem PySem.Spec PyProof.Rows L2
section
variable {K : Fr} {F H : Hp} {xs : List V}
theorem repvL1 {d : D} (h : RepVL K F H xs [d]) : ∃ v, xs = [v] ∧ RepV K F H v d := by
  cases h with
  | cons r t => cases t; exact ⟨_, rfl, r⟩
theorem repvL2 {d e : D} (h : RepVL K F H xs [d, e]) : ∃ v w, xs = [v, w] ∧ RepV K F H v d ∧ RepV K F H w e := by
  cases h with
  | cons r t =>
    cases t with
    | cons r' t => cases t; exact ⟨_, _, rfl, r, r'⟩
theorem repvL3 {d e f : D} (h : RepVL K F H xs [d, e, f]) : ∃ v w u, xs = [v, w, u] ∧ RepV K F H v d ∧ RepV K F H w e ∧ RepV K F H u f := by
  cases h with
  | cons r t =>
    cases t with
    | cons r' t =>
      cases t with
      | cons r2 t => cases t; exact ⟨_, _, _, rfl, r, r', r2⟩
end
section
variable {X : Cx}
def rLenE : List V → Hp → VK → Prop := fun xs H Q => ∃ a, xs = [V.ref a] ∧ ((∃ ks, Rd H a (.dK ks) ∧ Q (.int ks.length) H) ∨ (Rd H a (.dT []) ∧ Q (.int 0) H))
theorem call_lenE : CallR X (.builtin "len") rLenE := by
  intro pins s σ H xs us Q I r h
  obtain ⟨a, rfl, h⟩ := h
  obtain ⟨u, rfl, ru⟩ := Vals.one r
  cases ru
  rcases h with ⟨ks, e, q⟩ | ⟨e, q⟩
  · exact d_len I e fun t s' I' => ⟨.int ks.length, H, I', ⟨t, rfl⟩, q⟩
  · obtain ⟨z, hd, xs, rel, dd⟩ := dt_rd I.hok e
    cases rel
    exact call_len_dict hd (empty_K dd) (by decide) ⟨.int 0, H, I.tok _, ⟨_, rfl⟩, q⟩
theorem cr_len : OpN X (.builtin "len") opLen := CallR.imp (call_len_seq.or (call_len_str.or call_lenE)) fun xs H Q ⟨F, ds, hF, hx, h⟩ => by
  unfold opLen at h
  split at h
  · obtain ⟨v, rfl, r⟩ := repvL1 hx
    obtain ⟨a, ys, rfl, h1, h2⟩ := repv_list r hF
    rw [← h2.length] at h
    exact .inl ⟨a, ys, rfl, .inl h1, fin_int h hF⟩
  · obtain ⟨v, rfl, r⟩ := repvL1 hx
    obtain ⟨a, ys, rfl, h1, _, h2⟩ := repv_tup r hF
    rw [← h2.length] at h
    exact .inl ⟨a, ys, rfl, .inr (sqt_at h1), fin_int h hF⟩
  · obtain ⟨v, rfl, r⟩ := repvL1 hx
    have := repv_str r; subst this
    split at h
    · rename_i hl
      exact .inr (.inl ⟨_, rfl, hl, fin_int h hF⟩)
    · exact h.elim
  · rename_i kvs
    obtain ⟨v, rfl, r⟩ := repvL1 hx
    obtain ⟨a, rfl, g⟩ := repv_dict r hF
    split at h
    · rename_i ha
      refine .inr (.inr ⟨a, rfl, ?_⟩)
      rcases g with ⟨ks, g1, g2⟩ | ⟨ks, g1, g2⟩
      · rw [← g2.length] at h
        exact .inl ⟨ks, g1, fin_int h hF⟩
      · cases g2 with
        | nil => exact .inr ⟨g1, fin_int h hF⟩
        | cons q t =>
          rw [List.all_cons, Bool.and_eq_true] at ha
          cases ha.1
    · exact h.elim
  · exact h.elim
theorem cr_list : OpN X (.type "list") opList := CallR.imp call_list_of fun xs H Q ⟨F, ds, hF, hx, h⟩ => by
  unfold opList at h
  split at h
  · obtain ⟨v, rfl, r⟩ := repvL1 hx
    obtain ⟨a, ys, rfl, h1, h2⟩ := repv_list r hF
    exact ⟨a, ys, rfl, .inl h1, fin_lst h hF h2⟩
  · obtain ⟨v, rfl, r⟩ := repvL1 hx
    obtain ⟨a, ys, rfl, h1, _, h2⟩ := repv_tup r hF
    exact ⟨a, ys, rfl, .inr (sqt_at h1), fin_lst h hF h2⟩
  · exact h.elim
theorem cr_tuple : OpN X (.type "tuple") opTuple := CallR.imp call_tuple_of fun xs H Q ⟨F, ds, hF, hx, h⟩ => by
  unfold opTuple at h
  split at h
  · obtain ⟨v, rfl, r⟩ := repvL1 hx
    obtain ⟨a, ys, rfl, h1, h2⟩ := repv_list r hF
    exact ⟨a, ys, rfl, .inl ⟨h1, fin_tup h hF h2⟩⟩
  · obtain ⟨v, rfl, r⟩ := repvL1 hx
    obtain ⟨a, ys, rfl, h1, h1f, h2⟩ := repv_tup r hF
    exact ⟨a, ys, rfl, .inr ⟨sqt_at h1, fin_sh h hF (.tup h1f h2)⟩⟩
  · exact h.elim
theorem cr_int : OpN X (.type "int") opInt := CallR.imp call_int1 fun xs H Q ⟨F, ds, hF, hx, h⟩ => by
  unfold opInt at h
  split at h
  · obtain ⟨v, rfl, r⟩ := repvL1 hx
    have := repv_int r; subst this
    exact .inl ⟨_, rfl, fin_int h hF⟩
  · obtain ⟨v, rfl, r⟩ := repvL1 hx
    have := repv_bool r; subst this
    exact .inr ⟨_, rfl, fin_int h hF⟩
  · exact h.elim
theorem cr_abs : OpN X (.builtin "abs") opAbs := CallR.imp call_abs fun xs H Q ⟨F, ds, hF, hx, h⟩ => by
  unfold opAbs at h
  split at h
  · obtain ⟨v, rfl, r⟩ := repvL1 hx
    have := repv_int r; subst this
    exact ⟨_, rfl, fin_int h hF⟩
  · exact h.elim
theorem maxI_spec {ns : List Int} {m : Int} (h : maxI ns = some m) : 0 < ns.length ∧ ∀ k, k ∈ ns → (∀ y, y ∈ ns → y ≤ k) → k = m := by
  cases ns with
  | nil => cases h
  | cons x xs =>
    refine ⟨Nat.zero_lt_succ _, ?_⟩
    have e : xs.foldl (fun a b => if a < b then b else a) x = m := Option.some.inj h
    have key : ∀ (ys : List Int) (a : Int), (a ≤ ys.foldl (fun a b => if a < b then b else a) a) ∧ (∀ y ∈ ys, y ≤ ys.foldl (fun a b => if a < b then b else a) a) ∧ (ys.foldl (fun a b => if a < b then b else a) a = a ∨ ys.foldl (fun a b => if a < b then b else a) a ∈ ys) := by
      intro ys
      induction ys with
      | nil => intro a; exact ⟨Int.le_refl a, fun y hy => (nomatch hy), .inl rfl⟩
      | cons y ys ih =>
        intro a
        rw [List.foldl_cons]
        obtain ⟨h1, h2, h3⟩ := ih (if a < y then y else a)
        have ha : a ≤ (if a < y then y else a) ∧ y ≤ (if a < y then y else a) := by split <;> omega
        refine ⟨Int.le_trans ha.1 h1, fun z hz => ?_, ?_⟩
        · rcases List.mem_cons.mp hz with e | e
          · rw [e]; exact Int.le_trans ha.2 h1
          · exact h2 z e
        · rcases h3 with e | e
          · rw [e]
            by_cases hc : a < y
            · rw [if_pos hc]; exact .inr List.mem_cons_self
            · rw [if_neg hc]; exact .inl rfl
          · exact .inr (List.mem_cons_of_mem _ e)
    obtain ⟨h1, h2, h3⟩ := key xs x
    rw [e] at h1 h2 h3
    intro k hk hm
    have hmem : m ∈ x :: xs := by
      rcases h3 with e | e
      · rw [e]; exact List.mem_cons_self
      · exact List.mem_cons_of_mem _ e
    have l1 := hm m hmem
    have l2 : k ≤ m := by
      rcases List.mem_cons.mp hk with e | e
      · rw [e]; exact h1
      · exact h2 k e
    omega
theorem minI_spec {ns : List Int} {m : Int} (h : minI ns = some m) : 0 < ns.length ∧ ∀ k, k ∈ ns → (∀ y, y ∈ ns → k ≤ y) → k = m := by
  cases ns with
  | nil => cases h
  | cons x xs =>
    refine ⟨Nat.zero_lt_succ _, ?_⟩
    have e : xs.foldl (fun a b => if b < a then b else a) x = m := Option.some.inj h
    have key : ∀ (ys : List Int) (a : Int), (ys.foldl (fun a b => if b < a then b else a) a ≤ a) ∧ (∀ y ∈ ys, ys.foldl (fun a b => if b < a then b else a) a ≤ y) ∧ (ys.foldl (fun a b => if b < a then b else a) a = a ∨ ys.foldl (fun a b => if b < a then b else a) a ∈ ys) := by
      intro ys
      induction ys with
      | nil => intro a; exact ⟨Int.le_refl a, fun y hy => (nomatch hy), .inl rfl⟩
      | cons y ys ih =>
        intro a
        rw [List.foldl_cons]
        obtain ⟨h1, h2, h3⟩ := ih (if y < a then y else a)
        have ha : (if y < a then y else a) ≤ a ∧ (if y < a then y else a) ≤ y := by split <;> omega
        refine ⟨Int.le_trans h1 ha.1, fun z hz => ?_, ?_⟩
        · rcases List.mem_cons.mp hz with e | e
          · rw [e]; exact Int.le_trans h1 ha.2
          · exact h2 z e
        · rcases h3 with e | e
          · rw [e]
            by_cases hc : y < a
            · rw [if_pos hc]; exact .inr List.mem_cons_self
            · rw [if_neg hc]; exact .inl rfl
          · exact .inr (List.mem_cons_of_mem _ e)
    obtain ⟨h1, h2, h3⟩ := key xs x
    rw [e] at h1 h2 h3
    intro k hk hm
    have hmem : m ∈ x :: xs := by
      rcases h3 with e | e
      · rw [e]; exact List.mem_cons_self
      · exact List.mem_cons_of_mem _ e
    have l1 := hm m hmem
    have l2 : m ≤ k := by
      rcases List.mem_cons.mp hk with e | e
      · rw [e]; exact h1
      · exact h2 k e
    omega
/-! min, max of a tuple of ints -/
def rMinT (K : Fr) : List V → Hp → VK → Prop := fun vs H Q => ∃ (a : Addr) (n : Int) (ns : List Int), vs = [V.ref a] ∧ SqT K H a ((n :: ns).map V.int) ∧ Q (.int (ns.foldl min n)) H
def rMaxT (K : Fr) : List V → Hp → VK → Prop := fun vs H Q => ∃ (a : Addr) (n : Int) (ns : List Int), vs = [V.ref a] ∧ SqT K H a ((n :: ns).map V.int) ∧ Q (.int (ns.foldl max n)) H
theorem ints_alike (ns : List Int) : PySem.W.AlikeAll (ns.map PyData.int) := by
  refine ⟨fun x hx y hy => ?_, fun x hx e => ?_⟩
  · obtain ⟨i, _, rfl⟩ := List.mem_map.mp hx
    obtain ⟨j, _, rfl⟩ := List.mem_map.mp hy
    rfl
  · obtain ⟨i, _, rfl⟩ := List.mem_map.mp hx
    cases e
theorem ints_flat (ns : List Int) : PyData.depthAll (ns.map PyData.int) = 0 := by
  induction ns with
  | nil => rfl
  | cons n ns ih => show max 0 (PyData.depthAll (ns.map PyData.int)) = 0; rw [ih]; rfl
theorem call_minT (hc : X.calm = true) (hu : X.A.units + 1 < cLine) : CallR X (.builtin "min") (rMinT X.K) := by
  intro pins s σ H vs us Q I r h
  obtain ⟨a, n, ns, rfl, hs, q⟩ := h
  obtain ⟨its, rv, ht, _⟩ := I.tuple hs
  rw [Vals.ref1 r]
  refine PySem.W.min_tuple_data (vs := its.toArray) (x := .int n) (xs := ns.map .int) (I.ok.hd hc) ht (IntsAre.reads _ rv.ints) (ints_alike (n :: ns)) (by rw [show PyData.depthAll (.int n :: ns.map PyData.int) = 0 from ints_flat (n :: ns)]; omega) fun i v h' tk bs hv hr k => ?_
  rw [PySem.W.minD_ints] at hr
  cases hr
  exact ⟨.int _, H, I.kept k, ⟨_, rfl⟩, q⟩
theorem call_maxT (hc : X.calm = true) (hu : X.A.units + 1 < cLine) : CallR X (.builtin "max") (rMaxT X.K) := by
  intro pins s σ H vs us Q I r h
  obtain ⟨a, n, ns, rfl, hs, q⟩ := h
  obtain ⟨its, rv, ht, _⟩ := I.tuple hs
  rw [Vals.ref1 r]
  refine PySem.W.max_tuple_data (vs := its.toArray) (x := .int n) (xs := ns.map .int) (I.ok.hd hc) ht (IntsAre.reads _ rv.ints) (ints_alike (n :: ns)) (by rw [show PyData.depthAll (.int n :: ns.map PyData.int) = 0 from ints_flat (n :: ns)]; omega) fun i v h' tk bs hv hr k => ?_
  rw [PySem.W.maxD_ints] at hr
  cases hr
  exact ⟨.int _, H, I.kept k, ⟨_, rfl⟩, q⟩
theorem minI_fold (n : Int) (ns : List Int) : minI (n :: ns) = some (ns.foldl min n) := by
  have e : (fun a b : Int => if b < a then b else a) = min := by funext a b; split <;> omega
  show some (ns.foldl (fun a b : Int => if b < a then b else a) n) = _
  rw [e]
theorem maxI_fold (n : Int) (ns : List Int) : maxI (n :: ns) = some (ns.foldl max n) := by
  have e : (fun a b : Int => if a < b then b else a) = max := by funext a b; split <;> omega
  show some (ns.foldl (fun a b : Int => if a < b then b else a) n) = _
  rw [e]
theorem cr_dmax (hc : X.calm = true) (hu : X.A.units + 1 < cLine) : OpN X (.builtin "max") opMax := CallR.imp (((call_max2 hc).or (cr_max hc)).or (call_maxT hc hu)) fun xs H Q ⟨F, ds, hF, hx, h⟩ => by
  unfold opMax at h
  split at h
  · obtain ⟨v, w, rfl, r, r'⟩ := repvL2 hx
    have := repv_int r; subst this
    have := repv_int r'; subst this
    exact .inl (.inl ⟨_, _, rfl, fin_int h hF⟩)
  · rename_i ds
    obtain ⟨v, rfl, r⟩ := repvL1 hx
    obtain ⟨a, ys, rfl, h1, h2⟩ := repv_list r hF
    cases e : intsOf ds with
    | none => rw [e] at h; exact h.elim
    | some ns =>
      rw [e] at h
      cases e2 : maxI ns with
      | none => simp only [Option.bind_some, e2] at h; exact h.elim
      | some m =>
        simp only [Option.bind_some, e2] at h
        rw [h2.ints' e] at h1
        obtain ⟨l1, l2⟩ := maxI_spec e2
        refine .inl (.inr ⟨a, ns, rfl, h1, l1, fun k hk hm => ?_⟩)
        rw [l2 k hk hm]
        exact fin_int h hF
  · rename_i ds
    obtain ⟨v, rfl, r⟩ := repvL1 hx
    obtain ⟨a, ys, rfl, h1, _, h2⟩ := repv_tup r hF
    cases e : intsOf ds with
    | none => rw [e] at h; exact h.elim
    | some ns =>
      rw [e] at h
      cases ns with
      | nil => exact h.elim
      | cons n ns =>
        simp only [Option.bind_some, maxI_fold, Option.map_some] at h
        rw [h2.ints' e] at h1
        exact .inr ⟨a, n, ns, rfl, sqt_at h1, fin_int h hF⟩
  · exact h.elim
theorem cr_dmin (hc : X.calm = true) (hu : X.A.units + 1 < cLine) : OpN X (.builtin "min") opMin := CallR.imp (((call_min2 hc).or (cr_min hc)).or (call_minT hc hu)) fun xs H Q ⟨F, ds, hF, hx, h⟩ => by
  unfold opMin at h
  split at h
  · obtain ⟨v, w, rfl, r, r'⟩ := repvL2 hx
    have := repv_int r; subst this
    have := repv_int r'; subst this
    exact .inl (.inl ⟨_, _, rfl, fin_int h hF⟩)
  · rename_i ds
    obtain ⟨v, rfl, r⟩ := repvL1 hx
    obtain ⟨a, ys, rfl, h1, h2⟩ := repv_list r hF
    cases e : intsOf ds with
    | none => rw [e] at h; exact h.elim
    | some ns =>
      rw [e] at h
      cases e2 : minI ns with
      | none => simp only [Option.bind_some, e2] at h; exact h.elim
      | some m =>
        simp only [Option.bind_some, e2] at h
        rw [h2.ints' e] at h1
        obtain ⟨l1, l2⟩ := minI_spec e2
        refine .inl (.inr ⟨a, ns, rfl, h1, l1, fun k hk hm => ?_⟩)
        rw [l2 k hk hm]
        exact fin_int h hF
  · rename_i ds
    obtain ⟨v, rfl, r⟩ := repvL1 hx
    obtain ⟨a, ys, rfl, h1, _, h2⟩ := repv_tup r hF
    cases e : intsOf ds with
    | none => rw [e] at h; exact h.elim
    | some ns =>
      rw [e] at h
      cases ns with
      | nil => exact h.elim
      | cons n ns =>
        simp only [Option.bind_some, minI_fold, Option.map_some] at h
        rw [h2.ints' e] at h1
        exact .inr ⟨a, n, ns, rfl, sqt_at h1, fin_int h hF⟩
  · exact h.elim
theorem cr_dsum (hc : X.calm = true) : OpN X (.builtin "sum") opSum := CallR.imp (cr_sum hc) fun xs H Q ⟨F, ds, hF, hx, h⟩ => by
  unfold opSum at h
  split at h
  · rename_i ds
    obtain ⟨v, rfl, r⟩ := repvL1 hx
    obtain ⟨a, ys, rfl, h1, h2⟩ := repv_list r hF
    cases e : intsOf ds with
    | none => rw [e] at h; exact h.elim
    | some ns =>
      rw [e] at h
      rw [h2.ints' e] at h1
      exact ⟨a, ns, rfl, h1, fin_int h hF⟩
  · exact h.elim
theorem cr_dall (hc : X.calm = true) : OpN X (.builtin "all") opAll := CallR.imp (cr_all hc) fun xs H Q ⟨F, ds, hF, hx, h⟩ => by
  unfold opAll at h
  split at h
  · rename_i ds
    obtain ⟨v, rfl, r⟩ := repvL1 hx
    obtain ⟨a, ys, rfl, h1, h2⟩ := repv_list r hF
    cases e : boolsOf ds with
    | none => rw [e] at h; exact h.elim
    | some ns =>
      rw [e] at h
      rw [h2.bools e] at h1
      exact ⟨a, ns, rfl, h1, fin_bl h hF⟩
  · exact h.elim
theorem cr_dany (hc : X.calm = true) : OpN X (.builtin "any") opAny := CallR.imp (cr_any hc) fun xs H Q ⟨F, ds, hF, hx, h⟩ => by
  unfold opAny at h
  split at h
  · rename_i ds
    obtain ⟨v, rfl, r⟩ := repvL1 hx
    obtain ⟨a, ys, rfl, h1, h2⟩ := repv_list r hF
    cases e : boolsOf ds with
    | none => rw [e] at h; exact h.elim
    | some ns =>
      rw [e] at h
      rw [h2.bools e] at h1
      exact ⟨a, ns, rfl, h1, fin_bl h hF⟩
  · exact h.elim
/-! ### sorted -/
theorem zip_fst {K : Fr} {F : Hp} : ∀ {xs : List V} {ds : List D}, RepL K F xs ds → (xs.zip ds).map (·.1) = xs ∧ (xs.zip ds).map (·.2) = ds ∧ ∀ p ∈ xs.zip ds, Rep K F p.1 p.2
  | _, _, .nil => ⟨rfl, rfl, fun _ h => (nomatch h)⟩
  | _, _, .cons (v := v) (d := d) r h => by
    obtain ⟨h1, h2, h3⟩ := zip_fst h
    refine ⟨by rw [List.zip_cons_cons, List.map_cons, h1], by rw [List.zip_cons_cons, List.map_cons, h2], fun p hp => ?_⟩
    rw [List.zip_cons_cons] at hp
    rcases List.mem_cons.mp hp with e | e
    · rw [e]; exact r
    · exact h3 p e
theorem rep_of_pairs {K : Fr} {F : Hp} : ∀ {ps : List (V × D)}, (∀ p ∈ ps, Rep K F p.1 p.2) → RepL K F (ps.map (·.1)) (ps.map (·.2))
  | [], _ => .nil
  | p :: ps, h => .cons (h p List.mem_cons_self) (rep_of_pairs fun q hq => h q (List.mem_cons_of_mem _ hq))
theorem vals_each {R : Value → V × D → Prop} (hR : ∀ v p, R v p → RelV p.1 v) : ∀ {vs : List Value} {ps : List (V × D)}, PySem.W.EachIs R vs ps → Vals (ps.map (·.1)) vs
  | _, _, .nil => .nil
  | _, _, .cons h t => .cons (hR _ _ h) (vals_each hR t)
theorem each_of {P : Value → V × D → Prop} : ∀ {ps : List (V × D)} {vs : List Value}, Vals (ps.map (·.1)) vs → (∀ p ∈ ps, ∀ v, RelV p.1 v → P v p) → PySem.W.EachIs P vs ps
  | [], _, .nil, _ => .nil
  | p :: ps, _, .cons r t, h => .cons (h p List.mem_cons_self _ r) (each_of t fun q hq => h q (List.mem_cons_of_mem _ hq))
theorem sort_map (ps : List (V × D)) : (ps.mergeSort (PySem.W.dataLe false (·.2))).map (·.2) = (ps.map (·.2)).mergeSort leD := by
  refine List.map_mergeSort (r := PySem.W.dataLe false (fun p : V × D => p.2)) (s := leD) (f := fun p : V × D => p.2) fun a _ b _ => ?_
  rw [PySem.W.dataLe_eq]
  rfl
theorem cr_dsorted (hu : X.A.units + 80 < cLine) : OpN X (.builtin "sorted") opSorted := by
  intro pins s σ H xs us Q I r h
  obtain ⟨F, ds, hF, hx, h⟩ := h
  unfold opSorted at h
  split at h
  · rename_i ds
    obtain ⟨v, rfl, rv⟩ := repvL1 hx
    obtain ⟨a, ys, rfl, h1, h2⟩ := repv_list rv hF
    obtain ⟨u, rfl, ru⟩ := Vals.one r
    cases ru
    split at h
    · rename_i hs
      unfold sortOk at hs
      simp only [Bool.and_eq_true] at hs
      obtain ⟨⟨s1, s2⟩, s3⟩ := hs
      obtain ⟨its, rits, pl, hz⟩ := I.list h1
      obtain ⟨z1, z2, z3⟩ := zip_fst h2
      have sh : ∀ p ∈ ys.zip ds, SeqAt.shaped p.2 = true := fun p hp => List.all_eq_true.mp s1 p.2 (by rw [← z2]; exact List.mem_map.mpr ⟨p, hp, rfl⟩)
      have vz : Vals ((ys.zip ds).map (·.1)) its := by rw [z1]; exact rits
      have e1 : PySem.W.EachIs (fun v (p : V × D) => RelV p.1 v) its (ys.zip ds) := each_of vz fun p hp v hv => hv
      have er : PySem.W.EachIs (fun v (p : V × D) => ∃ as, Reads s.heap v p.2 as) its (ys.zip ds) := each_of vz fun p hp v hv => Dp.reads I p.2 p.1 v (Rep.dp hF p.2 (SeqAt.canLay_of_shaped (sh p hp)) (z3 p hp)) hv
      have al : PySem.W.AllAlike ((ys.zip ds).map (·.2)) := by
        rw [z2]
        intro d hd e he
        exact List.all_eq_true.mp (List.all_eq_true.mp s2 d hd) e he
      have so : PySem.W.Sortable ((ys.zip ds).map (·.2)) := by
        rw [z2]
        rcases Bool.or_eq_true_iff.mp s3 with q | q
        · refine .inl fun d hd => ?_
          have := List.all_eq_true.mp q d hd
          split at this
          · exact ⟨_, _, rfl⟩
          · cases this
        · refine .inr fun d hd => ?_
          have := List.all_eq_true.mp q d hd
          split at this
          · cases this
          · cases this
          · rename_i n1 n2
            exact ⟨fun e => n1 e, fun xs e => n2 xs e⟩
      have ln : (ys.zip ds).length = ys.length := by rw [← List.length_map (f := (·.1)), z1]
      refine PySem.W.sorted_data (l := a) pl.isList e1 er al so (by rw [ln]; exact hz) (fun p hp => ?_) fun out hl ho => ?_
      · have := SeqAt.depth_of_shaped (sh p hp)
        omega
      · obtain ⟨c, hc⟩ := sortedAll_at s.heap its out.toArray
        have vo := vals_each (R := fun v (p : V × D) => RelV p.1 v) (fun _ _ h => h) ho
        have lo := vo.length
        have I2 : Inv X pins σ (upd H (s.heap.objs.size + 1) (.lst (((ys.zip ds).mergeSort (PySem.W.dataLe false (·.2))).map (·.1)))) { s with heap := sortedAll s.heap its out.toArray } :=
          I.laid (t' := s.toks) (fun b o q => sortedAll_old q) (Nat.le_succ _) ⟨by rw [lo, hl, ln]; exact hz, out, c, vo, hc⟩
        refine ⟨.ref _, _, I2, rfl, ?_⟩
        have rp : RepL X.K F (((ys.zip ds).mergeSort (PySem.W.dataLe false (·.2))).map (·.1)) (ds.mergeSort leD) := by
          have := rep_of_pairs (K := X.K) (F := F) (ps := (ys.zip ds).mergeSort (PySem.W.dataLe false (·.2))) fun p hp => z3 p ((List.mergeSort_perm _ _).mem_iff.mp hp)
          rw [sort_map, z2] at this
          exact this
        exact fin_lst h hF rp _ (I.hok.fresh (Nat.le_succ _))
    · exact h.elim
  · exact h.elim
/-! ### repr -/
theorem cr_repr (hg : X.A.guards = some []) (hu : X.A.units + 64 < cLine) : OpN X (.builtin "repr") opRepr := by
  intro pins s σ H xs us Q I r h
  obtain ⟨F, ds, hF, hx, h⟩ := h
  have go : ∀ (d : D) (v : V), RepV X.K F H v d → d.canLay0 = true → (d.showable && decide (d.depth ≤ 40) && decide (d.shown.length ≤ 16777216)) = true → xs = [v] → (∃ a, v = V.ref a) → Fin X.K F H Q (some (.sh (.str d.shown))) →
      wpAny (model X.prog X.w) X.A (call (.builtin "repr") us) (EP X pins σ Q) X.xe s := fun d v rv cl c e ⟨a, ea⟩ h => by
    subst e ea
    obtain ⟨u, rfl, ru⟩ := Vals.one r
    cases ru
    simp only [Bool.and_eq_true, decide_eq_true_eq] at c
    obtain ⟨⟨c1, c2⟩, c3⟩ := c
    have sh : SeqAt.shaped d = true := by
      unfold SeqAt.shaped
      rw [cl]
      exact decide_eq_true (by omega)
    obtain ⟨as, rd⟩ := Dp.reads I d _ _ (rv.dp hF sh) (rfl : RelV (V.ref a) (Value.ref a))
    refine repr_of_reads' rd c1 (PyData.noDict_hsm (PyData.hasDict_of_canLay d cl)) hg (by omega) (fun _ _ e => e) (fun h' u tk hk => ?_) c3
    exact ⟨.str d.shown, H, I.kept (t' := tk) hk, ⟨u, rfl⟩, fin_str h hF⟩
  unfold opRepr at h
  split at h
  · obtain ⟨v, rfl, rv⟩ := repvL1 hx
    have := repv_int rv; subst this
    split at h
    · rename_i hl
      exact SkE.call_repr_int pins s σ H _ us Q I r ⟨_, rfl, hl, fin_str h hF⟩
    · exact h.elim
  · obtain ⟨v, rfl, rv⟩ := repvL1 hx
    dsimp only at h
    split at h
    · rename_i hc
      obtain ⟨a, ys, e, _, _⟩ := repv_list rv hF
      unfold reprOk at hc
      have hc := Bool.and_eq_true_iff.mp hc
      exact go _ v rv hc.1 hc.2 rfl ⟨a, e⟩ h
    · exact h.elim
  · obtain ⟨v, rfl, rv⟩ := repvL1 hx
    dsimp only at h
    split at h
    · rename_i hc
      obtain ⟨a, ys, e, _, _⟩ := repv_tup rv hF
      unfold reprOk at hc
      have hc := Bool.and_eq_true_iff.mp hc
      exact go _ v rv hc.1 hc.2 rfl ⟨a, e⟩ h
    · exact h.elim
  · obtain ⟨v, rfl, rv⟩ := repvL1 hx
    have := repv_str rv; subst this
    split at h
    · rename_i hc
      obtain ⟨u, rfl, t, rfl⟩ := vals1 r
      unfold reprOk at hc
      simp only [Bool.and_eq_true, decide_eq_true_eq] at hc
      exact PySem.P.repr_of_str ⟨.str _, H, I.tok _, ⟨_, rfl⟩, fin_str h hF⟩ hc.2.2
    · exact h.elim
  · obtain ⟨v, rfl, rv⟩ := repvL1 hx
    have := repv_bool rv; subst this
    obtain ⟨u, rfl, ru⟩ := Vals.one r
    cases ru
    exact PySem.P.repr_of_bool ⟨.str _, H, I.tok _, ⟨_, rfl⟩, fin_str h hF⟩
  · obtain ⟨v, rfl, rv⟩ := repvL1 hx
    have := repv_none rv; subst this
    obtain ⟨u, rfl, ru⟩ := Vals.one r
    cases ru
    exact PySem.P.repr_of_none ⟨.str _, H, I.tok _, ⟨_, rfl⟩, fin_str h hF⟩
  · exact h.elim
end
end Fd
/-! Fd, part 15: isinstance, methods, displays of dicts. -/
namespace Fd
open PySem PySem.Spec PyProof.Rows L2
section
variable {X : Cx}
def rIsDT (K : Fr) : List V → Hp → VK → Prop := fun xs H Q => ∃ (a : Addr) (ks : List (List Key × V)) (n : String) (b : Bool), xs = [V.ref a, .ty n] ∧ Rd H a (.dT ks) ∧ PySem.W.kitOne K (.type "dict") (.type n) = some b ∧ Q (.bl b) H
theorem call_isDT : CallR X (.builtin "isinstance") (rIsDT X.K) := by
  intro pins s σ H xs us Q I r h
  obtain ⟨a, ks, n, b, rfl, e, k, q⟩ := h
  obtain ⟨u1, u2, rfl, r1, r2⟩ := vals2 r
  cases (show u1 = Value.ref a from r1)
  cases (show u2 = Value.type n from r2)
  obtain ⟨_, _, xs, _, o, es, ep, h1, h2, _⟩ := dt_rd I.hok e
  exact PySem.W.kia_one PySem.W.kitx_dict I.kIn ⟨o, h1, h2.1⟩ k (fun z => nomatch z) fun tk => ⟨.bl b, H, I.tok tk, rfl, q⟩
theorem repv_ty {F H : Hp} {v : V} {d : D} (h : RepV X.K F H v d) (e : Same F H) : TyX X.K H v (.type (tyD d)) ∨ ∃ a ks, v = V.ref a ∧ Rd H a (.dT ks) ∧ tyD d = "dict" := by
  cases d with
  | none => rw [repv_none h]; exact .inl (.base .non)
  | bool b => rw [repv_bool h]; exact .inl (.base (.bl b))
  | int i => rw [repv_int h]; exact .inl (.base (.int i))
  | str x => rw [repv_str h]; exact .inl (.base (.str x))
  | list ds =>
    obtain ⟨a, xs, rfl, h1, _⟩ := repv_list h e
    rcases h1 with (h1 | ⟨o, h1⟩) | ⟨o, its, n, hk, hc, _⟩
    · exact .inl (.base (.lst h1))
    · exact .inl (.base (.frz h1))
    · exact .inl (.kList hk hc)
  | tuple ds =>
    obtain ⟨a, xs, rfl, h1, _⟩ := repv_tup h e
    exact .inl (.base (.tup h1))
  | dict ds =>
    obtain ⟨a, rfl, g⟩ := repv_dict h e
    rcases g with ⟨ks, (h1 | ⟨o, h1⟩), _⟩ | ⟨ks, h1, _⟩
    · exact .inl (.base (.dK h1))
    · exact .inl (.fDict h1)
    · exact .inr ⟨a, ks, rfl, h1, rfl⟩
/-- isinstance(e, T) -/
theorem se_isi {W : WX} {e : Expr} {fe : M RV} {op : D → Option RV} {T : Str} {n : String} {p pt pos : Pos} (he : SE X W e fe) (hg : Gl X "isinstance") (hm : X.mg "isinstance" = none) (hgT : Gl X T) (hmT : X.mg T = none) (hv : bootBuiltins T = some (.type n))
    (hk : ∀ d, ∃ b, op d = bl b ∧ PySem.W.kitOne X.K (.type (tyD d)) (.type n) = some b) (hT : T ≠ "__name__" := by decide) (hd : (T == ("__debug__" : Str)) = false := by decide)
    (hs : starEach [e, .Name T pt] X.env = (false, eval e X.env) :: starEach [.Name T pt] X.env := by rfl) (hs2 : starEach [.Name T pt] X.env = (false, eval (.Name T pt) X.env) :: starEach [] X.env := by rfl)
    (hpl : (backTo pos (starEach [.Name T pt] X.env)).any (·.1) = false := by rfl) :
    SE X W (.Call (.Name "isinstance" p) [e, .Name T pt] [] pos) (eU op fe) :=
  (pe_callB (call_isi.or call_isDT) hg hm PyProof.Rows.boot_isinstance (pa_cons he (pa_cons (pe_bltn (v := .ty n) hgT hmT hv rfl hT hd) pa_nil hs2) hs) (by decide) (by decide) hs hpl).imp fun σ H Q ⟨F, G, avs, ρ, s, q⟩ => by
  refine tE_mono (fun x H1 z => ?_) (step EPost.rest s Held.nil q)
  obtain ⟨r, F1, ρ1, e1, s1, h1, p1⟩ := z
  obtain ⟨F2, d, hF, rv, f⟩ := ap1_ok s1 (h1.ok (x, r) (by simp)) p1
  obtain ⟨b, ob, kb⟩ := hk d
  rw [ob] at f
  rcases repv_ty rv hF with t | ⟨a, ks, ea, rd', et⟩
  · exact .inl ⟨x, .ty n, _, _, b, rfl, .ty n, t, kb, fin_bl f hF⟩
  · rw [et] at kb
    have ea : x = V.ref a := ea
    subst ea
    exact .inr ⟨a, ks, n, b, rfl, rd', kb, fin_bl f hF⟩
theorem kit_int (K : Fr) (d : D) : ∃ b, opIsInt d = bl b ∧ PySem.W.kitOne K (.type (tyD d)) (.type "int") = some b := by cases d <;> exact ⟨_, rfl, rfl⟩
theorem kit_bool (K : Fr) (d : D) : ∃ b, opIsBool d = bl b ∧ PySem.W.kitOne K (.type (tyD d)) (.type "bool") = some b := by cases d <;> exact ⟨_, rfl, rfl⟩
theorem kit_str (K : Fr) (d : D) : ∃ b, opIsStr d = bl b ∧ PySem.W.kitOne K (.type (tyD d)) (.type "str") = some b := by cases d <;> exact ⟨_, rfl, rfl⟩
theorem kit_list (K : Fr) (d : D) : ∃ b, opIsList d = bl b ∧ PySem.W.kitOne K (.type (tyD d)) (.type "list") = some b := by cases d <;> exact ⟨_, rfl, rfl⟩
theorem kit_tuple (K : Fr) (d : D) : ∃ b, opIsTuple d = bl b ∧ PySem.W.kitOne K (.type (tyD d)) (.type "tuple") = some b := by cases d <;> exact ⟨_, rfl, rfl⟩
theorem kit_dict (K : Fr) (d : D) : ∃ b, opIsDict d = bl b ∧ PySem.W.kitOne K (.type (tyD d)) (.type "dict") = some b := by cases d <;> exact ⟨_, rfl, rfl⟩
/-! ### methods -/
theorem mt_djoin : OpM X "str.join" opJoin := MtR.imp mt_join fun x xs H Q ⟨F, ds, hF, hx, h⟩ => by
  unfold opJoin at h
  split at h
  · rename_i a ys
    obtain ⟨v, w, e, r, r'⟩ := repvL2 hx
    cases e
    have := repv_str r; subst this
    obtain ⟨b, zs, rfl, h1, h2⟩ := repv_list r' hF
    cases e : strsOf ys with
    | none => rw [e] at h; exact h.elim
    | some ns =>
      rw [e] at h
      rw [h2.strs e] at h1
      dsimp only [Option.bind_some] at h
      split at h
      · rename_i hc
        exact ⟨a, b, ns, rfl, rfl, .inl h1, hc, fin_str h hF⟩
      · exact h.elim
  · exact h.elim
theorem mt_dcount : OpM X "str.count" opCount := MtR.imp mt_count fun x xs H Q ⟨F, ds, hF, hx, h⟩ => by
  unfold opCount at h
  split at h
  · obtain ⟨v, w, e, r, r'⟩ := repvL2 hx
    cases e
    have := repv_str r; subst this
    have := repv_str r'; subst this
    exact ⟨_, _, rfl, rfl, fin_int h hF⟩
  · exact h.elim
theorem mt_dappend : OpC X "list.append" chAppend := MtR.imp (id := "list.append") mt_append fun x xs H Q ⟨F, a, d, ds, d', e, hF, hx, ow, hFa, rs, hc, q⟩ => by
  unfold chAppend at hc
  split at hc
  · subst hx
    cases rs with
    | cons r t =>
      cases t
      obtain ⟨ys, h1, h2⟩ := ow
      split at hc
      · rename_i hl
        cases hc
        exact ⟨a, ys, _, rfl, rfl, h1, by rw [h2.length]; exact hl, q _ _ ⟨_, upd_same, h2.snoc r⟩ .non⟩
      · cases hc
  · cases hc
theorem mt_dpop : OpC X "list.pop" chPop := MtR.imp (id := "list.pop") (MtR.or (id := "list.pop") mt_pop mt_popAt) fun x xs H Q ⟨F, a, d, ds, d', e, hF, hx, ow, hFa, rs, hc, q⟩ => by
  unfold chPop at hc
  split at hc
  · rename_i ys
    subst hx
    cases rs
    obtain ⟨zs, h1, h2⟩ := ow
    cases e2 : ys[ys.length - 1]? with
    | none => rw [e2] at hc; cases hc
    | some w =>
      rw [e2] at hc
      cases hc
      obtain ⟨v, q1, q2⟩ := h2.get e2
      exact .inl ⟨a, zs, v, rfl, rfl, h1, by rw [h2.length]; exact q1, q _ _ ⟨_, upd_same, h2.dropLast⟩ q2⟩
  · rename_i i ys
    subst hx
    cases rs with
    | cons r t =>
      cases t
      cases r
      obtain ⟨zs, h1, h2⟩ := ow
      split at hc
      · rename_i hb
        cases e2 : seqIndex? i ys.length with
        | none => rw [e2] at hc; cases hc
        | some k =>
          rw [e2] at hc
          cases e3 : ys[k]? with
          | none => simp only [Option.bind_some, e3] at hc; cases hc
          | some w =>
            simp only [Option.bind_some, e3] at hc
            cases hc
            obtain ⟨v, q1, q2⟩ := h2.get e3
            exact .inr ⟨a, zs, i, k, v, rfl, rfl, h1, by omega, by omega, by rw [h2.length]; exact e2, q1, q _ _ ⟨_, upd_same, h2.eraseIdx k⟩ q2⟩
      · cases hc
  · cases hc
/-! ### {}, {k: v, ..} -/
theorem se_dict0 {W : WX} {pos : Pos} : SE X W (.Dict [] [] pos) eDct0 := pe_dnewK.imp fun σ H Q ⟨F, G, avs, ρ, s, p⟩ q hq => by
  have g := Grow.fresh (o := .dK []) s.le hq
  have p : EPost X.K X.mg G avs W σ Q F (fin (some (.new (.dict []))) ρ) := p
  exact fin_ok s p q _ _ g hq (s.le.free hq) (.inl ⟨[], upd_same, .nil⟩)
/-- the pairs of a display -/
def tPs (K : Fr) (mg : Str → Option Value) (W : WX) : List (M RV × M RV) → List (TE × TE)
  | [] => []
  | (f, g) :: r => (tE K mg W f, tE K mg W g) :: tPs K mg W r
def pairUp : List V → List (V × V)
  | x :: y :: r => (x, y) :: pairUp r
  | _ => []
theorem tPs_of {K : Fr} {mg : Str → Option Value} {W : WX} {σ : St} : ∀ {ps : List (M RV × M RV)} {H : Hp} {Q : List (V × V) → Hp → Prop}, tAs K mg W (flat2 ps) σ H (fun ys H1 => Q (pairUp ys) H1) → tPairs (tPs K mg W ps) σ H Q
  | [], H, Q, h => h
  | (f, g) :: r, H, Q, h => tE_mono (fun x H1 z => tE_mono (fun y H2 z2 => tPs_of z2) z) h
abbrev SD (X : Cx) (W : WX) (pos : Pos) (ks : List (Option Expr)) (vs : List Expr) (ps : List (M RV × M RV)) : Prop := PPs X pos ks vs (tPs X.K X.mg W ps)
theorem sd_nil {W : WX} {pos : Pos} : SD X W pos [] [] [] := pps_nil
theorem sd_cons {W : WX} {pos : Pos} {k v : Expr} {ks : List (Option Expr)} {vs : List Expr} {f g : M RV} {ps : List (M RV × M RV)} (hk : SE X W k f) (hv : SE X W v g) (h : SD X W pos ks vs ps) : SD X W pos (some k :: ks) (v :: vs) ((f, g) :: ps) := pps_cons hk hv h
theorem mkD_rep {K : Fr} {F : Hp} : ∀ {ds : List D} {acc out : List (D × D)} {ys : List V} {kacc : List (Key × V)}, mkD ds acc = some out → RepL K F ys ds → RepK K F kacc acc →
    ∃ kvs : List (Key × V), pairUp ys = kvs.map (fun kv => (kV kv.1, kv.2)) ∧ 2 * kvs.length = ds.length ∧ RepK K F (mergeK kacc kvs) out
  | [], acc, out, ys, kacc, h, r, ra => by
    cases r
    cases h
    exact ⟨[], rfl, rfl, ra⟩
  | [d], acc, out, ys, kacc, h, r, ra => by cases h
  | k :: v :: ds, acc, out, ys, kacc, h, r, ra => by
    cases r with
    | cons r1 r2 =>
      cases r2 with
      | @cons w _ _ _ r2 r3 =>
        unfold mkD at h
        by_cases hk : isK k = true
        · rw [if_pos hk] at h
          unfold isK at hk
          cases ek : key1 k with
          | none => rw [ek] at hk; cases hk
          | some j =>
            have := key1_of ek
            subst this
            have := rep_key (H := F) (.inl r1)
            subst this
            obtain ⟨kvs, h1, h2, h3⟩ := mkD_rep h r3 (ra.put (k := j) r2)
            refine ⟨(j, w) :: kvs, ?_, by rw [List.length_cons, List.length_cons, List.length_cons]; omega, h3⟩
            show (kV j, w) :: pairUp _ = _
            rw [h1]
            rfl
        · rw [if_neg hk] at h
          cases h
theorem Rest.gup {K : Fr} {mg : Str → Option Value} {G G' : Hp} {avs : List V} {W : WX} {α : Type} {PP : Hp → Option (Out α × Rho) → Prop} (R : Rest K mg G avs W PP) (g : Same G G') : Rest K mg G' avs W PP :=
  ⟨R.no, fun F x ρ h => XB.gadd' g (R.ex F x ρ h), fun F F1 o e h => R.up F F1 o (e.gless g) h⟩
theorem se_dict {W : WX} {pos : Pos} {keys : List (Option Expr)} {values : List Expr} {ps : List (M RV × M RV)} (h : SD X W pos keys values ps) (hall : keys.all (·.isSome) = true := by rfl) (hl : keys.length = values.length := by rfl) (h0 : keys ≠ [] := by exact List.cons_ne_nil _ _) (h15 : keys.length ≤ 15 := by decide) :
    SE X W (.Dict keys values pos) (eDct ps) := (pe_disp h hall hl h0 h15).imp fun σ H Q ⟨F, G, avs, ρ, s, p⟩ q hq => by
  have sg := s.newG (o := .dK []) hq
  have hG : G q = none := s.gl.free hq
  have R : Rest X.K X.mg (upd G q (.dK [])) avs W (EPost X.K X.mg G avs W σ Q) := EPost.rest.gup (same_upd hG)
  refine tPs_of (stepA R sg Held.nil p fun ys rs F1 ρ1 H1 l1 l2 x1 s1 h1 p1 => ?_)
  obtain ⟨F2, ρ2, ds, x2, s2, h2, r2, p2⟩ := fzs_ok R l1 s1 h1 p1
  have hH2 : H1 q = some (.dK []) := s2.gl _ _ upd_same
  have fq : F2 q = none := (x1.trans x2).dom (s.le.free hq)
  have p2 : EPost X.K X.mg G avs W σ Q F2 (fin (toD ds) ρ2) := p2
  unfold toD at p2
  split at p2
  · rename_i hd
    cases e : mkD ds [] with
    | none => rw [e] at p2; exact p2.elim
    | some out =>
      rw [e] at p2
      obtain ⟨kvs, k1, k2, k3⟩ := mkD_rep e r2 (.nil : RepK X.K F2 [] [])
      refine ⟨hH2, kvs, k1, by omega, ?_⟩
      have p2 : ∀ v F' H', Ext F2 G F' → Sim X.K F' G avs σ ρ2 H' → RvOk X.K F' G ρ2 σ H' v (.new (.dict out)) → Q v H' := p2
      have s3 := s2.putG (o' := .dK (mergeK [] kvs)) fq
      refine p2 _ F2 _ (Ext.refl F2 G) (s3.gless (same_upd hG)) ⟨q, rfl, .inl ⟨_, upd_same, k3⟩, fq, hG, fun i e m z => ?_⟩
      obtain ⟨b, z1, _, _, z4⟩ := s3.ow i e m
      rw [z] at z1
      cases z1
      rw [upd_same] at z4
      cases z4
  · exact p2.elim
end
end Fd
/-! Fd, part 16: what a def promises; its body; its call. -/
namespace Fd
open PySem PySem.Spec PyProof.Rows L2
/-- a def's promise where no guard stands -/
structure FnG (P : Program) (w : World) (K : Fr) (mg : Str → Option Value) (base : Heap) (k : Nat) (f : Addr) (fd : FuncData) (ps : List Str) (sp : Sp) : Prop where
  len : ∀ vs H Q E, sp vs H Q E → vs.length = ps.length
  run : ∀ (A : Around) (outer : List Env) (s : Shared) (H : Hp) (args : Args) (us : List Value) (vs : List V) (Q : VK) (E : XK), Room k A → A.guards = some [] → Env0 P w K mg base A outer s H →
    BindsTo s fd args (ps.zip us) → Vals vs us → sp vs H Q E → codeAny (model P w) A (.call (.ref f) args) (CR (L2.CX P w) outer P w H s Q E) s
theorem FnG.mono {P : Program} {w : World} {K : Fr} {mg : Str → Option Value} {base : Heap} {j k : Nat} {f : Addr} {fd : FuncData} {ps : List Str} {sp : Sp} (F : FnG P w K mg base j f fd ps sp) (h : j ≤ k) : FnG P w K mg base k f fd ps sp :=
  ⟨F.len, fun A outer s H args us vs Q E hr => F.run A outer s H args us vs Q E (hr.mono h)⟩
/-- the context of a body -/
abbrev bodyX (P : Program) (w : World) (K : Fr) (mg : Str → Option Value) (base : Heap) (N : List Str) (x : Str) (scope : Scope) (f : Addr) (cdv : Value) (A : Around) (outer : List Env) (s : Shared) (H : Hp) (E : XK) : Cx :=
  cxOf (L2.CX P w) P w K mg base N x scope f cdv A outer s H E
/-- what the rules ask of a context -/
structure Ok (k : Nat) (X : Cx) (W : WX) : Prop where
  calm : X.calm = true
  nd : X.N.Nodup
  tk : Takes X W
  room : Room k X.A
  gd : X.A.guards = some []
structure OkP (k : Nat) (X : Cx) (W : WX) : Prop extends Ok k X W where
  own : PassesOwn (model X.prog X.w) X.A X.env X.xe
theorem Ok.blk {k : Nat} {X : Cx} {W : WX} (o : Ok k X W) (s : Shared) (H : Hp) (scope : Scope) (env : Env) (fp : List Addr) : Ok k (X.blk s H scope env fp) WN := ⟨o.calm, o.nd, takes0, o.room, o.gd⟩
/-! ### arguments -/
inductive ArgL (K : Fr) (F G H : Hp) : List V → List Cell → Prop
  | nil : ArgL K F G H [] []
  | sh {v : V} {d : D} {vs : List V} {cs : List Cell} : Rep K F v d → ArgL K F G H vs cs → ArgL K F G H (v :: vs) (.sh d :: cs)
  | ar {a : Addr} {d : D} {vs : List V} {cs : List Cell} : Own K F H a d → F a = none → G a = none → ArgL K F G H vs cs → ArgL K F G H (.ref a :: vs) (.arg d :: cs)
def lent1 : V × Cell → Option Addr
  | (.ref a, .arg _) => some a
  | _ => none
def lents (vs : List V) (cs : List Cell) : List Addr := (vs.zip cs).filterMap lent1
/-- what was lent, behind the call -/
def BackOk (K : Fr) (F H : Hp) (vs : List V) (cs cs' : List Cell) : Prop := ∀ (i : Nat) (d : D), cs[i]? = some (.arg d) → ∃ a d', vs[i]? = some (V.ref a) ∧ cs'[i]? = some (.arg d') ∧ Own K F H a d' ∧ F a = none
def ResOk (K : Fr) (F G H : Hp) (l : List Addr) (v : V) : RV → Prop
  | .sh d => Rep K F v d
  | .new d => ∃ a, v = V.ref a ∧ Own K F H a d ∧ F a = none ∧ G a = none ∧ a ∉ l
  | .slot _ => False
def FPost (K : Fr) (mg : Str → Option Value) (F G : Hp) (vs : List V) (cs : List Cell) (Q : VK) (E : XK) : Option (Out RV × List Cell) → Prop
  | none => False
  | some (.exc x, cs') => ∀ cls d F' H', Ext F G F' → Same F' H' → Same G H' → BackOk K F' H' vs cs cs' → XOk K mg F' H' cls d x → E cls d H'
  | some (.val r, cs') => ∀ v F' H', Ext F G F' → Same F' H' → Same G H' → BackOk K F' H' vs cs cs' → ResOk K F' G H' (lents vs cs) v r → Q v H'
def spF (n : Nat) (K : Fr) (mg : Str → Option Value) (sem : Fn) : Sp := fun vs H Q E => vs.length = n ∧ ∃ F G cs, Same F H ∧ Same G H ∧ ArgL K F G H vs cs ∧ (lents vs cs).Nodup ∧ FPost K mg F G vs cs Q E (sem cs)
section
variable {K : Fr} {F G H : Hp} {vs : List V} {cs : List Cell}
theorem ArgL.length : ∀ {vs : List V} {cs : List Cell}, ArgL K F G H vs cs → vs.length = cs.length
  | _, _, .nil => rfl
  | _, _, .sh _ h => by rw [List.length_cons, List.length_cons, ArgL.length h]
  | _, _, .ar _ _ _ h => by rw [List.length_cons, List.length_cons, ArgL.length h]
theorem ArgL.shAt : ∀ {vs : List V} {cs : List Cell} {i : Nat} {d : D}, ArgL K F G H vs cs → cs[i]? = some (.sh d) → ∃ v, vs[i]? = some v ∧ Rep K F v d
  | _, _, _, _, .nil, e => by simp at e
  | _, _, 0, _, .sh r _, e => by simp at e; subst e; exact ⟨_, rfl, r⟩
  | _, _, 0, _, .ar _ _ _ _, e => by simp at e
  | _, _, i + 1, _, .sh _ h, e => ArgL.shAt (i := i) h (by simpa using e)
  | _, _, i + 1, _, .ar _ _ _ h, e => ArgL.shAt (i := i) h (by simpa using e)
theorem ArgL.arAt : ∀ {vs : List V} {cs : List Cell} {i : Nat} {d : D}, ArgL K F G H vs cs → cs[i]? = some (.arg d) → ∃ a, vs[i]? = some (V.ref a) ∧ Own K F H a d ∧ F a = none ∧ G a = none ∧ a ∈ lents vs cs
  | _, _, _, _, .nil, e => by simp at e
  | _, _, 0, _, .sh _ _, e => by simp at e
  | _, _, 0, _, .ar o f g h, e => by
    simp at e; subst e
    exact ⟨_, rfl, o, f, g, by unfold lents; rw [List.zip_cons_cons, List.filterMap_cons]; exact List.mem_cons_self⟩
  | v :: vs, _ :: cs, i + 1, _, .sh _ h, e => by
    obtain ⟨a, h1, h2, h3, h4, h5⟩ := ArgL.arAt (i := i) h (by simpa using e)
    refine ⟨a, h1, h2, h3, h4, ?_⟩
    unfold lents at h5 ⊢
    rw [List.zip_cons_cons, List.filterMap_cons]
    split
    · exact h5
    · exact List.mem_cons_of_mem _ h5
  | _ :: vs, _ :: cs, i + 1, _, .ar _ _ _ h, e => by
    obtain ⟨a, h1, h2, h3, h4, h5⟩ := ArgL.arAt (i := i) h (by simpa using e)
    refine ⟨a, h1, h2, h3, h4, ?_⟩
    unfold lents at h5 ⊢
    rw [List.zip_cons_cons, List.filterMap_cons]
    exact List.mem_cons_of_mem _ h5
theorem ArgL.noOwn : ∀ {vs : List V} {cs : List Cell} {i : Nat} {d : D}, ArgL K F G H vs cs → cs[i]? ≠ some (.own d)
  | _, _, _, _, .nil => by simp
  | _, _, 0, _, .sh _ _ => by simp
  | _, _, 0, _, .ar _ _ _ _ => by simp
  | _, _, i + 1, _, .sh _ h => by simpa using ArgL.noOwn (i := i) h
  | _, _, i + 1, _, .ar _ _ _ h => by simpa using ArgL.noOwn (i := i) h
theorem lents_at : ∀ {vs : List V} {cs : List Cell} {i j : Nat} {a : Addr} {d e : D}, (lents vs cs).Nodup → cs[i]? = some (.arg d) → vs[i]? = some (V.ref a) → cs[j]? = some (.arg e) → vs[j]? = some (V.ref a) → i = j
  | [], _, _, _, _, _, _, _, _, h, _, _ => by simp at h
  | _ :: _, [], _, _, _, _, _, _, h, _, _, _ => by simp at h
  | v :: vs, c :: cs, 0, 0, a, d, e, nd, h1, h2, h3, h4 => rfl
  | v :: vs, c :: cs, 0, j + 1, a, d, e, nd, h1, h2, h3, h4 => by
    simp at h1 h2 h3 h4
    subst h1 h2
    unfold lents at nd
    rw [List.zip_cons_cons, List.filterMap_cons] at nd
    have nd : (a :: (vs.zip cs).filterMap lent1).Nodup := nd
    refine absurd ?_ (List.nodup_cons.mp nd).1
    refine List.mem_filterMap.mpr ⟨(V.ref a, Cell.arg e), ?_, rfl⟩
    exact List.mem_of_getElem? (i := j) (by rw [List.getElem?_zip_eq_some]; exact ⟨h4, h3⟩)
  | v :: vs, c :: cs, i + 1, 0, a, d, e, nd, h1, h2, h3, h4 => by
    simp at h1 h2 h3 h4
    subst h3 h4
    unfold lents at nd
    rw [List.zip_cons_cons, List.filterMap_cons] at nd
    have nd : (a :: (vs.zip cs).filterMap lent1).Nodup := nd
    refine absurd ?_ (List.nodup_cons.mp nd).1
    refine List.mem_filterMap.mpr ⟨(V.ref a, Cell.arg d), ?_, rfl⟩
    exact List.mem_of_getElem? (i := i) (by rw [List.getElem?_zip_eq_some]; exact ⟨h2, h1⟩)
  | v :: vs, c :: cs, i + 1, j + 1, a, d, e, nd, h1, h2, h3, h4 => by
    have nd' : (lents vs cs).Nodup := by
      unfold lents at nd ⊢
      rw [List.zip_cons_cons, List.filterMap_cons] at nd
      split at nd
      · exact nd
      · exact (List.nodup_cons.mp nd).2
    rw [lents_at (i := i) (j := j) nd' (by simpa using h1) (by simpa using h2) (by simpa using h3) (by simpa using h4)]
/-- the cells at the entry -/
def entry (n : Nat) (cs : List Cell) : Rho := cs ++ List.replicate (n - cs.length) .un
theorem entry_get {n i : Nat} {c : Cell} (h : (entry n cs)[i]? = some c) (hc : c ≠ .un) : cs[i]? = some c := by
  unfold entry at h
  by_cases hi : i < cs.length
  · rw [List.getElem?_append_left hi] at h
    exact h
  · rw [List.getElem?_append_right (by omega)] at h
    rw [List.getElem?_replicate] at h
    split at h
    · cases h; exact absurd rfl hc
    · cases h
theorem start_get {N : List Str} {i : Nat} {v : V} (h : vs[i]? = some v) : (L2.start N vs)[i]? = some (some v) := by
  unfold L2.start
  rw [List.getElem?_append_left (by simpa using (List.getElem?_eq_some_iff.mp h).1), List.getElem?_map, h]
  rfl
theorem sim_start {N : List Str} (hF : Same F H) (hG : Same G H) (a : ArgL K F G H vs cs) (nd : (lents vs cs).Nodup) (hl : vs.length ≤ N.length) : Sim K F G vs (L2.start N vs) (entry N.length cs) H := by
  have mu : ∀ (i : Nat) (d : D), Mu (entry N.length cs) i d → cs[i]? = some (.arg d) := fun i d m => by
    rcases m with m | m
    · exact absurd (entry_get m (fun z => by cases z)) a.noOwn
    · exact entry_get m (fun z => by cases z)
  refine ⟨hF, hG, ?_, fun i d h => ?_, fun i d h => ?_, fun i d h => ?_, fun i j d e b n m1 m2 s1 s2 => ?_⟩
  · unfold entry L2.start
    rw [List.length_append, List.length_append, List.length_replicate, List.length_replicate, List.length_map, a.length]
  · obtain ⟨v, h1, h2⟩ := a.shAt (entry_get h (fun z => by cases z))
    exact ⟨v, start_get h1, h2⟩
  · obtain ⟨b, h1, h2, h3, h4, _⟩ := a.arAt (mu i d h)
    exact ⟨b, start_get h1, h2, h3, h4⟩
  · obtain ⟨b, h1, _⟩ := a.arAt (mu i d (.inr h))
    exact ⟨_, h1, start_get h1⟩
  · obtain ⟨b1, h1, _⟩ := a.arAt (mu i d m1)
    obtain ⟨b2, h2, _⟩ := a.arAt (mu j e m2)
    rw [start_get h1] at s1
    cases s1
    rw [start_get h2] at s2
    cases s2
    exact n (lents_at nd (mu i d m1) h1 (mu j e m2) h2)
theorem keepArg_at : ∀ {as ρ cs' : List Cell} {i : Nat} {d : D}, keepArg as ρ = some cs' → as[i]? = some (.arg d) → ∃ d', ρ[i]? = some (.arg d') ∧ cs'[i]? = some (.arg d')
  | [], _, _, _, _, _, e => by simp at e
  | .arg x :: as, [], _, _, _, h, _ => by cases h
  | .arg x :: as, c :: ρ, cs', i, d, h, e => by
    cases c with
    | arg y =>
      unfold keepArg at h
      cases e2 : keepArg as ρ with
      | none => rw [e2] at h; cases h
      | some l =>
        rw [e2] at h
        cases h
        cases i with
        | zero => exact ⟨y, rfl, rfl⟩
        | succ i =>
          obtain ⟨d', q1, q2⟩ := keepArg_at (i := i) e2 (by simpa using e)
          exact ⟨d', by simpa using q1, by simpa using q2⟩
    | _ => cases h
  | .sh x :: as, [], _, _, _, h, _ => by cases h
  | .sh x :: as, c :: ρ, cs', i, d, h, e => by
    unfold keepArg at h
    cases e2 : keepArg as ρ with
    | none => rw [e2] at h; cases h
    | some l =>
      rw [e2] at h
      cases h
      cases i with
      | zero => simp at e
      | succ i =>
        obtain ⟨d', q1, q2⟩ := keepArg_at (i := i) e2 (by simpa using e)
        exact ⟨d', by simpa using q1, by simpa using q2⟩
  | .un :: as, _, _, _, _, h, _ => by cases h
  | .own x :: as, _, _, _, _, h, _ => by cases h
theorem back_ok {F' H' : Hp} {σ : St} {ρ : Rho} {cs' : List Cell} (s : Sim K F' G vs σ ρ H') (a : ArgL K F G H vs cs) (k : keepArg cs ρ = some cs') : BackOk K F' H' vs cs cs' := fun i d h => by
  obtain ⟨d', q1, q2⟩ := keepArg_at k h
  obtain ⟨b, h1, _⟩ := a.arAt h
  obtain ⟨v, w1, w2⟩ := s.ar i d' q1
  obtain ⟨c, y1, y2, y3, y4⟩ := s.ow i d' (.inr q1)
  rw [h1] at w1
  cases w1
  rw [w2] at y1
  cases y1
  exact ⟨b, d', h1, q2, y2, y3⟩
end
/-- a def keeps its promise, by its body -/
theorem body_ok {K : Fr} {mg : Str → Option Value} {N : List Str} {n : Nat} {g : M Fl} {vs : List V} {H : Hp} {Q : VK} {E : XK} (hn : n ≤ N.length) (h : spF n K mg (run N.length g) vs H Q E) :
    tS K mg (fun cls d _ H' => E cls d H') g { nx := fun _ H' => Q .non H', rt := Q } (L2.start N vs) H := by
  obtain ⟨hl, F, G, cs, hF, hG, ha, nd, p⟩ := h
  have s := sim_start hF hG ha nd (N := N) (by omega)
  refine ⟨F, G, vs, entry N.length cs, s, ?_⟩
  have p : FPost K mg F G vs cs Q E (match g (entry N.length cs) with
    | none => none
    | some (o, ρ) => match keepArg cs ρ with
      | none => none
      | some cs' => match o with
        | .exc x => some (.exc x, cs')
        | .val .nx => some (.val (.sh .none), cs')
        | .val (.rt (.sh d)) => some (.val (.sh d), cs')
        | .val (.rt (.new d)) => some (.val (.new d), cs')
        | .val (.rt (.slot i)) => (match ρ[i]? with
          | some (.own d) => some (.val (.new d), cs')
          | some (.sh d) => some (.val (.sh d), cs')
          | _ => none)
        | _ => none) := p
  cases e : g (entry N.length cs) with
  | none => rw [e] at p; exact p.elim
  | some z =>
    obtain ⟨o, ρ⟩ := z
    rw [e] at p
    dsimp only at p
    cases e2 : keepArg cs ρ with
    | none => rw [e2] at p; exact p.elim
    | some cs' =>
      rw [e2] at p
      dsimp only at p
      cases o with
      | exc x => exact fun σ' cls d F' H' e1 s1 xo => p cls d F' H' e1 s1.le s1.gl (back_ok s1 ha e2) xo
      | val fl =>
        intro σ' F' H' e1 s1
        have lo : ∀ (i : Nat) (d : D) (b : Addr), ρ[i]? = some (Cell.own d) → σ'[i]? = some (some (V.ref b)) → b ∉ lents vs cs := fun i d b c sb hm => by
          obtain ⟨⟨v, cl⟩, m1, m2⟩ := List.mem_filterMap.mp hm
          unfold lent1 at m2
          split at m2
          · rename_i a d2 e3
            cases m2
            cases e3
            obtain ⟨j, hj⟩ := List.getElem?_of_mem m1
            rw [List.getElem?_zip_eq_some] at hj
            obtain ⟨d', q1, q2⟩ := keepArg_at e2 hj.2
            obtain ⟨v, w1, w2⟩ := s1.ar j d' q1
            rw [hj.1] at w1
            cases w1
            have nij : i ≠ j := fun z => by rw [z, q1] at c; cases c
            exact s1.ap i j d d' b nij (.inl c) (.inr q1) sb w2
          · cases m2
        cases fl with
        | nx => exact p .non F' H' e1 s1.le s1.gl (back_ok s1 ha e2) .non
        | bk => exact p.elim
        | ct => exact p.elim
        | rt r =>
          intro v hv
          cases r with
          | sh d => exact p v F' H' e1 s1.le s1.gl (back_ok s1 ha e2) hv
          | new d =>
            obtain ⟨a, ea, o1, o2, o3, o4⟩ := hv
            refine p v F' H' e1 s1.le s1.gl (back_ok s1 ha e2) ⟨a, ea, o1, o2, o3, fun hm => ?_⟩
            obtain ⟨⟨w, cl⟩, m1, m2⟩ := List.mem_filterMap.mp hm
            unfold lent1 at m2
            split at m2
            · rename_i b d2 e3
              cases m2
              cases e3
              obtain ⟨j, hj⟩ := List.getElem?_of_mem m1
              rw [List.getElem?_zip_eq_some] at hj
              obtain ⟨d', q1, q2⟩ := keepArg_at e2 hj.2
              obtain ⟨w, w1, w2⟩ := s1.ar j d' q1
              rw [hj.1] at w1
              cases w1
              exact o4 j d' (.inr q1) w2
            · cases m2
          | slot i =>
            have hv : σ'[i]? = some (some v) := hv
            dsimp only at p
            cases c : ρ[i]? with
            | none => rw [c] at p; exact p.elim
            | some cl =>
              rw [c] at p
              cases cl with
              | un => exact p.elim
              | arg d => exact p.elim
              | sh d =>
                obtain ⟨w, z1, z2⟩ := s1.sh i d c
                rw [hv] at z1
                cases z1
                exact p v F' H' e1 s1.le s1.gl (back_ok s1 ha e2) z2
              | own d =>
                obtain ⟨a, z1, z2, z3, z4⟩ := s1.ow i d (.inl c)
                rw [hv] at z1
                cases z1
                exact p _ F' H' e1 s1.le s1.gl (back_ok s1 ha e2) ⟨a, rfl, z2, z3, z4, lo i d a c hv⟩
section
variable {P : Program} {w : World} {K : Fr} {mg : Str → Option Value} {base : Heap} {x qual : Str} {params : Arguments} {body : List Stmt} {scope : Scope} {dvs : List V} {kws : List (Str × V)} {f : Addr} {fd : FuncData} {k : Nat} {N ps : List Str} {g : M Fl}
theorem fnG_of (F : FunD K x qual params body scope dvs kws f fd) (S : FnScope N ps scope)
    (hb : ∀ (cdv : Value) (A : Around) (outer : List Env) (s : Shared) (H : Hp) (E : XK), OkP k (bodyX P w K mg base N qual scope f cdv A outer s H E) (fun cls d _ H' => E cls d H') →
      SSs (bodyX P w K mg base N qual scope f cdv A outer s H E) (fun cls d _ H' => E cls d H') body g) : FnG P w K mg base (k + 1) f fd ps (spF ps.length K mg (run N.length g)) := by
  have hpl : ps.length ≤ N.length := by
    have := congrArg List.length S.pre
    rw [List.length_take] at this
    omega
  refine ⟨fun vs H Q E h => h.1, fun A outer s H args us vs Q E hr hgd e0 hbd r hsp => ?_⟩
  obtain ⟨oc, od, dV, kV, doc, pm, an, cdv, ct, osl, rfl, lk, hcd, _, _⟩ := F.ex
  have kin : K.In s.heap := e0.mod.kin.keeps fun b o e => (e0.bs b o e).1
  have nolim : s.heap.NoLimit := e0.mod.nolimit.keeps fun b o e => (e0.bs b o e).1
  have kinds : ∀ y ∈ ps.zip us, scope.names.lookup y.1 = some .local ∨ (scope.names.lookup y.1 = some .cell ∧ ((cellsFrom (s.heap.objs.size + 1) scope.names []).lookup y.1).isSome = true) := fun ⟨n, v⟩ hy => by
    rcases S.par n (List.of_mem_zip hy).1 with z | z
    · exact .inl z
    · exact .inr ⟨z, PySem.W.cellsFrom_some _ _ _ (.inl z)⟩
  refine codeAny_call_function hr.depth (kin _ _ lk) rfl S.co S.gen rfl (PySem.W.codeRec_of kin hcd) (hbd _ _ _ _ ?_)
  refine wpAny_newFunctionEnv_cells S.kind kinds fun env he s1 z => ?_
  subst he
  refine ⟨nolim.keeps z.toInCall.keep, codeAny_func ?_⟩
  have ok : OkP k (bodyX P w K mg base N qual scope f cdv A outer s H E) (fun cls d _ H' => E cls d H') :=
    ⟨⟨rfl, S.nd, takes_of rfl rfl rfl rfl, hr.deeper _, hgd⟩, passes_of (X := bodyX P w K mg base N qual scope f cdv A outer s H E) rfl⟩
  have I : L2.Inv (bodyX P w K mg base N qual scope f cdv A outer s H E) [] (L2.start N vs) H s1 := inv_start S hr.hd e0 hsp.1 r z
  refine wpAny_mono ((hb cdv A outer s H E ok).run [] s1 (L2.start N vs) H _ I (body_ok hpl hsp)) (fun fl s' q => ?_) fun e s' q => q
  cases fl with
  | ret u =>
    obtain ⟨v, σ', H', J, rv, q⟩ := q
    exact ⟨v, H', J.os, J.bare, J.base, J.hok, rv, q⟩
  | next =>
    obtain ⟨σ', H', J, q⟩ := q
    exact ⟨V.non, H', J.os, J.bare, J.base, J.hok, rfl, q⟩
  | brk =>
    obtain ⟨_, _, _, q⟩ := q
    exact q.elim
  | cont =>
    obtain ⟨_, _, _, q⟩ := q
    exact q.elim
end
end Fd
/-! Fd, part 17: the call of a def. -/
namespace Fd
open PySem PySem.Spec PyProof.Rows L2
section
variable {K : Fr} {mg : Str → Option Value} {W : WX} {F G H : Hp} {avs : List V} {σ : St} {ρ : Rho}
theorem fzMask_ok {α : Type} {PP : Hp → Option (Out α × Rho) → Prop} (R : Rest K mg G avs W PP) : ∀ {ms : List Bool} {rs : List RV} {ys : List V} {k : List RV → M α} {F : Hp} {ρ : Rho} {ws : List (V × RV)}, ys.length = rs.length →
    Sim K F G avs σ ρ H → Held K F G ρ σ H (ws ++ ys.zip rs) → PP F (bnd (fzMask ms rs) k ρ) →
    ∃ F1 ρ1 qs, Ext F G F1 ∧ Sim K F1 G avs σ ρ1 H ∧ ys.length = qs.length ∧ Held K F1 G ρ1 σ H (ws ++ ys.zip qs) ∧ PP F1 (k qs ρ1)
  | [], [], [], k, F, ρ, ws, _, s, h, p => ⟨F, ρ, [], Ext.refl F G, s, rfl, h, p⟩
  | m :: ms, r :: rs, y :: ys, k, F, ρ, ws, hl, s, h, p => by
    have go : ∀ (q : RV) (F1 : Hp) (ρ1 : Rho), Ext F G F1 → Sim K F1 G avs σ ρ1 H → Held K F1 G ρ1 σ H ((ws ++ [(y, q)]) ++ ys.zip rs) → PP F1 (bnd (fzMask ms rs) (fun qs => k (q :: qs)) ρ1) →
        ∃ F1 ρ1 qs, Ext F G F1 ∧ Sim K F1 G avs σ ρ1 H ∧ (y :: ys).length = qs.length ∧ Held K F1 G ρ1 σ H (ws ++ (y :: ys).zip qs) ∧ PP F1 (k qs ρ1) := fun q F1 ρ1 e1 s1 h1 p1 => by
      obtain ⟨F2, ρ2, qs, e2, s2, l2, h2, p2⟩ := fzMask_ok R (by simpa using hl) s1 h1 p1
      refine ⟨F2, ρ2, q :: qs, e1.trans e2, s2, by rw [List.length_cons, List.length_cons, l2], ?_, p2⟩
      rw [List.zip_cons_cons]
      rw [List.append_assoc] at h2
      exact h2
    rw [List.zip_cons_cons] at h
    have shift : ∀ {q : RV}, (ws ++ [(y, q)]) ++ ys.zip rs = ws ++ (y, q) :: ys.zip rs := fun {q} => by rw [List.append_assoc]; rfl
    cases m with
    | true =>
      refine go r F ρ (Ext.refl F G) s (by rw [shift]; exact h) ?_
      unfold fzMask bnd ret at p
      unfold bnd
      cases e : fzMask ms rs ρ with
      | none => rw [e] at p; exact p
      | some w =>
        rw [e] at p
        obtain ⟨o, ρ1⟩ := w
        cases o with
        | exc x => exact p
        | val u => exact p
    | false =>
      have p' : PP F (bnd (fz r) (fun d => bnd (fzMask ms rs) fun qs => k (.sh d :: qs)) ρ) := by
        unfold fzMask bnd ret at p
        unfold bnd
        cases e : fz r ρ with
        | none => rw [e] at p; exact p
        | some z =>
          rw [e] at p
          obtain ⟨o, ρ1⟩ := z
          cases o with
          | exc x => exact p
          | val d =>
            dsimp only at p ⊢
            cases e2 : fzMask ms rs ρ1 with
            | none => rw [e2] at p; exact p
            | some w =>
              rw [e2] at p
              obtain ⟨o, ρ2⟩ := w
              cases o with
              | exc x => exact p
              | val u => exact p
      -- the held ones without this one
      have nd2 : ∀ d, (tmps ((ws ++ [(y, RV.sh d)]) ++ ys.zip rs)).Nodup := fun d => by
        have nd := h.nd
        unfold tmps at nd ⊢
        rw [List.filterMap_append, List.filterMap_cons] at nd
        rw [List.filterMap_append, List.filterMap_append, List.filterMap_cons]
        have t2 : tmp (y, RV.sh d) = none := by unfold tmp; split <;> first | rfl | (rename_i e; cases e)
        rw [t2]
        split at nd
        · simpa using nd
        · rw [List.filterMap_nil, List.append_nil]
          exact nd.sublist (List.Sublist.append (List.Sublist.refl _) (List.sublist_cons_self _ _))
      have old : ∀ p ∈ ws ++ ys.zip rs, RvOk K F G ρ σ H p.1 p.2 := fun p hp => h.ok p (by
        rcases List.mem_append.mp hp with z | z
        · exact List.mem_append_left _ z
        · exact List.mem_append_right _ (List.mem_cons_of_mem _ z))
      have fin : ∀ (F1 : Hp) (ρ1 : Rho) (d : D), Rep K F1 y d → (∀ p ∈ ws ++ ys.zip rs, RvOk K F1 G ρ1 σ H p.1 p.2) → Held K F1 G ρ1 σ H ((ws ++ [(y, RV.sh d)]) ++ ys.zip rs) := fun F1 ρ1 d r1 ok => ⟨fun p hp => by
        rcases List.mem_append.mp hp with z | z
        · rcases List.mem_append.mp z with z | z
          · exact ok p (List.mem_append_left _ z)
          · cases List.mem_singleton.mp z; exact r1
        · exact ok p (List.mem_append_right _ z), nd2 d⟩
      have hy := h.ok (y, r) (List.mem_append_right _ List.mem_cons_self)
      unfold bnd fz at p'
      cases r with
      | sh d => exact go (.sh d) F ρ (Ext.refl F G) s (fin F ρ d hy old) p'
      | new d =>
        obtain ⟨a, ea, o1, o2, o3, o4⟩ := hy
        have ea : y = .ref a := ea
        subst ea
        obtain ⟨F1, e1, s1, r1, f1⟩ := s.freezeNew o1 o2 o3 o4
        refine go (.sh d) F1 ρ e1 s1 (fin F1 ρ d r1 fun p hp => ?_) (R.up _ _ _ e1 p')
        obtain ⟨v, q⟩ := p
        have z := old _ hp
        cases q with
        | sh x => exact Rep.mono e1.le x z
        | slot i => exact z
        | new x =>
          obtain ⟨b, eb, q1, q2, q3, q4⟩ := z
          have eb : v = .ref b := eb
          subst eb
          have hb : b ≠ a := fun w => by
            subst w
            have nd := h.nd
            unfold tmps at nd
            rw [List.filterMap_append, List.filterMap_cons] at nd
            have nd : (List.filterMap Fd.tmp ws ++ b :: List.filterMap Fd.tmp (ys.zip rs)).Nodup := nd
            rcases List.mem_append.mp hp with w | w
            · have m1 : b ∈ List.filterMap Fd.tmp ws := List.mem_filterMap.mpr ⟨_, w, rfl⟩
              exact (List.nodup_append.mp nd).2.2 b m1 b List.mem_cons_self rfl
            · have m1 : b ∈ List.filterMap Fd.tmp (ys.zip rs) := List.mem_filterMap.mpr ⟨_, w, rfl⟩
              exact (List.nodup_cons.mp (List.nodup_append.mp nd).2.1).1 m1
          exact ⟨b, rfl, q1.mono e1.le fun _ z => z, by rw [f1 b hb]; exact q2, q3, q4⟩
      | slot i =>
        have hy : σ[i]? = some (some y) := hy
        dsimp only at p'
        cases c : ρ[i]? with
        | none => rw [c] at p'; exact (R.no _ p').elim
        | some cl =>
          rw [c] at p'
          cases cl with
          | un => exact (R.no _ p').elim
          | arg d => exact (R.no _ p').elim
          | sh d =>
            obtain ⟨w, z1, z2⟩ := s.sh i d c
            rw [hy] at z1
            cases z1
            exact go (.sh d) F ρ (Ext.refl F G) s (fin F ρ d z2 old) p'
          | own d =>
            obtain ⟨F1, w, z1, e1, s1, r1, f1⟩ := s.freeze c
            rw [hy] at z1
            cases z1
            refine go (.sh d) F1 _ e1 s1 (fin F1 _ d r1 fun p hp => ?_) (R.up _ _ _ e1 p')
            obtain ⟨v, q⟩ := p
            have z := old _ hp
            cases q with
            | sh x => exact Rep.mono e1.le x z
            | slot i => exact z
            | new x =>
              obtain ⟨b, eb, q1, q2, q3, q4⟩ := z
              have eb : v = .ref b := eb
              subst eb
              have hb : b ≠ w := fun e => q4 i d (.inl c) (by rw [e]; exact hy)
              refine ⟨b, rfl, q1.mono e1.le fun _ z => z, by rw [f1 b hb]; exact q2, q3, fun j x m w => ?_⟩
              have m' : ∃ x', Mu ρ j x' := by
                by_cases hj : i = j
                · subst hj; exact ⟨d, .inl c⟩
                · exact ⟨x, (Mu.set_ne hj).mp m⟩
              obtain ⟨x', m'⟩ := m'
              exact q4 j x' m' w
  | [], _ :: _, _, k, F, ρ, ws, _, s, h, p => (R.no _ p).elim
  | m :: ms, [], _, k, F, ρ, ws, _, s, h, p => by
    refine (R.no F ?_).elim
    cases m <;> exact p
  | [], [], _ :: _, _, _, _, _, hl, _, _, _ => by cases hl
  | _ :: _, _ :: _, [], _, _, _, _, hl, _, _, _ => by cases hl
/-! ### lending -/
theorem lend1_sh {y : V} {r : RV} {d : D} (s : Sim K F G avs σ ρ H) (h : RvOk K F G ρ σ H y r) (e : lend1 ρ r = some (.sh d)) : Rep K F y d := by
  unfold lend1 at e
  cases r with
  | sh x => cases e; exact h
  | new x => cases e
  | slot i =>
    dsimp only at e
    cases c : ρ[i]? with
    | none => rw [c] at e; cases e
    | some cl =>
      rw [c] at e
      cases cl with
      | sh x =>
        cases e
        obtain ⟨w, z1, z2⟩ := s.sh i d c
        have h : σ[i]? = some (some y) := h
        rw [h] at z1
        cases z1
        exact z2
      | _ => cases e
theorem lend1_ar {y : V} {r : RV} {d : D} (s : Sim K F G avs σ ρ H) (h : RvOk K F G ρ σ H y r) (e : lend1 ρ r = some (.arg d)) : ∃ a, y = V.ref a ∧ Own K F H a d ∧ F a = none ∧ G a = none ∧ ((∃ i, r = .slot i ∧ Mu ρ i d ∧ σ[i]? = some (some (V.ref a))) ∨ r = .new d) := by
  unfold lend1 at e
  cases r with
  | sh x => cases e
  | new x =>
    cases e
    obtain ⟨a, h1, h2, h3, h4, _⟩ := h
    exact ⟨a, h1, h2, h3, h4, .inr rfl⟩
  | slot i =>
    have h : σ[i]? = some (some y) := h
    have own : Mu ρ i d → ∃ a, y = V.ref a ∧ Own K F H a d ∧ F a = none ∧ G a = none ∧ ((∃ j, RV.slot i = .slot j ∧ Mu ρ j d ∧ σ[j]? = some (some (V.ref a))) ∨ RV.slot i = .new d) := fun m => by
      obtain ⟨a, h1, h2, h3, h4⟩ := s.ow i d m
      rw [h] at h1
      cases h1
      exact ⟨a, rfl, h2, h3, h4, .inl ⟨i, rfl, m, h⟩⟩
    dsimp only at e
    cases c : ρ[i]? with
    | none => rw [c] at e; cases e
    | some cl =>
      rw [c] at e
      cases cl with
      | own x => cases e; exact own (.inl c)
      | arg x => cases e; exact own (.inr c)
      | _ => cases e
theorem lendC_cons {r : RV} {rs : List RV} {cs : List Cell} (h : lendC ρ (r :: rs) = some cs) : ∃ c cs', lend1 ρ r = some c ∧ lendC ρ rs = some cs' ∧ cs = c :: cs' := by
  unfold lendC at h
  cases e1 : lend1 ρ r with
  | none => rw [e1] at h; cases h
  | some c =>
    rw [e1] at h
    cases e2 : lendC ρ rs with
    | none => rw [e2] at h; cases h
    | some cs' =>
      rw [e2] at h
      cases h
      exact ⟨c, cs', rfl, rfl, rfl⟩
theorem lend1_cell {r : RV} {c : Cell} (h : lend1 ρ r = some c) : (∃ d, c = .sh d) ∨ ∃ d, c = .arg d := by
  unfold lend1 at h
  cases r with
  | sh x => cases h; exact .inl ⟨_, rfl⟩
  | new x => cases h; exact .inr ⟨_, rfl⟩
  | slot i =>
    dsimp only at h
    cases e : ρ[i]? with
    | none => rw [e] at h; cases h
    | some cl =>
      rw [e] at h
      cases cl with
      | un => cases h
      | sh x => cases h; exact .inl ⟨_, rfl⟩
      | own x => cases h; exact .inr ⟨_, rfl⟩
      | arg x => cases h; exact .inr ⟨_, rfl⟩
theorem argL_of (s : Sim K F G avs σ ρ H) {Gc : Hp} : ∀ {qs : List RV} {ys : List V} {cs : List Cell}, ys.length = qs.length → (∀ p ∈ ys.zip qs, RvOk K F G ρ σ H p.1 p.2) → lendC ρ qs = some cs → (∀ a, a ∈ lents ys cs → Gc a = none) → ArgL K F Gc H ys cs
  | [], [], cs, _, _, e, _ => by cases e; exact .nil
  | q :: qs, y :: ys, cs, hl, h, e, hL => by
    obtain ⟨c, cs', e1, e2, rfl⟩ := lendC_cons e
    have hy := h (y, q) (by rw [List.zip_cons_cons]; exact List.mem_cons_self)
    have ih : (∀ a, a ∈ lents ys cs' → Gc a = none) → ArgL K F Gc H ys cs' := argL_of s (by simpa using hl) (fun p hp => h p (by rw [List.zip_cons_cons]; exact List.mem_cons_of_mem _ hp)) e2
    have sub : ∀ a, a ∈ lents ys cs' → Gc a = none := fun a ha => hL a (by
      unfold lents at ha ⊢
      rw [List.zip_cons_cons, List.filterMap_cons]
      split
      · exact ha
      · exact List.mem_cons_of_mem _ ha)
    rcases lend1_cell e1 with ⟨d, rfl⟩ | ⟨d, rfl⟩
    · exact .sh (lend1_sh s hy e1) (ih sub)
    · obtain ⟨a, rfl, o1, o2, o3, _⟩ := lend1_ar s hy e1
      refine .ar o1 o2 (hL a ?_) (ih sub)
      unfold lents
      rw [List.zip_cons_cons, List.filterMap_cons]
      exact List.mem_cons_self
  | [], _ :: _, _, hl, _, _, _ => by cases hl
  | _ :: _, [], _, hl, _, _, _ => by cases hl
/-- where a lent address comes from -/
theorem lents_src (s : Sim K F G avs σ ρ H) : ∀ {qs : List RV} {ys : List V} {cs : List Cell} {a : Addr}, ys.length = qs.length → (∀ p ∈ ys.zip qs, RvOk K F G ρ σ H p.1 p.2) → lendC ρ qs = some cs → a ∈ lents ys cs →
    G a = none ∧ H a ≠ none ∧ ((∃ i d, RV.slot i ∈ qs ∧ Mu ρ i d ∧ σ[i]? = some (some (V.ref a))) ∨ ∃ d, (V.ref a, RV.new d) ∈ ys.zip qs)
  | [], [], cs, a, _, _, e, ha => by cases e; cases ha
  | q :: qs, y :: ys, cs, a, hl, h, e, ha => by
    obtain ⟨c, cs', e1, e2, rfl⟩ := lendC_cons e
    have hy := h (y, q) (by rw [List.zip_cons_cons]; exact List.mem_cons_self)
    have ih := lents_src s (a := a) (qs := qs) (ys := ys) (by simpa using hl) (fun p hp => h p (by rw [List.zip_cons_cons]; exact List.mem_cons_of_mem _ hp)) e2
    have up : a ∈ lents ys cs' → G a = none ∧ H a ≠ none ∧ ((∃ i d, RV.slot i ∈ q :: qs ∧ Mu ρ i d ∧ σ[i]? = some (some (V.ref a))) ∨ ∃ d, (V.ref a, RV.new d) ∈ (y :: ys).zip (q :: qs)) := fun m => by
      obtain ⟨h1, h2, h3⟩ := ih m
      refine ⟨h1, h2, ?_⟩
      rcases h3 with ⟨i, d, m1, m2, m3⟩ | ⟨d, m1⟩
      · exact .inl ⟨i, d, List.mem_cons_of_mem _ m1, m2, m3⟩
      · exact .inr ⟨d, by rw [List.zip_cons_cons]; exact List.mem_cons_of_mem _ m1⟩
    unfold lents at ha
    rw [List.zip_cons_cons, List.filterMap_cons] at ha
    rcases lend1_cell e1 with ⟨d, rfl⟩ | ⟨d, rfl⟩
    · have t : Fd.lent1 (y, Cell.sh d) = none := by unfold lent1; split <;> first | rfl | (rename_i e; cases e)
      rw [t] at ha
      exact up ha
    · obtain ⟨b, rfl, o1, o2, o3, o4⟩ := lend1_ar s hy e1
      have ha : a ∈ b :: lents ys cs' := ha
      rcases List.mem_cons.mp ha with z | z
      · subst z
        refine ⟨o3, o1.ne, ?_⟩
        rcases o4 with ⟨i, rfl, m, z⟩ | rfl
        · exact .inl ⟨i, d, List.mem_cons_self, m, z⟩
        · exact .inr ⟨d, by rw [List.zip_cons_cons]; exact List.mem_cons_self⟩
      · exact up z
  | [], _ :: _, _, _, hl, _, _, _ => by cases hl
  | _ :: _, [], _, _, hl, _, _, _ => by cases hl
theorem lents_nd (s : Sim K F G avs σ ρ H) : ∀ {qs : List RV} {ys : List V} {cs : List Cell}, ys.length = qs.length → Held K F G ρ σ H (ys.zip qs) → lendC ρ qs = some cs → (qs.filterMap slotIx).Nodup → (lents ys cs).Nodup
  | [], [], cs, _, _, e, _ => by cases e; exact List.nodup_nil
  | q :: qs, y :: ys, cs, hl, h, e, nd => by
    obtain ⟨c, cs', e1, e2, rfl⟩ := lendC_cons e
    rw [List.zip_cons_cons] at h
    have hl' : ys.length = qs.length := by simpa using hl
    have nd' : (qs.filterMap slotIx).Nodup := by
      rw [List.filterMap_cons] at nd
      split at nd
      · exact nd
      · exact (List.nodup_cons.mp nd).2
    have ih := lents_nd s hl' h.tail e2 nd'
    have hy := h.ok (y, q) List.mem_cons_self
    unfold lents
    rw [List.zip_cons_cons, List.filterMap_cons]
    rcases lend1_cell e1 with ⟨d, rfl⟩ | ⟨d, rfl⟩
    · have t : Fd.lent1 (y, Cell.sh d) = none := by unfold lent1; split <;> first | rfl | (rename_i e; cases e)
      rw [t]
      exact ih
    · obtain ⟨b, rfl, o1, o2, o3, o4⟩ := lend1_ar s hy e1
      show (b :: lents ys cs').Nodup
      refine List.nodup_cons.mpr ⟨fun hm => ?_, ih⟩
      obtain ⟨_, _, h3⟩ := lents_src s hl' h.tail.ok e2 hm
      rcases o4 with ⟨i, rfl, m, z⟩ | rfl
      · rcases h3 with ⟨j, d', m1, m2, m3⟩ | ⟨d', m1⟩
        · by_cases hij : i = j
          · subst hij
            rw [List.filterMap_cons] at nd
            have nd : (i :: qs.filterMap slotIx).Nodup := nd
            exact (List.nodup_cons.mp nd).1 (List.mem_filterMap.mpr ⟨_, m1, rfl⟩)
          · exact s.ap i j d d' b hij m m2 z m3
        · obtain ⟨b', eb, _, _, _, q4⟩ := h.tail.ok _ m1
          cases eb
          exact q4 i d m z
      · rcases h3 with ⟨j, d', m1, m2, m3⟩ | ⟨d', m1⟩
        · obtain ⟨b', eb, _, _, _, q4⟩ := hy
          cases eb
          exact q4 j d' m2 m3
        · have nt := h.nd
          rw [tmps_cons] at nt
          have nt : (b :: tmps (ys.zip qs)).Nodup := nt
          exact (List.nodup_cons.mp nt).1 (List.mem_filterMap.mpr ⟨_, m1, rfl⟩)
  | [], _ :: _, _, hl, _, _, _ => by cases hl
  | _ :: _, [], _, hl, _, _, _ => by cases hl
/-! ### what comes back -/
theorem back1_get {i : Nat} {d : D} {j : Nat} : (back1 i d ρ)[j]? = if i = j then (match ρ[j]? with
    | some (.own _) => some (Cell.own d)
    | some (.arg _) => some (Cell.arg d)
    | o => o) else ρ[j]? := by
  unfold back1
  by_cases h : i = j
  · subst h
    rw [if_pos rfl]
    cases c : ρ[i]? with
    | none => simp only []; exact c
    | some cl =>
      have hi := (List.getElem?_eq_some_iff.mp c).1
      cases cl with
      | un => exact c
      | sh x => exact c
      | own x => exact List.getElem?_set_self hi
      | arg x => exact List.getElem?_set_self hi
  · rw [if_neg h]
    split
    · exact List.getElem?_set_ne h
    · exact List.getElem?_set_ne h
    · rfl
/-- what stands in slot i behind the call -/
abbrev BackAt (qs : List RV) (cs cs' : List Cell) (ρ : Rho) (i : Nat) : Prop :=
  (∃ (j : Nat) (d d' : D), qs[j]? = some (RV.slot i) ∧ cs[j]? = some (Cell.arg d) ∧ cs'[j]? = some (Cell.arg d') ∧ ((ρ[i]? = some (Cell.own d) ∧ (back qs cs' ρ)[i]? = some (Cell.own d')) ∨ (ρ[i]? = some (Cell.arg d) ∧ (back qs cs' ρ)[i]? = some (Cell.arg d')))) ∨
    ((back qs cs' ρ)[i]? = ρ[i]? ∧ ∀ (j : Nat) (d : D), qs[j]? = some (RV.slot i) → cs[j]? ≠ some (Cell.arg d))
theorem back_get : ∀ {qs : List RV} {cs cs' : List Cell} {ρ0 ρ : Rho}, (qs.filterMap slotIx).Nodup → lendC ρ0 qs = some cs → (∀ i, RV.slot i ∈ qs → ρ[i]? = ρ0[i]?) → (∀ (j : Nat) (d : D), cs[j]? = some (Cell.arg d) → ∃ d', cs'[j]? = some (Cell.arg d')) → ∀ i : Nat, BackAt qs cs cs' ρ i
  | [], cs, cs', ρ0, ρ, _, e, _, _, i => .inr ⟨by unfold back; rfl, fun j d h => by simp at h⟩
  | q :: qs, cs, cs', ρ0, ρ, nd, e, agree, hc, i => by
    obtain ⟨c, cs1, e1, e2, rfl⟩ := lendC_cons e
    have nd' : (qs.filterMap slotIx).Nodup := by
      rw [List.filterMap_cons] at nd
      split at nd
      · exact nd
      · exact (List.nodup_cons.mp nd).2
    cases cs' with
    | nil =>
      have none_arg : ∀ (j : Nat) (d : D), (c :: cs1)[j]? ≠ some (Cell.arg d) := fun j d h => by
        obtain ⟨d', z⟩ := hc j d h
        simp at z
      exact .inr ⟨by cases q <;> rfl, fun j d _ => none_arg j d⟩
    | cons c' cs' =>
      have hc' : ∀ (j : Nat) (d : D), cs1[j]? = some (Cell.arg d) → ∃ d', cs'[j]? = some (Cell.arg d') := fun j d h => by
        obtain ⟨d', z⟩ := hc (j + 1) d (by simpa using h)
        exact ⟨d', by simpa using z⟩
      -- the first one changes nothing at i
      have skip : back (q :: qs) (c' :: cs') ρ = back qs cs' ρ → (∀ d, q = RV.slot i → c ≠ Cell.arg d) → BackAt (q :: qs) (c :: cs1) (c' :: cs') ρ i := fun hb hq => by
        rcases back_get (cs' := cs') nd' e2 (fun k hk => agree k (List.mem_cons_of_mem _ hk)) hc' i with ⟨j, d, d', h1, h2, h3, h4⟩ | ⟨h1, h2⟩
        · exact .inl ⟨j + 1, d, d', by simpa using h1, by simpa using h2, by simpa using h3, by rw [hb]; exact h4⟩
        · refine .inr ⟨by rw [hb]; exact h1, fun j d hj => ?_⟩
          cases j with
          | zero =>
            intro z
            exact hq d (by simpa using hj) (by simpa using z)
          | succ j => simpa using h2 j d (by simpa using hj)
      cases q with
      | sh x => exact skip (by cases c' <;> rfl) fun d z => by cases z
      | new x => exact skip (by cases c' <;> rfl) fun d z => by cases z
      | slot k =>
        have ndk : k ∉ qs.filterMap slotIx := by
          rw [List.filterMap_cons] at nd
          exact (List.nodup_cons.mp (show (k :: qs.filterMap slotIx).Nodup from nd)).1
        have hk : ρ[k]? = ρ0[k]? := agree k List.mem_cons_self
        rcases lend1_cell e1 with ⟨d, rfl⟩ | ⟨d, rfl⟩
        · -- a frozen one
          have ck : ρ[k]? = some (Cell.sh d) := by
            rw [hk]
            unfold lend1 at e1
            dsimp only at e1
            cases c0 : ρ0[k]? with
            | none => rw [c0] at e1; cases e1
            | some cl => rw [c0] at e1; cases cl <;> first | (cases e1; rfl) | cases e1
          refine skip ?_ fun x z => by intro w; cases w
          cases c' with
          | arg x =>
            show back qs cs' (back1 k x ρ) = _
            have : back1 k x ρ = ρ := by unfold back1; rw [ck]
            rw [this]
          | _ => rfl
        · obtain ⟨d', z⟩ := hc 0 d rfl
          have z : c' = .arg d' := by simpa using z
          subst z
          have hb : back (.slot k :: qs) (.arg d' :: cs') ρ = back qs cs' (back1 k d' ρ) := rfl
          have agree' : ∀ m, RV.slot m ∈ qs → (back1 k d' ρ)[m]? = ρ0[m]? := fun m hm => by
            have hkm : k ≠ m := fun z => ndk (List.mem_filterMap.mpr ⟨_, hm, by rw [z]; rfl⟩)
            rw [back1_get, if_neg hkm]
            exact agree m (List.mem_cons_of_mem _ hm)
          have rest := back_get (cs' := cs') (ρ := back1 k d' ρ) nd' e2 agree' hc' i
          by_cases hki : k = i
          · subst hki
            have nk : ∀ j, qs[j]? ≠ some (RV.slot k) := fun j hj => ndk (List.mem_filterMap.mpr ⟨_, List.mem_of_getElem? hj, rfl⟩)
            rcases rest with ⟨j, _, _, h1, _⟩ | ⟨h1, h2⟩
            · exact absurd h1 (nk j)
            · rw [back1_get, if_pos rfl] at h1
              have ck : ρ[k]? = some (Cell.own d) ∨ ρ[k]? = some (Cell.arg d) := by
                rw [hk]
                unfold lend1 at e1
                dsimp only at e1
                cases c0 : ρ0[k]? with
                | none => rw [c0] at e1; cases e1
                | some cl =>
                  rw [c0] at e1
                  cases cl with
                  | un => cases e1
                  | sh x => cases e1
                  | own x => cases e1; exact .inl rfl
                  | arg x => cases e1; exact .inr rfl
              rcases ck with ck | ck
              · rw [ck] at h1
                exact .inl ⟨0, d, d', rfl, rfl, rfl, .inl ⟨ck, by rw [hb]; exact h1⟩⟩
              · rw [ck] at h1
                exact .inl ⟨0, d, d', rfl, rfl, rfl, .inr ⟨ck, by rw [hb]; exact h1⟩⟩
          · unfold BackAt at rest
            rw [back1_get, if_neg hki] at rest
            rcases rest with ⟨j, x, x', h1, h2, h3, h4⟩ | ⟨h1, h2⟩
            · exact .inl ⟨j + 1, x, x', by simpa using h1, by simpa using h2, by simpa using h3, by rw [hb]; exact h4⟩
            · refine .inr ⟨by rw [hb]; exact h1, fun j x hj => ?_⟩
              cases j with
              | zero => exact absurd (by simpa using hj) hki
              | succ j => simpa using h2 j x (by simpa using hj)
theorem back_length : ∀ {qs : List RV} {cs : List Cell} {ρ : Rho}, (back qs cs ρ).length = ρ.length
  | [], cs, ρ => by unfold back; rfl
  | q :: qs, [], ρ => by cases q <;> rfl
  | q :: qs, c :: cs, ρ => by
    have len1 : ∀ i d, (back1 i d ρ).length = ρ.length := fun i d => by
      unfold back1
      split
      · exact List.length_set
      · exact List.length_set
      · rfl
    cases q with
    | sh x => exact back_length (qs := qs) (cs := cs)
    | new x => exact back_length (qs := qs) (cs := cs)
    | slot i =>
      cases c with
      | arg d =>
        show (back qs cs (back1 i d ρ)).length = _
        rw [back_length, len1]
      | _ => exact back_length (qs := qs) (cs := cs)
/-- what the callee must leave as it is: all but what is lent -/
def keepH (H : Hp) (l : List Addr) : Hp := fun b => if b ∈ l then none else H b
theorem keepH_in {l : List Addr} {a : Addr} (h : a ∈ l) : keepH H l a = none := if_pos h
theorem keepH_out {l : List Addr} {a : Addr} (h : a ∉ l) : keepH H l a = H a := if_neg h
theorem keepH_le (H : Hp) (l : List Addr) : Same (keepH H l) H := fun b x e => by
  unfold keepH at e
  split at e
  · cases e
  · exact e
/-- behind the call -/
theorem sim_back {F' H' : Hp} {qs : List RV} {ys : List V} {cs cs' : List Cell} (s : Sim K F G avs σ ρ H) (hl : ys.length = qs.length) (h : Held K F G ρ σ H (ys.zip qs)) (e : lendC ρ qs = some cs) (nd : (qs.filterMap slotIx).Nodup)
    (x : Ext F (keepH H (lents ys cs)) F') (le : Same F' H') (kp : Same (keepH H (lents ys cs)) H') (b : BackOk K F' H' ys cs cs') : Ext F G F' ∧ Sim K F' G avs σ (back qs cs' ρ) H' := by
  have src := fun (a : Addr) (ha : a ∈ lents ys cs) => lents_src s hl h.ok e ha
  have gk : Same G (keepH H (lents ys cs)) := fun a o q => by
    by_cases ha : a ∈ lents ys cs
    · rw [(src a ha).1] at q
      cases q
    · rw [keepH_out ha]
      exact s.gl _ _ q
  have hc : ∀ (j : Nat) (d : D), cs[j]? = some (Cell.arg d) → ∃ d', cs'[j]? = some (Cell.arg d') := fun j d q => by
    obtain ⟨_, d', _, z, _⟩ := b j d q
    exact ⟨d', z⟩
  have bg : ∀ i, BackAt qs cs cs' ρ i := back_get nd e (fun _ _ => rfl) hc
  -- what a slot had before
  have was : ∀ (i : Nat) (d : D), Mu (back qs cs' ρ) i d → (∃ j d0, Mu ρ i d0 ∧ qs[j]? = some (RV.slot i) ∧ cs[j]? = some (Cell.arg d0) ∧ cs'[j]? = some (Cell.arg d)) ∨ (Mu ρ i d ∧ ∀ (j : Nat) (d : D), qs[j]? = some (RV.slot i) → cs[j]? ≠ some (Cell.arg d)) := fun i d m => by
    rcases bg i with ⟨j, d0, d', h1, h2, h3, h4⟩ | ⟨h1, h2⟩
    · refine .inl ⟨j, d0, ?_⟩
      rcases h4 with ⟨z1, z2⟩ | ⟨z1, z2⟩
      · rcases m with m | m
        · rw [z2] at m
          cases m
          exact ⟨.inl z1, h1, h2, h3⟩
        · rw [z2] at m
          cases m
      · rcases m with m | m
        · rw [z2] at m
          cases m
        · rw [z2] at m
          cases m
          exact ⟨.inr z1, h1, h2, h3⟩
    · refine .inr ⟨?_, h2⟩
      unfold Mu at m ⊢
      rw [h1] at m
      exact m
  have addr : ∀ (j i : Nat) (d : D) (a : Addr), qs[j]? = some (RV.slot i) → cs[j]? = some (Cell.arg d) → σ[i]? = some (some (V.ref a)) → ys[j]? = some (V.ref a) := fun j i d a h1 h2 h3 => by
    have hj : j < ys.length := by rw [hl]; exact (List.getElem?_eq_some_iff.mp h1).1
    have q := h.ok (ys[j], RV.slot i) (List.mem_of_getElem? (i := j) (by rw [List.getElem?_zip_eq_some]; exact ⟨List.getElem?_eq_getElem hj, h1⟩))
    have q : σ[i]? = some (some ys[j]) := q
    rw [h3] at q
    rw [List.getElem?_eq_getElem hj]
    exact congrArg some (Option.some.inj (Option.some.inj q)).symm
  refine ⟨⟨x.le, fun a n f => gk.free (x.new a n f)⟩, le, gk.trans kp, by rw [back_length]; exact s.ln, fun i d c => ?_, fun i d m => ?_, fun i d c => ?_, fun i j d d2 a n m1 m2 => ?_⟩
  · have c2 : ρ[i]? = some (Cell.sh d) := by
      rcases bg i with ⟨j, d0, d', h1, h2, h3, h4⟩ | ⟨h1, h2⟩
      · rcases h4 with ⟨z1, z2⟩ | ⟨z1, z2⟩
        · rw [z2] at c; cases c
        · rw [z2] at c; cases c
      · rw [← h1]; exact c
    obtain ⟨v, z1, z2⟩ := s.sh i d c2
    exact ⟨v, z1, z2.mono x.le⟩
  · rcases was i d m with ⟨j, d0, m0, h1, h2, h3⟩ | ⟨m0, no⟩
    · obtain ⟨a, z1, z2, z3, z4⟩ := s.ow i d0 m0
      obtain ⟨a', d', w1, w2, w3, w4⟩ := b j d0 h2
      rw [addr j i d0 a h1 h2 z1] at w1
      cases w1
      rw [h3] at w2
      cases w2
      exact ⟨a, z1, w3, w4, z4⟩
    · obtain ⟨a, z1, z2, z3, z4⟩ := s.ow i d m0
      have hn : a ∉ lents ys cs := fun hm => by
        obtain ⟨⟨v, cl⟩, q1, q2⟩ := List.mem_filterMap.mp hm
        unfold lent1 at q2
        split at q2
        · rename_i a' d3 e3
          cases q2
          cases e3
          obtain ⟨j, hj⟩ := List.getElem?_of_mem q1
          rw [List.getElem?_zip_eq_some] at hj
          have hjq : j < qs.length := by rw [← hl]; exact (List.getElem?_eq_some_iff.mp hj.1).1
          have ok := h.ok (V.ref a, qs[j]) (List.mem_of_getElem? (i := j) (by rw [List.getElem?_zip_eq_some]; exact ⟨hj.1, List.getElem?_eq_getElem hjq⟩))
          have lc : ∀ {qs : List RV} {cs : List Cell} {j : Nat} {q : RV} {c : Cell}, lendC ρ qs = some cs → qs[j]? = some q → cs[j]? = some c → lend1 ρ q = some c := fun {qs} => by
            induction qs with
            | nil => intro cs j q c h1 h2 h3; simp at h2
            | cons q0 qs ih =>
              intro cs j q c h1 h2 h3
              obtain ⟨c0, cs0, e1, e2, rfl⟩ := lendC_cons h1
              cases j with
              | zero => simp at h2 h3; subst h2 h3; exact e1
              | succ j => exact ih e2 (by simpa using h2) (by simpa using h3)
          have l1 := lc e (List.getElem?_eq_getElem hjq) hj.2
          obtain ⟨a2, ea, _, _, _, src2⟩ := lend1_ar s ok l1
          cases ea
          have src2 : (∃ i, qs[j] = RV.slot i ∧ Mu ρ i d3 ∧ σ[i]? = some (some (V.ref a))) ∨ qs[j] = RV.new d3 := src2
          rcases src2 with ⟨i2, e4, m2, z5⟩ | e4
          · by_cases hi : i = i2
            · subst hi
              exact no j d3 (by rw [List.getElem?_eq_getElem hjq, e4]) hj.2
            · exact s.ap i i2 d d3 a hi m0 m2 z1 z5
          · have ok : RvOk K F G ρ σ H (V.ref a) qs[j] := ok
            rw [e4] at ok
            obtain ⟨b2, eb, _, _, _, q5⟩ := ok
            cases eb
            exact q5 i d m0 z1
        · cases q2
      refine ⟨a, z1, z2.mono x.le fun o q => kp _ _ (by rw [keepH_out hn]; exact q), ?_, z4⟩
      cases f : F' a with
      | none => rfl
      | some o =>
        have := x.new a (by rw [f]; exact fun q => nomatch q) z3
        rw [keepH_out hn] at this
        exact absurd this z2.ne
  · have c2 : ∃ d0, ρ[i]? = some (Cell.arg d0) := by
      rcases bg i with ⟨j, d0, d', h1, h2, h3, h4⟩ | ⟨h1, h2⟩
      · rcases h4 with ⟨z1, z2⟩ | ⟨z1, z2⟩
        · rw [z2] at c; cases c
        · exact ⟨d0, z1⟩
      · rw [h1] at c; exact ⟨d, c⟩
    obtain ⟨d0, c2⟩ := c2
    exact s.ar i d0 c2
  · have m1' : ∃ d0, Mu ρ i d0 := by
      rcases was i d m1 with ⟨_, d0, m0, _⟩ | ⟨m0, _⟩
      · exact ⟨d0, m0⟩
      · exact ⟨d, m0⟩
    have m2' : ∃ d0, Mu ρ j d0 := by
      rcases was j d2 m2 with ⟨_, d0, m0, _⟩ | ⟨m0, _⟩
      · exact ⟨d0, m0⟩
      · exact ⟨d2, m0⟩
    obtain ⟨x1, m1'⟩ := m1'
    obtain ⟨x2, m2'⟩ := m2'
    exact s.ap i j x1 x2 a n m1' m2'
/-- the call's wish, by the callee's promise -/
theorem call_ok {Q : VK} {sem : Fn} {qs : List RV} {ys : List V} {n : Nat} (s : Sim K F G avs σ ρ H) (hl : ys.length = qs.length) (hn : ys.length = n) (h : Held K F G ρ σ H (ys.zip qs)) (p : EPost K mg G avs W σ Q F (callD sem qs ρ)) : spF n K mg sem ys H Q (WE W σ) := by
  unfold callD at p
  by_cases nd : (qs.filterMap slotIx).Nodup
  · rw [if_pos nd] at p
    cases e : lendC ρ qs with
    | none => rw [e] at p; exact p.elim
    | some cs =>
      rw [e] at p
      dsimp only at p
      refine ⟨hn, F, keepH H (lents ys cs), cs, s.le, keepH_le _ _, argL_of s hl h.ok e (fun a ha => keepH_in ha), lents_nd s hl h e nd, ?_⟩
      cases e2 : sem cs with
      | none => rw [e2] at p; exact p.elim
      | some z =>
        obtain ⟨o, cs'⟩ := z
        rw [e2] at p
        cases o with
        | exc x =>
          intro cls d F' H' x1 le kp b xo
          obtain ⟨x2, s2⟩ := sim_back s hl h e nd x1 le kp b
          exact p σ cls d F' H' x2 s2 xo
        | val r =>
          intro v F' H' x1 le kp b ok
          obtain ⟨x2, s2⟩ := sim_back s hl h e nd x1 le kp b
          refine p v F' H' x2 s2 ?_
          cases r with
          | sh d => exact ok
          | slot i => exact ok.elim
          | new d =>
            obtain ⟨a, ea, o1, o2, o3, o4⟩ := ok
            have ha : H a = none := by
              rw [keepH_out o4] at o3
              exact o3
            refine ⟨a, ea, o1, o2, s.gl.free ha, fun i d' m z => ?_⟩
            have m0 : ∃ d0, Mu ρ i d0 := by
              have hc : ∀ (j : Nat) (d : D), cs[j]? = some (Cell.arg d) → ∃ d', cs'[j]? = some (Cell.arg d') := fun j d q => by
                obtain ⟨_, d', _, z, _⟩ := b j d q
                exact ⟨d', z⟩
              rcases back_get nd e (fun _ _ => rfl) hc i with ⟨j, d0, d'', h1, h2, h3, h4⟩ | ⟨h1, h2⟩
              · rcases h4 with ⟨z1, _⟩ | ⟨z1, _⟩
                · exact ⟨d0, .inl z1⟩
                · exact ⟨d0, .inr z1⟩
              · refine ⟨d', ?_⟩
                unfold Mu at m ⊢
                rw [h1] at m
                exact m
            obtain ⟨d0, m0⟩ := m0
            obtain ⟨b0, z1, z2, _⟩ := s.ow i d0 m0
            rw [z] at z1
            cases z1
            exact z2.ne ha
  · rw [if_neg nd] at p
    exact p.elim
end
/-! ### the call of a def, by its name -/
section
variable {X : Cx} {W : WX} {k n : Nat} {f : Addr} {fd : FuncData} {ps ks : List Str} {sem : Fn} {x : Str} {p pos : Pos} {e : Expr} {es : List Expr} {kws : List Keyword} {fs gs : List (M RV)} {ms : List Bool}
theorem run_fnG {pins : List (Addr × Obj)} {σ : St} {H : Hp} {s : Shared} {Q : VK} {sp : Sp} {us : List Value} {vs : List V} (F : FnG X.prog X.w X.K X.mg X.base k f fd ps sp) (o : Ok k X W) (hb : Binds X.K fd ps []) (I : L2.Inv X pins σ H s) (r : Vals vs us) (h : sp vs H Q (WE W σ)) :
    wpAny (model X.prog X.w) X.A (call (.ref f) us) (EP X pins σ Q) X.xe s := by
  have hl : us.length = ps.length := by rw [← r.length]; exact F.len _ _ _ _ h
  have b := hb s us I.kIn (by rw [List.append_nil]; exact hl)
  rw [List.append_nil] at b
  refine wpAny_call (codeAny_mono (F.run X.A X.stack s H ⟨us, []⟩ us vs Q (WE W σ) o.room o.gd I.env0 b r h) fun r s' q => ?_)
  cases r with
  | error e => exact passAt o.tk σ pins H s e s' I q
  | ok fl =>
    cases fl with
    | ret u => exact I.after q
    | next => exact q.elim
    | brk => exact q.elim
    | cont => exact q.elim
/-- f(e, ..) -/
theorem se_call (F : FnG X.prog X.w X.K X.mg X.base k f fd ps (spF n X.K X.mg sem)) (o : Ok k X W) (hm : X.mg x = some (.ref f)) (hk : PySem.W.keepIn X.K (.ref f) = true) (hb : Binds X.K fd ps []) (hg : Gl X x) (ha : SA X W (e :: es) fs) (hn : fs.length = n := by rfl)
    (hdb : (x == ("__debug__" : Str)) = false := by decide) (he : starEach (e :: es) X.env = (false, eval e X.env) :: starEach es X.env := by rfl) (hpl : (backTo pos (starEach es X.env)).any (·.1) = false := by rfl) :
    SE X W (.Call (.Name x p) (e :: es) [] pos) (eF sem ms fs) := by
  have go : PE X (.Call (.Name x p) (e :: es) [] pos) (fun σ H Q => tAs X.K X.mg W fs σ H fun vs H1 => spF n X.K X.mg sem vs H1 Q (WE W σ)) := by
    refine ⟨fun pins s σ H Q I h => ?_⟩
    refine wpAny_Call_Name_kw (ld_glob I hg hm ?_ hdb)
    exact PySem.W.callWith_K (h₀ := X.base) I.ok.mod.kin hk (thn (ha.run pos pins s σ H _ I h) fun us s1 ⟨vs, H1, I1, r, q⟩ => ⟨I1.kIn, run_fnG F o hb I1 r q⟩) he hpl
  refine go.imp fun σ H Q ⟨F0, G, avs, ρ, s, q⟩ => ?_
  refine stepA EPost.rest s Held.nil q fun ys rs F1 ρ1 H1 l1 l2 x1 s1 h1 p1 => ?_
  obtain ⟨F2, ρ2, qs, x2, s2, l3, h2, p2⟩ := fzMask_ok (ws := []) EPost.rest l1 s1 (by simpa using h1) p1
  exact call_ok s2 l3 (by rw [l1, l2, hn]) (by simpa using h2) p2
theorem se_call0 (F : FnG X.prog X.w X.K X.mg X.base k f fd ps (spF n X.K X.mg sem)) (o : Ok k X W) (hm : X.mg x = some (.ref f)) (hk : PySem.W.keepIn X.K (.ref f) = true) (hb : Binds X.K fd ps []) (hg : Gl X x) (hn : 0 = n := by rfl) (hdb : (x == ("__debug__" : Str)) = false := by decide) :
    SE X W (.Call (.Name x p) [] [] pos) (eF sem [] []) := by
  have go : PE X (.Call (.Name x p) [] [] pos) (fun σ H Q => tAs X.K X.mg W [] σ H fun vs H1 => spF n X.K X.mg sem vs H1 Q (WE W σ)) := by
    refine ⟨fun pins s σ H Q I h => ?_⟩
    refine wpAny_Call_Name_kw (ld_glob I hg hm ?_ hdb)
    exact PySem.W.callWith_K0 I.kIn hk (run_fnG (us := []) (vs := []) F o hb I .nil h)
  refine go.imp fun σ H Q ⟨F0, G, avs, ρ, s, q⟩ => ?_
  refine stepA (fs := []) EPost.rest s Held.nil q fun ys rs F1 ρ1 H1 l1 l2 x1 s1 h1 p1 => ?_
  have l2 : rs.length = 0 := l2
  obtain ⟨F2, ρ2, qs, x2, s2, l3, h2, p2⟩ := fzMask_ok (ms := []) (ws := []) EPost.rest l1 s1 (by simpa using h1) p1
  exact call_ok s2 l3 (by rw [l1, l2]; exact hn) (by simpa using h2) p2
end
end Fd
/-! Fd, part 18: calls with keywords, the table, the end. -/
namespace Fd
open PySem PySem.Spec PyProof.Rows L2
/-! ### calls with keywords -/
def permL {α : Type} (perm : List Nat) (l : List α) : List α := perm.filterMap fun j => l[j]?
def eFK (sem : Fn) (ms : List Bool) (perm : List Nat) (fs : List (M RV)) : M RV := bnd (eS fs) fun rs => bnd (fzMask ms (permL perm rs)) fun qs => callD sem qs
theorem permL_zip {α β : Type} {xs : List α} {ys : List β} (h : xs.length = ys.length) : ∀ perm : List Nat, (permL perm xs).zip (permL perm ys) = permL perm (xs.zip ys)
  | [] => rfl
  | j :: perm => by
    have ih := permL_zip h perm
    unfold permL at ih ⊢
    rw [List.filterMap_cons, List.filterMap_cons, List.filterMap_cons]
    by_cases hj : j < xs.length
    · have hz : (xs.zip ys)[j]? = some (xs[j], ys[j]'(by omega)) := by
        rw [List.getElem?_zip_eq_some]
        exact ⟨List.getElem?_eq_getElem hj, List.getElem?_eq_getElem (by omega)⟩
      rw [List.getElem?_eq_getElem hj, List.getElem?_eq_getElem (show j < ys.length by omega), hz]
      show (xs[j] :: _).zip (ys[j]'(by omega) :: _) = (xs[j], ys[j]'(by omega)) :: _
      rw [List.zip_cons_cons, ih]
    · have hz : (xs.zip ys)[j]? = none := List.getElem?_eq_none (by rw [List.length_zip]; omega)
      rw [List.getElem?_eq_none (show xs.length ≤ j by omega), List.getElem?_eq_none (show ys.length ≤ j by omega), hz]
      exact ih
theorem permL_len {α : Type} {l : List α} : ∀ {perm : List Nat}, (∀ j ∈ perm, j < l.length) → (permL perm l).length = perm.length
  | [], _ => rfl
  | j :: perm, h => by
    have ih := permL_len (perm := perm) fun k hk => h k (List.mem_cons_of_mem _ hk)
    unfold permL at ih ⊢
    rw [List.filterMap_cons, List.getElem?_eq_getElem (h j List.mem_cons_self)]
    show (_ :: _).length = _
    rw [List.length_cons, List.length_cons, ih]
theorem tmps_at {l : List (V × RV)} {a : Addr} : ∀ {i j : Nat} {p q : V × RV}, (tmps l).Nodup → l[i]? = some p → l[j]? = some q → tmp p = some a → tmp q = some a → i = j := by
  intro i j p q
  induction l generalizing i j with
  | nil => intro _ h; simp at h
  | cons x l ih =>
    intro nd h1 h2 t1 t2
    have nd' : (tmps l).Nodup := by
      unfold tmps at nd ⊢
      rw [List.filterMap_cons] at nd
      split at nd
      · exact nd
      · exact (List.nodup_cons.mp nd).2
    have hd : tmp x = some a → a ∉ tmps l := fun t => by
      unfold tmps at nd
      rw [List.filterMap_cons, t] at nd
      exact (List.nodup_cons.mp nd).1
    cases i with
    | zero =>
      cases j with
      | zero => rfl
      | succ j =>
        simp at h1 h2
        subst h1
        exact absurd (List.mem_filterMap.mpr ⟨q, List.mem_of_getElem? h2, t2⟩) (hd t1)
    | succ i =>
      cases j with
      | zero =>
        simp at h1 h2
        subst h2
        exact absurd (List.mem_filterMap.mpr ⟨p, List.mem_of_getElem? h1, t1⟩) (hd t2)
      | succ j => exact congrArg Nat.succ (ih nd' (by simpa using h1) (by simpa using h2) t1 t2)
theorem held_perm {K : Fr} {F G H : Hp} {ρ : Rho} {σ : St} {l : List (V × RV)} (h : Held K F G ρ σ H l) : ∀ {perm : List Nat}, perm.Nodup → Held K F G ρ σ H (permL perm l)
  | [], _ => Held.nil
  | j :: perm, nd => by
    have ih := held_perm h (perm := perm) (List.nodup_cons.mp nd).2
    unfold permL at ih ⊢
    rw [List.filterMap_cons]
    cases e : l[j]? with
    | none => exact ih
    | some p =>
      refine ⟨fun q hq => ?_, ?_⟩
      · rcases List.mem_cons.mp hq with z | z
        · rw [z]; exact h.ok p (List.mem_of_getElem? e)
        · exact ih.ok q z
      · have nt := ih.nd
        unfold tmps at nt ⊢
        rw [List.filterMap_cons]
        split
        · exact nt
        · rename_i a ta
          refine List.nodup_cons.mpr ⟨fun hm => ?_, nt⟩
          obtain ⟨q, hq, tq⟩ := List.mem_filterMap.mp hm
          obtain ⟨i, hi, ei⟩ := List.mem_filterMap.mp hq
          have := tmps_at h.nd e ei ta tq
          subst this
          exact (List.nodup_cons.mp nd).1 hi
/-- how a call with keywords binds -/
def BindsP (K : Fr) (fd : FuncData) (ps : List Str) (n : Nat) (ks : List Str) (perm : List Nat) : Prop := ∀ (s : Shared) (us ws : List Value), K.In s.heap → us.length = n → ws.length = ks.length → BindsTo s fd ⟨us, ks.zip ws⟩ (ps.zip (permL perm (us ++ ws)))
theorem vals_perm {xs : List V} {us : List Value} (h : Vals xs us) : ∀ perm : List Nat, Vals (permL perm xs) (permL perm us)
  | [] => .nil
  | j :: perm => by
    have ih := vals_perm h perm
    unfold permL at ih ⊢
    rw [List.filterMap_cons, List.filterMap_cons]
    cases e : xs[j]? with
    | none =>
      have : us[j]? = none := by
        rw [List.getElem?_eq_none_iff] at e ⊢
        rw [← h.length]; exact e
      rw [this]
      exact ih
    | some x =>
      obtain ⟨u, hu, ru⟩ := h.get e
      rw [hu]
      exact .cons ru ih
section
variable {X : Cx} {W : WX} {k n : Nat} {f : Addr} {fd : FuncData} {ps ks : List Str} {sem : Fn} {x : Str} {p pos : Pos} {e : Expr} {es : List Expr} {kws : List Keyword} {fs gs : List (M RV)} {ms : List Bool} {perm : List Nat}
abbrev SK (X : Cx) (W : WX) (kws : List Keyword) (gs : List (M RV)) : Prop := PK X kws (tAs X.K X.mg W gs)
theorem sk_nil : SK X W [] [] := pk_nil
theorem sk_cons {nm : Option Str} {kpos : Pos} {f : M RV} (h : SE X W e f) (hr : SK X W kws gs) : SK X W (⟨nm, e, kpos⟩ :: kws) (f :: gs) := pk_cons h hr
theorem tAs_app {K : Fr} {mg : Str → Option Value} {σ : St} : ∀ {fs gs : List (M RV)} {H : Hp} {Q : List V → Hp → Prop}, tAs K mg W (fs ++ gs) σ H Q → tAs K mg W fs σ H fun vs H1 => vs.length = fs.length ∧ tAs K mg W gs σ H1 fun ws H2 => Q (vs ++ ws) H2
  | [], gs, H, Q, h => ⟨rfl, h⟩
  | f :: fs, gs, H, Q, h => tE_mono (fun x H1 z => by
    have ih := tAs_app (fs := fs) (gs := gs) z
    have mono : ∀ {fs : List (M RV)} {H : Hp} {Q Q' : List V → Hp → Prop}, (∀ vs H, Q vs H → Q' vs H) → tAs K mg W fs σ H Q → tAs K mg W fs σ H Q' := fun {fs} => by
      induction fs with
      | nil => intro H Q Q' hq z; exact hq _ _ z
      | cons g fs ih => intro H Q Q' hq z; exact tE_mono (fun y H1 z => ih (fun vs H h => hq _ _ h) z) z
    exact mono (fun vs H ⟨h1, h2⟩ => ⟨by rw [List.length_cons, List.length_cons, h1], h2⟩) ih) h
theorem tAs_len {K : Fr} {mg : Str → Option Value} {σ : St} : ∀ {fs : List (M RV)} {H : Hp} {Q : List V → Hp → Prop}, tAs K mg W fs σ H Q → tAs K mg W fs σ H fun vs H1 => vs.length = fs.length ∧ Q vs H1
  | [], H, Q, h => ⟨rfl, h⟩
  | f :: fs, H, Q, h => tE_mono (fun x H1 z => by
    have ih := tAs_len (fs := fs) z
    have mono : ∀ {fs : List (M RV)} {H : Hp} {Q Q' : List V → Hp → Prop}, (∀ vs H, Q vs H → Q' vs H) → tAs K mg W fs σ H Q → tAs K mg W fs σ H Q' := fun {fs} => by
      induction fs with
      | nil => intro H Q Q' hq z; exact hq _ _ z
      | cons g fs ih => intro H Q Q' hq z; exact tE_mono (fun y H1 z => ih (fun vs H h => hq _ _ h) z) z
    exact mono (fun vs H ⟨h1, h2⟩ => ⟨by rw [List.length_cons, List.length_cons, h1], h2⟩) ih) h
theorem run_fnP {pins : List (Addr × Obj)} {σ : St} {H : Hp} {s : Shared} {Q : VK} {sp : Sp} {us ws : List Value} {vs zs : List V} (F : FnG X.prog X.w X.K X.mg X.base k f fd ps sp) (o : Ok k X W) (hb : BindsP X.K fd ps n ks perm) (I : L2.Inv X pins σ H s) (r : Vals vs us) (rz : Vals zs ws) (l1 : vs.length = n) (l2 : zs.length = ks.length) (h : sp (permL perm (vs ++ zs)) H Q (WE W σ)) :
    wpAny (model X.prog X.w) X.A (call (.ref f) us (ks.zip ws)) (EP X pins σ Q) X.xe s := by
  refine wpAny_call (codeAny_mono (F.run X.A X.stack s H ⟨us, ks.zip ws⟩ (permL perm (us ++ ws)) (permL perm (vs ++ zs)) Q (WE W σ) o.room o.gd I.env0 (hb s us ws I.kIn (by rw [← r.length]; exact l1) (by rw [← rz.length]; exact l2)) (vals_perm (r.append rz) perm) h) fun r s' q => ?_)
  cases r with
  | error e => exact passAt o.tk σ pins H s e s' I q
  | ok fl =>
    cases fl with
    | ret u => exact I.after q
    | next => exact q.elim
    | brk => exact q.elim
    | cont => exact q.elim
theorem kw_ok {K : Fr} {mg : Str → Option Value} {σ : St} {H : Hp} {Q : VK} (h : tE K mg W (eFK sem ms perm (fs ++ gs)) σ H Q) (hp : perm.Nodup) (hr : ∀ j ∈ perm, j < (fs ++ gs).length) (hn : perm.length = n) :
    tAs K mg W fs σ H fun vs H1 => vs.length = fs.length ∧ tAs K mg W gs σ H1 fun ws H2 => ws.length = gs.length ∧ spF n K mg sem (permL perm (vs ++ ws)) H2 Q (WE W σ) := by
  obtain ⟨F0, G, avs, ρ, s, q⟩ := h
  have key : tAs K mg W (fs ++ gs) σ H fun ys H1 => spF n K mg sem (permL perm ys) H1 Q (WE W σ) := stepA EPost.rest s Held.nil q fun ys rs F1 ρ1 H1 l1 l2 x1 s1 h1 p1 => by
    have h1 : Held K F1 G ρ1 σ H1 (ys.zip rs) := by simpa using h1
    have hr1 : ∀ j ∈ perm, j < rs.length := fun j hj => by rw [l2]; exact hr j hj
    have l3 : (permL perm ys).length = (permL perm rs).length := by rw [permL_len hr1, permL_len fun j hj => by rw [l1]; exact hr1 j hj]
    have h2 : Held K F1 G ρ1 σ H1 ([] ++ (permL perm ys).zip (permL perm rs)) := by
      rw [List.nil_append, permL_zip l1]
      exact held_perm h1 hp
    obtain ⟨F2, ρ2, qs, x2, s2, l4, h3, p2⟩ := fzMask_ok EPost.rest l3 s1 h2 p1
    exact call_ok s2 l4 (by rw [l3, permL_len hr1, hn]) (by simpa using h3) p2
  have mono : ∀ {fs : List (M RV)} {H : Hp} {Q Q' : List V → Hp → Prop}, (∀ vs H, Q vs H → Q' vs H) → tAs K mg W fs σ H Q → tAs K mg W fs σ H Q' := fun {fs} => by
    induction fs with
    | nil => intro H Q Q' hq z; exact hq _ _ z
    | cons g fs ih => intro H Q Q' hq z; exact tE_mono (fun y H1 z => ih (fun vs H h => hq _ _ h) z) z
  exact mono (fun vs H ⟨h1, h2⟩ => ⟨h1, tAs_len h2⟩) (tAs_app key)
/-- f(e, .., k = v, ..) -/
theorem se_callK (F : FnG X.prog X.w X.K X.mg X.base k f fd ps (spF n X.K X.mg sem)) (o : Ok k X W) (hm : X.mg x = some (.ref f)) (hk : PySem.W.keepIn X.K (.ref f) = true) (hb : BindsP X.K fd ps fs.length ks perm) (hg : Gl X x) (ha : SA X W (e :: es) fs) (hw : SK X W kws gs) (hn : perm.length = n := by rfl) (hlk : gs.length = ks.length := by rfl)
    (hp : perm.Nodup := by decide) (hr : ∀ j ∈ perm, j < (fs ++ gs).length := by decide) (hall : (backToKw pos (keywordEach kws X.env)).all (·.1.isSome) = true := by rfl) (hks : (backToKw pos (keywordEach kws X.env)).filterMap (·.1) = ks := by rfl)
    (hdb : (x == ("__debug__" : Str)) = false := by decide) (he : starEach (e :: es) X.env = (false, eval e X.env) :: starEach es X.env := by rfl)
    (hpl : ((backTo pos (starEach (e :: es) X.env)).any (·.1) || (backToKw pos (keywordEach kws X.env)).any (·.1.isNone)) = false := by rfl) : SE X W (.Call (.Name x p) (e :: es) kws pos) (eFK sem ms perm (fs ++ gs)) := by
  refine ⟨fun pins s σ H Q I h => ?_⟩
  refine wpAny_Call_Name_kw (ld_glob I hg hm ?_ hdb)
  refine PySem.W.callWith_KW (h₀ := X.base) I.ok.mod.kin hk hall (thn (ha.run pos pins s σ H _ I (kw_ok h hp hr hn)) fun us s1 ⟨vs, H1, I1, r, l1, q⟩ => ?_) hpl he
  refine thn (hw.run pos pins s1 σ H1 _ I1 q) fun ws s2 ⟨zs, H2, I2, rz, l2, q2⟩ => ⟨I2.kIn, ?_⟩
  rw [hks]
  exact run_fnP F o hb I2 r rz l1 (by rw [l2, hlk]) q2
/-- f(k = v, ..) -/
theorem se_callK0 (F : FnG X.prog X.w X.K X.mg X.base k f fd ps (spF n X.K X.mg sem)) (o : Ok k X W) (hm : X.mg x = some (.ref f)) (hk : PySem.W.keepIn X.K (.ref f) = true) (hb : BindsP X.K fd ps 0 ks perm) (hg : Gl X x) (hw : SK X W kws gs) (hn : perm.length = n := by rfl) (hlk : gs.length = ks.length := by rfl)
    (hp : perm.Nodup := by decide) (hr : ∀ j ∈ perm, j < gs.length := by decide) (hall : (backToKw pos (keywordEach kws X.env)).all (·.1.isSome) = true := by rfl) (hks : (backToKw pos (keywordEach kws X.env)).filterMap (·.1) = ks := by rfl)
    (hdb : (x == ("__debug__" : Str)) = false := by decide)
    (hpl : ((backTo pos (starEach [] X.env)).any (·.1) || (backToKw pos (keywordEach kws X.env)).any (·.1.isNone)) = false := by rfl) : SE X W (.Call (.Name x p) [] kws pos) (eFK sem ms perm gs) := by
  refine ⟨fun pins s σ H Q I h => ?_⟩
  refine wpAny_Call_Name_kw (ld_glob I hg hm ?_ hdb)
  have q := kw_ok (fs := []) h hp hr hn
  refine PySem.W.callWith_KW0 (h₀ := X.base) I.ok.mod.kin hk hall (thn (hw.run pos pins s σ H _ I q.2) fun ws s2 ⟨zs, H2, I2, rz, l2, q2⟩ => ⟨I2.kIn, ?_⟩) hpl
  rw [hks]
  exact run_fnP (us := []) (vs := []) F o hb I2 .nil rz rfl (by rw [l2, hlk]) q2
end
/-! ### a table of the module, text keys -/
structure Table (K : Fr) (w : World) (d : Addr) (kvs : List (Str × Str)) : Prop where
  at_ : ∃ es n, KDict K w d es n
  there : ∀ x z, kvs.lookup x = some z → ∃ u, PySem.W.nsIn K d x = some (some u) ∧ RelV (.str z) u
  not : ∀ x, kvs.lookup x = none → PySem.W.nsIn K d x = some none
def opTabIn (kvs : List (Str × Str)) : D → Option RV
  | .str x => bl (kvs.lookup x).isSome
  | _ => none
def opTabNot (kvs : List (Str × Str)) : D → Option RV
  | .str x => bl (!(kvs.lookup x).isSome)
  | _ => none
def opTabIx (kvs : List (Str × Str)) : D → Option RV
  | .str x => (kvs.lookup x).map fun z => .sh (.str z)
  | _ => none
section
variable {X : Cx} {W : WX} {e : Expr} {fe : M RV} {d : Addr} {x : Str} {kvs : List (Str × Str)} {p pos : Pos}
theorem tab_get (T : Table X.K X.w d kvs) (z : Str) : ∃ r, PySem.W.nsIn X.K d z = some r ∧ r.isSome = (kvs.lookup z).isSome := by
  cases q : kvs.lookup z with
  | none => exact ⟨none, T.not z q, rfl⟩
  | some y =>
    obtain ⟨u, h1, _⟩ := T.there z y q
    exact ⟨some u, h1, rfl⟩
theorem se_tabNot (T : Table X.K X.w d kvs) (he : SE X W e fe) (hg : Gl X x) (hm : X.mg x = some (.ref d)) (hn : behindInMarks .NotIn (.Name x p) = false := by rfl) (hd : (x == ("__debug__" : Str)) = false := by decide) :
    SE X W (.Compare e [.NotIn] [.Name x p] pos) (eU (opTabNot kvs) fe) := by
  obtain ⟨es, n, D⟩ := T.at_
  refine (pe_cmpR (op_notIn_kd D) he (pe_glob (v := .ref d) hg hm rfl hd) hn).imp fun σ H Q ⟨F, G, avs, ρ, s, q⟩ => ?_
  refine tE_mono (fun y H1 z => ?_) (step EPost.rest s Held.nil q)
  obtain ⟨r, F1, ρ1, e1, s1, h1, p1⟩ := z
  obtain ⟨F2, dd, hF, rv, f⟩ := ap1_ok s1 (h1.ok (y, r) (by simp)) p1
  unfold opTabNot at f
  split at f
  · rename_i z
    have := repv_str rv
    obtain ⟨r, h1, h2⟩ := tab_get T z
    refine ⟨z, r, this, rfl, h1, ?_⟩
    rw [h2]
    exact fin_bl f hF
  · exact f.elim
theorem se_tabIn (T : Table X.K X.w d kvs) (he : SE X W e fe) (hg : Gl X x) (hm : X.mg x = some (.ref d)) (hn : behindInMarks .In (.Name x p) = false := by rfl) (hd : (x == ("__debug__" : Str)) = false := by decide) :
    SE X W (.Compare e [.In] [.Name x p] pos) (eU (opTabIn kvs) fe) := by
  obtain ⟨es, n, D⟩ := T.at_
  refine (pe_cmpR (op_in_kd D) he (pe_glob (v := .ref d) hg hm rfl hd) hn).imp fun σ H Q ⟨F, G, avs, ρ, s, q⟩ => ?_
  refine tE_mono (fun y H1 z => ?_) (step EPost.rest s Held.nil q)
  obtain ⟨r, F1, ρ1, e1, s1, h1, p1⟩ := z
  obtain ⟨F2, dd, hF, rv, f⟩ := ap1_ok s1 (h1.ok (y, r) (by simp)) p1
  unfold opTabIn at f
  split at f
  · rename_i z
    have := repv_str rv
    obtain ⟨r, h1, h2⟩ := tab_get T z
    refine ⟨z, r, this, rfl, h1, ?_⟩
    rw [h2]
    exact fin_bl f hF
  · exact f.elim
theorem se_tabIx (T : Table X.K X.w d kvs) (he : SE X W e fe) (hg : Gl X x) (hm : X.mg x = some (.ref d)) (hs : PlainIx e) (hd : (x == ("__debug__" : Str)) = false := by decide) :
    SE X W (.Subscript (.Name x p) e pos) (eU (opTabIx kvs) fe) := by
  obtain ⟨es, n, D⟩ := T.at_
  refine (pe_ix ix_kdict (pe_glob (v := .ref d) hg hm rfl hd) he hs).imp fun σ H Q ⟨F, G, avs, ρ, s, q⟩ => ?_
  refine tE_mono (fun y H1 z => ?_) (step EPost.rest s Held.nil q)
  obtain ⟨r, F1, ρ1, e1, s1, h1, p1⟩ := z
  obtain ⟨F2, dd, hF, rv, f⟩ := ap1_ok s1 (h1.ok (y, r) (by simp)) p1
  unfold opTabIx at f
  split at f
  · rename_i z
    have := repv_str rv
    cases q : kvs.lookup z with
    | none => rw [q] at f; exact f.elim
    | some y0 =>
      rw [q] at f
      obtain ⟨u, h1, h2⟩ := T.there z y0 q
      exact ⟨d, z, .str y0, rfl, this, ⟨es, n, u, D.at_, D.lit, h1, h2⟩, fin_str f hF⟩
  · exact f.elim
end
/-- the table, from what the head looks at -/
theorem table_of {K : Fr} {w : World} {d : Addr} {kvs : List (Str × Str)} (h : He.dicW K d = some (He.keysIn w.params (kvs.map (·.1)))) (hv : He.valsB K d (kvs.map fun q => (q.1, He.Dv.str q.2)) = true) : Table K w d kvs := by
  obtain ⟨es, n, D⟩ := He.dicW_ok h
  have keys : es.toList.map He.keyOf = He.keysIn w.params (kvs.map (·.1)) := by
    have h2 := h
    unfold He.dicW at h2
    rw [D.at_] at h2
    dsimp only at h2
    split at h2
    · exact Option.some.inj h2
    · cases h2
  have entries : ∀ {l : List DictEntry} {ks : List Str}, l.map He.keyOf = He.keysIn w.params ks → ∀ b ∈ l, ∃ k t, k ∈ ks ∧ b.key = Value.str k t := fun {l} => by
    induction l with
    | nil => intro ks _ b hb; cases hb
    | cons b0 l ih =>
      intro ks e b hb
      cases ks with
      | nil => cases e
      | cons k ks =>
        have e : He.keyOf b0 :: l.map He.keyOf = some (k, PyData.keyHash w.params k) :: He.keysIn w.params ks := e
        injection e with e1 e2
        rcases List.mem_cons.mp hb with z | z
        · subst z
          unfold He.keyOf at e1
          split at e1
          · rename_i y t q
            have e3 := Option.some.inj e1
            obtain ⟨e4, _⟩ := Prod.mk.inj e3
            exact ⟨k, t, List.mem_cons_self, by rw [q, e4]⟩
          · cases e1
        · obtain ⟨k', t, m, q⟩ := ih e2 b z
          exact ⟨k', t, List.mem_cons_of_mem _ m, q⟩
  refine ⟨⟨es, n, D⟩, fun x z hz => ?_, fun x hx => ?_⟩
  · have mem : ∀ {l : List (Str × Str)}, l.lookup x = some z → (x, z) ∈ l := fun {l} => by
      induction l with
      | nil => intro h; cases h
      | cons q l ih =>
        intro h
        rw [List.lookup_cons] at h
        split at h
        · rename_i e
          cases h
          have : x = q.1 := by simpa using e
          rw [this]
          exact List.mem_cons_self
        · exact List.mem_cons_of_mem _ (ih h)
    obtain ⟨u, h1, h2⟩ := He.valsB_ok hv (q := (x, He.Dv.str z)) (List.mem_map.mpr ⟨(x, z), mem hz, rfl⟩)
    exact ⟨u, h1, h2⟩
  · have no : ∀ b ∈ es.toList, b.key.isStr x = false ∧ b.refKey = false := fun b hb => by
      obtain ⟨k, t, m, q⟩ := entries keys b hb
      have hk : k ≠ x := fun e => by
        subst e
        have look : ∀ {l : List (Str × Str)}, k ∈ l.map (·.1) → l.lookup k ≠ none := fun {l} => by
          induction l with
          | nil => intro h; cases h
          | cons q l ih =>
            intro h z
            rw [List.lookup_cons] at z
            split at z
            · cases z
            · rename_i e
              rcases List.mem_cons.mp h with w | w
              · rw [w] at e
                simp at e
              · exact ih w z
        exact look m hx
      refine ⟨?_, ?_⟩
      · rw [q]
        exact decide_eq_false hk
      · unfold DictEntry.refKey
        rw [q]
    unfold PySem.W.nsIn
    rw [D.at_]
    dsimp only
    rw [List.find?_eq_none.mpr fun b hb => by rw [(no b hb).1]; exact Bool.false_ne_true]
    dsimp only
    rw [if_neg]
    rw [List.any_eq_true]
    rintro ⟨b, hb, z⟩
    rw [(no b hb).2] at z
    cases z
/-! ### the end -/
theorem vals_int : ∀ {vs : List Value} {ns : List Int}, IntsAre vs ns → Vals (ns.map V.int) vs
  | _, _, .nil => .nil
  | _, _, .cons n t h => .cons ⟨t, rfl⟩ (vals_int h)
end Fd
/-! Fd, part 19: the end of a law. -/
namespace Fd
open PySem PySem.Spec PyProof.Rows L2
/-- what the law's own def must answer -/
def LawSem (most : Nat) (sem : Fn) : Prop := ∀ ns : List Int, ns.length ≤ most → (∀ z ∈ ns, Builtin.Int.intBits z ≤ 1048576) → ∃ cs, sem [.sh (.list (ns.map .int))] = some (.val (.sh (.bool true)), cs)
theorem no_exc {P : Program} {w : World} {H : Hp} {s : Shared} {e : Value} {s' : Shared} (h : L2.CX P w [] H s (fun _ _ _ => False) e s') : False := by
  obtain ⟨_, _, _, _, _, _, _, _, _, _, _, _, z⟩ := h
  exact z
theorem law_end {P : Program} {w : World} {K : Fr} {mg mb : Str → Option Value} {k most : Nat} {fa a : Addr} {fd : FuncData} {x : Str} {sem : Fn} {s₁ : Shared} {vs : List Value} {ns : List Int}
    (kin : K.In s₁.heap) (hns : s₁.heap.Ns mainGlobals mg) (hmb : s₁.heap.Ns builtinsNs mb) (hbb : ∀ y : Str, y ≠ "__name__" → mb y = bootBuiltins y) (nolim : s₁.heap.NoLimit) (gens : s₁.gens = #[])
    (obj : s₁.heap.get? a = some { cls := .type "list", data := .seq vs.toArray }) (hints : IntsAre vs ns) (hl : ns.length ≤ sizeLine) (room : Room k callerA)
    (F : ∀ base : Heap, K.In base → base.Ns mainGlobals mg → FnG P w K mg base k fa fd [x] (spF 1 K mg sem)) (bind : ∀ (s : Shared) (u : Value), BindsTo s fd ⟨[u], []⟩ [(x, u)])
    (L : LawSem most sem) (hm : ns.length ≤ most) (bits : ∀ z ∈ ns, Builtin.Int.intBits z ≤ 1048576) :
    codeAny (model P w) callerA (.call (.ref fa) ⟨[.ref a], []⟩) (fun r s' => r = .ok (.ret (.bool true)) ∧ OldK s₁.heap s'.heap ∧ s'.os = s₁.os ∧ AllBare s'.gens) s₁ := by
  have vals := vals_int hints
  have lens := hints.length
  have core : ∀ H : Hp, Only H → SqL K H a (ns.map V.int) → HOk P w H s₁.heap → (∀ b, H b ≠ none → b = a) → (H a ≠ none → K.lookup a = none) →
      codeAny (model P w) callerA (.call (.ref fa) ⟨[.ref a], []⟩) (fun r s' => r = .ok (.ret (.bool true)) ∧ OldK s₁.heap s'.heap ∧ s'.os = s₁.os ∧ AllBare s'.gens) s₁ := by
    intro H only sq ok one two
    have hid : ∀ {b : Addr} {o : Obj}, s₁.heap.get? b = some o → H b = none → (hidT s₁.heap H).get? b = some o := fun e n => hidT_get e n
    have dictN : ∀ {b : Addr} {o : Obj} {es : Array DictEntry} {ep : Nat}, s₁.heap.get? b = some o → o.data = .dict es ep → H b = none := fun {b o es ep} e d => by
      cases q : H b with
      | none => rfl
      | some u =>
        have eb : b = a := one b (by rw [q]; exact fun z => nomatch z)
        subst eb
        rw [obj] at e
        cases e
        have dd : Data.seq vs.toArray _ = Data.dict es ep := d
        cases dd
    have spaces : ∀ {b : Addr} {m : Str → Option Value}, s₁.heap.Ns b m → (hidT s₁.heap H).Ns b m := fun {b m} ⟨o, es, ep, e, d, r⟩ => ⟨o, es, ep, hid e (dictN e d), d, r⟩
    have kb : K.In (hidT s₁.heap H) := fun b o e => hid (kin b o e) (by
      cases q : H b with
      | none => rfl
      | some u =>
        have eb : b = a := one b (by rw [q]; exact fun z => nomatch z)
        subst eb
        rw [two (by rw [q]; exact fun z => nomatch z)] at e
        cases e)
    have md : Mod K mg (hidT s₁.heap H) := ⟨kb, spaces hns, ⟨mb, spaces hmb, hbb⟩, let ⟨mc, h1, h2⟩ := nolim; ⟨mc, spaces h1, h2⟩⟩
    have env : Env0 P w K mg (hidT s₁.heap H) callerA [] s₁ H := ⟨rfl, md, fun b o e => of_hidT e, Nat.le_of_eq (hidT_size _ _), trivial, fun b hb => absurd (show b ∈ ([] : List Addr) from hb) (by simp), ok, .of_eq gens⟩
    have wish : spF 1 K mg sem [V.ref a] H (fun v _ => v = V.bl true) fun _ _ _ => False := by
      obtain ⟨cs, hcs⟩ := L ns hm bits
      refine ⟨rfl, H, H, [.sh (.list (ns.map .int))], Same.refl H, Same.refl H, .sh (.lst sq (RepL.ints ns)) .nil, ?_, ?_⟩
      · show ([] : List Addr).Nodup
        exact List.nodup_nil
      · rw [hcs]
        intro v F' H' _ _ _ _ r
        cases (show Rep K F' v (.bool true) from r)
        rfl
    refine codeAny_mono ((F _ kb (spaces hns)).run callerA [] s₁ H ⟨[.ref a], []⟩ [.ref a] [.ref a] _ _ room rfl env (bind s₁ (.ref a)) (.cons rfl .nil) wish) fun r s' h => ?_
    cases r with
    | error e => exact (no_exc h).elim
    | ok fl =>
      cases fl with
      | next => exact h.elim
      | brk => exact h.elim
      | cont => exact h.elim
      | ret u =>
        obtain ⟨v, H', os, bare, un, ok', rv, q⟩ := h
        have q : v = V.bl true := q
        subst q
        obtain rfl : u = Value.bool true := rv
        refine ⟨rfl, OldK.of_keep fun b o e => ?_, os, bare⟩
        cases q : H b with
        | none => exact un.keep b o e q (by intro z; exact absurd (show b ∈ ([] : List Addr) from z) (by simp)) (by simp)
        | some u =>
          rcases only b with z | ⟨ob, xs, z⟩
          · rw [q] at z
            cases z
          · have fz := un.frzs b ob _ z
            obtain ⟨e1, _⟩ := ok b _ z
            obtain ⟨e2, _⟩ := ok' b _ fz
            rw [e] at e1
            cases e1
            exact e2
  cases hk : K.lookup a with
  | some o =>
    have e := kin a o hk
    rw [obj] at e
    cases e
    refine core (fun _ => none) (fun _ => .inl rfl) (.inr ⟨_, vs.toArray, _, hk, rfl, rfl, rfl, by rw [List.size_toArray, lens]; exact hl, by simpa using vals⟩) (fun b u z => ?_) (fun b z => absurd rfl z) fun z => absurd rfl z
    have z : (none : Option HO) = some u := z
    cases z
  | none =>
    refine core (fun b => if b = a then some (.frz { cls := .type "list", data := .seq vs.toArray } (.lst (ns.map V.int))) else none) (fun b => ?_) (.inl (.inr ⟨{ cls := .type "list", data := .seq vs.toArray }, if_pos rfl⟩)) (fun b u z => ?_) (fun b z => ?_) fun _ => hk
    · by_cases hb : b = a
      · exact .inr ⟨_, _, if_pos hb⟩
      · exact .inl (if_neg hb)
    · by_cases hb : b = a
      · have zz := (if_pos hb).symm.trans z
        cases zz
        subst hb
        exact ⟨obj, by rw [List.length_map]; exact hl, vs, _, vals, obj⟩
      · have zz := (if_neg hb).symm.trans z
        cases zz
    · by_cases hb : b = a
      · exact hb
      · exact absurd (if_neg hb) z
/-- the goal that the head leaves -/
theorem walk_end {l : PySem.W.OpenLaw} {n k : Nat} {q : Program} {loose : List Str} {XP : (Str → Option Value) → Heap → Prop} {YP : World → Heap → Prop} {d : DefRec} {x : Str} {sem : Fn}
    (hn : l.most = some n) (hs : n ≤ sizeLine) (hdf : d.params.defaults = []) (room : Room k callerA) (L : LawSem n sem)
    (F : ∀ (w : World) (mg : Str → Option Value) (fa : Addr) (h : Heap), YP w h → h.Ns mainGlobals mg → mg d.name = some (.ref fa) → ∃ K : Fr, K.In h ∧ ∃ fd : FuncData, (∀ (s : Shared) (u : Value), BindsTo s fd ⟨[u], []⟩ [(x, u)]) ∧
      ∀ base : Heap, K.In base → base.Ns mainGlobals mg → FnG l.prog w K mg base k fa fd [x] (spF 1 K mg sem)) : PySem.W.WalkO q loose XP YP l.row.toRowW d [] (fun f vs => PySem.call f vs) := by
  refine Att.attach_callB hn hdf fun w s₀ s₁ mg mb fa o pm cd doc a vs ns G Y ho hd hcd hmg hobj hints hlen hbits hg => ?_
  obtain ⟨K, kin, fd, hb, hF⟩ := F w mg fa _ Y G.T.g hmg
  exact law_end kin G.T.g G.T.b G.T.builtins G.T.nolimit hg hobj hints (Nat.le_trans hlen hs) room hF hb L hlen hbits
/-! ### the Hook: facts, defs, one table with its values -/
abbrev AlV : Type := He.AlT × Bool
/-- the table's name and its values -/
def obsV (fa : List He.Fa) (fn : List He.DefD) (ts : List He.Tab) (x : Str) (kvs : List (Str × Str)) (K : Fr) : AlV := (He.obsT fa fn ts K, He.valsB K (He.ga K x) (kvs.map fun q => (q.1, He.Dv.str q.2)))
def obsVG (n : Nat) (fa : List He.Fa) (fn : List He.DefD) (ts : List He.Tab) (x : Str) (kvs : List (Str × Str)) (g : Addr → Option Obj) : AlV := obsV fa fn ts x kvs (He.frG g (He.asD g n))
def SaysV (fa : List He.Fa) (fn : List He.DefD) (ts : List He.Tab) (x : Str) (kvs : List (Str × Str)) (w : World) (K : Fr) : Prop := obsV fa fn ts x kvs K = (He.valT fn ts w, true)
def hookV (n : Nat) (fa : List He.Fa) (fn : List He.DefD) (ts : List He.Tab) (x : Str) (kvs : List (Str × Str)) : PySem.W.Hook where
  α := AlV
  obs := fun s => obsVG n fa fn ts x kvs s.heap.get?
  val := fun w => (He.valT fn ts w, true)
  says := fun w h => ∃ K : Fr, K.In h ∧ SaysV fa fn ts x kvs w K
  of := fun _ _ e => ⟨_, He.frG_in, e⟩
  keeps := fun _ _ _ ⟨K, hK, c⟩ k => ⟨K, PySem.W.Frag.In.keeps hK k, c⟩
theorem obsVG_eq {n : Nat} {fa : List He.Fa} {fn : List He.DefD} {ts : List He.Tab} {x : Str} {kvs : List (Str × Str)} {g : Addr → Option Obj} {s : Shared} (h : ∀ a, g a = s.heap.get? a) : obsVG n fa fn ts x kvs g = (hookV n fa fn ts x kvs).obs s := by
  have e : g = s.heap.get? := funext h
  rw [e] <;> rfl
section
variable {fa : List He.Fa} {fn : List He.DefD} {x : Str} {kvs : List (Str × Str)} {w : World} {K : Fr}
theorem SaysV.t {ts : List He.Tab} (c : SaysV fa fn ts x kvs w K) : He.SaysT fa fn ts w K := congrArg (fun z : AlV => z.1) c
theorem SaysV.table (c : SaysV fa fn [(fun K => He.ga K x, kvs.map (·.1))] x kvs w K) : Table K w (He.ga K x) kvs := by
  have v : He.valsB K (He.ga K x) (kvs.map fun q => (q.1, He.Dv.str q.2)) = true := congrArg (fun z : AlV => z.2) c
  have e : ([(fun K => He.ga K x, kvs.map (·.1))] : List He.Tab).map (fun t => He.dicW K (t.1 K)) = ([(fun K => He.ga K x, kvs.map (·.1))] : List He.Tab).map fun t => some (He.keysIn w.params t.2) := congrArg (fun z : He.AlT => z.2) c.t
  have e2 := (List.cons.inj e).1
  exact table_of e2 v
end
end Fd
/-! Fd, part 20: words for the printed walks. -/
namespace Fd
open PySem PySem.Spec PyProof.Rows L2
abbrev FnP (K : Fr) (x : Str) (st : Stmt) (f : Addr) (fd : FuncData) (kws : List (Str × V) := []) : Prop := FunD K x x (defArgs st) (defBody st) (defScope st) [] kws f fd
theorem Ok.u64 {k : Nat} {X : Cx} {W : WX} (o : Ok k X W) : X.A.units + 64 < cLine := by have := o.room.un; omega
theorem Ok.u65 {k : Nat} {X : Cx} {W : WX} (o : Ok k X W) : X.A.units + 65 < cLine := by have := o.room.un; omega
theorem Ok.u80 {k : Nat} {X : Cx} {W : WX} (o : Ok k X W) : X.A.units + 80 < cLine := by have := o.room.un; omega
theorem Ok.u1 {k : Nat} {X : Cx} {W : WX} (o : Ok k X W) : X.A.units + 1 < cLine := by have := o.room.un; omega
section
variable {X : Cx} {W : WX} {e : Expr} {fe : M RV} {d : Addr} {x : Str} {kvs : List (Str × Str)} {p pos : Pos}
theorem st_tabNot (T : Table X.K X.w d kvs) (he : SE X W e fe) (hg : Gl X x) (hm : X.mg x = some (.ref d)) (hn : behindInMarks .NotIn (.Name x p) = false := by rfl) (hd : (x == ("__debug__" : Str)) = false := by decide) :
    ST X W (.Compare e [.NotIn] [.Name x p] pos) (tst (eU (opTabNot kvs) fe)) := by
  obtain ⟨es, n, D⟩ := T.at_
  refine (pt_cmpR (op_notIn_kd D) he (pe_glob (v := .ref d) hg hm rfl hd) hn).imp fun σ H Q h => ?_
  refine tE_mono (fun y H1 z => ?_) (one_ok (tst_ok h))
  obtain ⟨F2, dd, hF, rv, f⟩ := z
  unfold opTabNot at f
  split at f
  · rename_i z
    have := repv_str rv
    obtain ⟨r, h1, h2⟩ := tab_get T z
    refine ⟨z, r, this, rfl, h1, ?_⟩
    rw [h2]
    exact fin_bl f hF
  · exact f.elim
theorem st_tabIn (T : Table X.K X.w d kvs) (he : SE X W e fe) (hg : Gl X x) (hm : X.mg x = some (.ref d)) (hn : behindInMarks .In (.Name x p) = false := by rfl) (hd : (x == ("__debug__" : Str)) = false := by decide) :
    ST X W (.Compare e [.In] [.Name x p] pos) (tst (eU (opTabIn kvs) fe)) := by
  obtain ⟨es, n, D⟩ := T.at_
  refine (pt_cmpR (op_in_kd D) he (pe_glob (v := .ref d) hg hm rfl hd) hn).imp fun σ H Q h => ?_
  refine tE_mono (fun y H1 z => ?_) (one_ok (tst_ok h))
  obtain ⟨F2, dd, hF, rv, f⟩ := z
  unfold opTabIn at f
  split at f
  · rename_i z
    have := repv_str rv
    obtain ⟨r, h1, h2⟩ := tab_get T z
    refine ⟨z, r, this, rfl, h1, ?_⟩
    rw [h2]
    exact fin_bl f hF
  · exact f.elim
end
/-- a def of the text that keeps its promise -/
structure DefOk (P : Program) (w : World) (K : Fr) (mg : Str → Option Value) (base : Heap) (k : Nat) (x : Str) (st : Stmt) (ps : List Str) (sem : Fn) (kws : List (Str × V) := []) : Prop where
  ex : ∃ f fd, mg x = some (.ref f) ∧ FnP K x st f fd kws ∧ FnG P w K mg base k f fd ps (spF ps.length K mg sem)
section
variable {X : Cx} {W : WX} {pos : Pos}
theorem sp_name (i : Nat) {x : Str} (hN : X.N.Nodup) (hi : X.N[i]? = some x := by rfl) (hx : Loc X.env.scope x := by first | exact Or.inl rfl | exact Or.inr rfl) (hf : X.fn x = true ∨ X.env.scope.names.lookup x = some .local := by first | exact .inl rfl | exact .inr rfl | assumption) : PG X (.Name x pos) (patG X.K (.nm i)) := pg_name hN hi hx hf
theorem sps_nil : PGs X [] (patGs X.K []) := pgs_nil
theorem sps_cons {e : Expr} {es : List Expr} {p : Pat} {ps : List Pat} (h : PG X e (patG X.K p)) (hs : PGs X es (patGs X.K ps)) (ha : (assignEach (e :: es) X.env).map (·.2) = assign e X.env :: (assignEach es X.env).map (·.2) := by rfl) : PGs X (e :: es) (patGs X.K (p :: ps)) := pgs_cons h hs ha
theorem sp_tup {es : List Expr} {k : Nat} {ps : List Pat} (hc : X.calm = true) (h : PGs X es (patGs X.K ps)) (hn : (assignEach es X.env).length = ps.length := by rfl) (hst : (assignEach es X.env).findIdx? (·.1) = none := by rfl) : PG X (.Tuple es k pos) (patG X.K (.tp ps)) := pg_tup hc h hn hst
theorem se_const {x : Str} {i : Int} (hg : Gl X x) (hm : ∃ t, X.mg x = some (.int i t)) (hd : (x == ("__debug__" : Str)) = false := by decide) : SE X W (.Name x pos) (eC (.int i)) := by
  obtain ⟨t, h⟩ := hm
  exact se_glob hg h hd
end
end Fd
namespace Fd
open PySem PySem.Spec PyProof.Rows L2
theorem bindsP_of {K : Fr} {x : Str} {st : Stmt} {f : Addr} {fd : FuncData} {ps : List Str} {n : Nat} {ks : List Str} {perm : List Nat} {kws : List (Str × V)} (F : FnP K x st f fd kws)
    (h : ∀ (kV doc pm : Value) (an : Option Addr) (cdv ct : Value) (us ws : List Value), us.length = n → ws.length = ks.length → bindArgs (PySem.W.fnOf x x (defArgs st) (defBody st) (defScope st) .none kV doc pm an cdv ct) ⟨us, ks.zip ws⟩ = pure (ps.zip (permL perm (us ++ ws)))) : BindsP K fd ps n ks perm := fun s us ws _ h1 h2 => by
  obtain ⟨oc, od, dV, kV, doc, pm, an, cdv, ct, osl, rfl, lk, hcd, hD, hK⟩ := F.ex
  rcases hD with ⟨_, rfl⟩ | ⟨e, _⟩
  · exact .of_eq (h kV doc pm an cdv ct us ws h1 h2)
  · exact absurd rfl e
end Fd
/-! Fd, part 22: chains of three comparisons. -/
namespace Fd
open PySem PyProof.Rows L2
def lnk (op : D → D → Option RV) (a b : RV) (go : M RV) : M RV := bnd (ap2 op a b) fun r => match r with
  | .sh (.bool true) => go
  | .sh (.bool false) => ret (.sh (.bool false))
  | _ => stk
def eCh3 (op op' op'' : D → D → Option RV) (fa fb fc fd : M RV) : M RV := bnd fa fun a => bnd fb fun b => lnk op a b (bnd fc fun c => lnk op' b c (bnd fd fun d => ap2 op'' c d))
section
variable {X : Cx} {W : WX} {a b c e : Expr} {fa fb fc fd f : M RV} {pos : Pos} {K : Fr} {mg : Str → Option Value} {σ : St} {H : Hp}
def tLink (r : R2) (x y : V) (go : Hp → VK → Prop) : Hp → VK → Prop := fun H Q => r x y H fun z H3 => ∃ k, z = .bl k ∧ (if k = true then go H3 Q else Q (.bl false) H3)
def tChain3 (r r' r'' : R2) (ta tb tc td : TE) : TE := fun σ H Q => ta σ H fun x H1 => tb σ H1 fun y H2 => tLink r x y (fun H3 Q => tc σ H3 fun w H4 => tLink r' y w (fun H5 Q => td σ H5 fun v H6 => r'' w v H6 Q) H4 Q) H2 Q
theorem pe_chain3 {op op' op'' : CmpOp} {r r' r'' : R2} {d : Expr} {ta tb tc td : TE} (ho : OpR X (compareOp op) r) (ho' : OpR X (compareOp op') r') (ho2 : OpR X (compareOp op'') r'') (ha : PE X a ta) (hb : PE X b tb) (hc : PE X c tc) (hd : PE X d td)
    (hm : lastMarks [op, op', op''] [b, c, d] = false := by with_unfolding_all rfl) : PE X (.Compare a [op, op', op''] [b, c, d] pos) (tChain3 r r' r'' ta tb tc td) := by
  refine ⟨fun pins s σ H Q I h => ?_⟩
  refine Compare_chain (thn (ha.run pins s σ H _ I h) fun v s1 ⟨x, H1, I1, r1, q1⟩ => chain_link (thn (hb.run pins s1 σ H1 _ I1 q1) fun u s2 ⟨y, H2, I2, r2, q2⟩ =>
    thn (ho pins s2 σ H2 x y v u _ I2 r1 r2 q2) fun d s3 ⟨z, H3, I3, r3, k, e, q3⟩ => ?_)) hm
  subst e
  cases r3
  refine wpAny_truthy_bool ?_
  cases k with
  | false => exact ite_ff ⟨.bl false, H3, I3, rfl, q3⟩
  | true =>
    refine ite_tt (chain_link (thn (hc.run pins s3 σ H3 _ I3 q3) fun u' s4 ⟨y', H4, I4, r4, q4⟩ => thn (ho' pins s4 σ H4 y y' u u' _ I4 r2 r4 q4) fun d' s5 ⟨z', H5, I5, r5, k', e', q5⟩ => ?_))
    subst e'
    cases r5
    refine wpAny_truthy_bool ?_
    cases k' with
    | false => exact ite_ff ⟨.bl false, H5, I5, rfl, q5⟩
    | true => exact ite_tt (chain_last (thn (hd.run pins s5 σ H5 _ I5 q5) fun w' s6 ⟨z2, H6, I6, r6, q6⟩ => ho2 pins s6 σ H6 y' z2 u' w' Q I6 r4 r6 q6))
theorem pt_chain3 {op op' op'' : CmpOp} {r r' r'' : R2} {d : Expr} {ta tb tc td : TE} (ho : OpR X (compareOp op) r) (ho' : OpR X (compareOp op') r') (ho2 : OpR X (compareOp op'') r'') (ha : PE X a ta) (hb : PE X b tb) (hc : PE X c tc) (hd : PE X d td)
    (hm : lastMarks [op, op', op''] [b, c, d] = false := by with_unfolding_all rfl) : PT X (.Compare a [op, op', op''] [b, c, d] pos) (tTest (tChain3 r r' r'' ta tb tc td)) := by
  refine ⟨fun pins s σ H Q I h => ?_⟩
  refine isTrue_chain (thn (ha.run pins s σ H _ I h) fun v s1 ⟨x, H1, I1, r1, q1⟩ => test_link (thn (hb.run pins s1 σ H1 _ I1 q1) fun u s2 ⟨y, H2, I2, r2, q2⟩ =>
    thn (ho pins s2 σ H2 x y v u _ I2 r1 r2 q2) fun d s3 ⟨z, H3, I3, r3, k, e, q3⟩ => ?_)) hm
  subst e
  cases r3
  refine wpAny_truthy_bool ?_
  cases k with
  | false =>
    obtain ⟨k2, e2, q2⟩ := q3
    cases e2
    exact ite_ff ⟨H3, I3, q2⟩
  | true =>
    refine ite_tt (test_link (thn (hc.run pins s3 σ H3 _ I3 q3) fun u' s4 ⟨y', H4, I4, r4, q4⟩ => thn (ho' pins s4 σ H4 y y' u u' _ I4 r2 r4 q4) fun d' s5 ⟨z', H5, I5, r5, k', e', q5⟩ => ?_))
    subst e'
    cases r5
    refine wpAny_truthy_bool ?_
    cases k' with
    | false =>
      obtain ⟨k2, e2, q2⟩ := q5
      cases e2
      exact ite_ff ⟨H5, I5, q2⟩
    | true =>
      refine ite_tt (test_last (thn (hd.run pins s5 σ H5 _ I5 q5) fun w' s6 ⟨z2, H6, I6, r6, q6⟩ => thn (ho2 pins s6 σ H6 y' z2 u' w' _ I6 r4 r6 q6) fun d2 s7 ⟨z3, H7, I7, r7, k3, e3, q7⟩ => ?_))
      subst e3
      cases r7
      exact wpAny_truthy_bool ⟨H7, I7, q7⟩
theorem link_ok {op : D → D → Option RV} {Q : VK} {G F2 : Hp} {avs : List V} {ρ2 : Rho} {x y : V} {r q : RV} {go : M RV} {tgo : Hp → VK → Prop} (s2 : Sim K F2 G avs σ ρ2 H) (h2 : Held K F2 G ρ2 σ H [(x, r), (y, q)])
    (p2 : EPost K mg G avs W σ Q F2 (lnk op r q go ρ2))
    (hgo : ∀ F3 H3, Sim K F3 G avs σ ρ2 H3 → Held K F3 G ρ2 σ H3 [(y, q)] → EPost K mg G avs W σ Q F3 (go ρ2) → tgo H3 Q) : tLink (rD2 K op) x y tgo H Q := by
  have hx := h2.ok (x, r) (by simp)
  have hy := h2.ok (y, q) (by simp)
  unfold lnk bnd ap2 at p2
  cases e1 : rd r ρ2 with
  | none => rw [e1] at p2; exact p2.elim
  | some d =>
    rw [e1] at p2
    cases e2 : rd q ρ2 with
    | none => rw [e2] at p2; exact p2.elim
    | some d2 =>
      rw [e2] at p2
      refine ⟨F2, d, d2, s2.le, rd_rep s2 hx e1, rd_rep s2 hy e2, ?_⟩
      dsimp only at p2 ⊢
      cases eo : op d d2 with
      | none => rw [eo] at p2; exact p2.elim
      | some v =>
        rw [eo] at p2
        cases v with
        | slot i => exact p2.elim
        | new z => exact p2.elim
        | sh z =>
          cases z with
          | bool k =>
            refine fun v F3 H3 g3 r3 => ?_
            cases r3
            refine ⟨k, rfl, ?_⟩
            have s3 := s2.grow g3
            have x3 := g3.ext s2.gl
            cases k with
            | false => exact p2 _ F3 H3 x3 s3 (.bl false)
            | true =>
              refine hgo F3 H3 s3 ⟨fun p hp => ?_, ?_⟩ (EPost.rest.up _ _ _ x3 p2)
              · cases List.mem_singleton.mp hp
                have hy' : RvOk K F2 G ρ2 σ H y q := hy
                cases q with
                | sh x => exact Rep.mono g3.le x hy'
                | slot i => exact hy'
                | new x =>
                  obtain ⟨a, q1, q2, q3, q4, q5⟩ := hy'
                  exact ⟨a, q1, q2.mono g3.le fun o z => g3.hl _ _ z, g3.keep q2.ne q3, q4, q5⟩
              · show (tmps [(y, q)]).Nodup
                unfold tmps
                rw [List.filterMap_cons]
                split <;> simp
          | _ => exact p2.elim
theorem chain3_ok {K : Fr} {mg : Str → Option Value} {op op' op'' : D → D → Option RV} {σ : St} {H : Hp} {Q : VK} (h : tE K mg W (eCh3 op op' op'' fa fb fc fd) σ H Q) : tChain3 (rD2 K op) (rD2 K op') (rD2 K op'') (tE K mg W fa) (tE K mg W fb) (tE K mg W fc) (tE K mg W fd) σ H Q := by
  obtain ⟨F, G, avs, ρ, s, p⟩ := h
  refine tE_mono (fun x H1 z => ?_) (step EPost.rest s Held.nil p)
  obtain ⟨r, F1, ρ1, e1, s1, h1, p1⟩ := z
  refine tE_mono (fun y H2 z => ?_) (step EPost.rest s1 h1 p1)
  obtain ⟨q, F2, ρ2, e2, s2, h2, p2⟩ := z
  refine link_ok s2 h2 p2 fun F3 H3 s3 h3 p3 => ?_
  refine tE_mono (fun w H4 z => ?_) (step EPost.rest s3 h3 p3)
  obtain ⟨r4, F4, ρ4, e4, s4, h4, p4⟩ := z
  refine link_ok s4 h4 p4 fun F5 H5 s5 h5 p5 => ?_
  refine tE_mono (fun v H6 z => ?_) (step EPost.rest s5 h5 p5)
  obtain ⟨r6, F6, ρ6, e6, s6, h6, p6⟩ := z
  exact ap2_ok s6 (h6.ok (w, r4) (by simp)) (h6.ok (v, r6) (by simp)) p6
theorem se_chain3 {op op' op'' : CmpOp} {dop dop' dop'' : D → D → Option RV} {d : Expr} (ho : Op2 X (compareOp op) dop) (ho' : Op2 X (compareOp op') dop') (ho2 : Op2 X (compareOp op'') dop'') (ha : SE X W a fa) (hb : SE X W b fb) (hc : SE X W c fc) (hd : SE X W d fd)
    (hm : lastMarks [op, op', op''] [b, c, d] = false := by with_unfolding_all rfl) : SE X W (.Compare a [op, op', op''] [b, c, d] pos) (eCh3 dop dop' dop'' fa fb fc fd) := (pe_chain3 ho ho' ho2 ha hb hc hd hm).imp fun _ _ _ h => chain3_ok h
theorem st_chain3 {op op' op'' : CmpOp} {dop dop' dop'' : D → D → Option RV} {d : Expr} (ho : Op2 X (compareOp op) dop) (ho' : Op2 X (compareOp op') dop') (ho2 : Op2 X (compareOp op'') dop'') (ha : SE X W a fa) (hb : SE X W b fb) (hc : SE X W c fc) (hd : SE X W d fd)
    (hm : lastMarks [op, op', op''] [b, c, d] = false := by with_unfolding_all rfl) : ST X W (.Compare a [op, op', op''] [b, c, d] pos) (tst (eCh3 dop dop' dop'' fa fb fc fd)) := (pt_chain3 ho ho' ho2 ha hb hc hd hm).imp fun _ _ _ h => chain3_ok (tst_ok h)
theorem lnk_ap (op : D → D → Option RV) (a b : RV) (go : M RV) (ρ : Rho) : lnk op a b go ρ = bnd (ap2 op a b) (fun r => match r with
  | .sh (.bool true) => go
  | .sh (.bool false) => Fd.ret (.sh (.bool false))
  | _ => stk) ρ := rfl
theorem eCh3_ap (op op' op'' : D → D → Option RV) (fa fb fc fd : M RV) (ρ : Rho) : eCh3 op op' op'' fa fb fc fd ρ = bnd fa (fun a => bnd fb fun b => lnk op a b (bnd fc fun c => lnk op' b c (bnd fd fun d => ap2 op'' c d))) ρ := rfl
end
end Fd
/-! Fd, part 23: backwards. -/
namespace Fd
open PySem PyProof.Rows L2
def revS (z : Str) : Str := ⟨z.cps.toList.reverse.toArray⟩
def opRev : D → Option RV
  | .list xs => some (.new (.list xs.reverse))
  | .str z => if z.length ≤ 16777216 then some (.sh (.str (revS z))) else none
  | _ => none
theorem ixs_back (n : Nat) : Builtin.Str.strSliceIndices none none (-1) n = (List.range n).reverse := by
  have e : Builtin.Str.strSliceIndices none none (-1) n = sliceRange ((n : Int) - 1) (-1) (-1) := rfl
  rw [e]
  unfold sliceRange
  have c : (if (-1 : Int) > 0 then (if (n : Int) - 1 < -1 then (-1 - ((n : Int) - 1) + -1 - 1) / -1 else 0) else (if (n : Int) - 1 > -1 then ((n : Int) - 1 - -1 - -1 - 1) / (- -1) else 0)) = (n : Int) := by
    rw [if_neg (by decide)]
    split
    · rw [show (- -1 : Int) = 1 by decide, Int.ediv_one]
      omega
    · omega
  dsimp only
  rw [c, Int.toNat_natCast]
  refine List.ext_getElem (by simp) fun i h1 h2 => ?_
  simp only [List.length_map, List.length_range] at h1
  simp only [List.getElem_map, List.getElem_range, List.getElem_reverse, List.length_range]
  omega
theorem pick_back (z : Str) : ((List.range z.length).reverse.filterMap (z.cps[·]?)).toArray = z.cps.toList.reverse.toArray := by
  congr 1
  rw [List.filterMap_reverse]
  congr 1
  have e : (fun (i : Nat) => z.cps[i]?) = fun (i : Nat) => z.cps.toList[i]? := by
    funext i
    rw [Array.getElem?_toList]
  rw [e]
  show List.filterMap _ (List.range z.cps.size) = _
  rw [← Array.length_toList]
  generalize z.cps.toList = l
  induction l with
  | nil => rfl
  | cons a l ih =>
    rw [List.length_cons, List.range_succ_eq_map, List.filterMap_cons]
    show a :: List.filterMap _ (List.map Nat.succ (List.range l.length)) = _
    rw [List.filterMap_map]
    show a :: List.filterMap (fun (i : Nat) => (a :: l)[i + 1]?) (List.range l.length) = _
    rw [show (fun (i : Nat) => (a :: l)[i + 1]?) = fun (i : Nat) => l[i]? from funext fun i => List.getElem?_cons_succ, ih]
section
variable {X : Cx} {W : WX} {e : Expr} {f : M RV} {pos : Pos}
def tBack (K : Fr) (te : TE) : TE := fun σ H Q => te σ H fun x H1 => (∃ a xs, x = V.ref a ∧ SqL K H1 a xs ∧ ∀ p, H1 p = none → Q (.ref p) (upd H1 p (.lst xs.reverse))) ∨ ∃ z, x = V.str z ∧ z.length ≤ sizeLine ∧ Q (.str (revS z)) H1
theorem pe_back {te : TE} {k : Nat} {p1 p2 p3 : Pos} (he : PE X e te) : PE X (.Subscript e (.Slice none none (some (.UnaryOp .USub (.Constant (.int 1) k p1) p2)) p3) pos) (tBack X.K te) := by
  refine ⟨fun pins s σ H Q I h => ?_⟩
  refine Subscript_ (thn (he.run pins s σ H _ I h) fun v s1 ⟨x, H1, I1, r1, q1⟩ => ?_)
  have hm : PO X (some (.UnaryOp .USub (.Constant (.int 1) k p1) p2)) (tPart (tUn (rU fun i => .int (-i)) (tC (.int 1)))) := po_some (pe_un un_neg pe_int)
  refine wpAny_Slice (thn (po_none.run pins s1 σ H1 (fun o H2 => o = none ∧ H2 = H1) I1 ⟨rfl, rfl⟩) fun vl s2 ⟨l, H2, I2, pl, el, e2⟩ => ?_)
  subst el e2
  refine thn (po_none.run pins s2 σ H2 (fun o H3 => o = none ∧ H3 = H2) I2 ⟨rfl, rfl⟩) fun vu s3 ⟨u, H3, I3, pu, eu, e3⟩ => ?_
  subst eu e3
  refine thn (hm.run pins s3 σ H3 (fun o H4 => o = some (-1) ∧ H4 = H3) I3 ⟨1, rfl, -1, rfl, rfl, rfl⟩) fun vm s4 ⟨o, H4, I4, ps, eo, e4⟩ => ?_
  subst eo e4
  have I5 : Inv X pins σ H4 { s4 with heap := s4.heap.push { cls := .type "slice", data := .fields #[vl, vu, vm] } } := I4.kept (t' := s4.toks) fun b ob q => Heap.get?_push_of_some _ q
  show wpAny (model X.prog X.w) X.A (subscriptTail e (.Slice none none (some (.UnaryOp .USub (.Constant (.int 1) k p1) p2)) p3) v (.ref s4.heap.objs.size)) (EP X pins σ Q) X.xe { s4 with heap := s4.heap.push { cls := .type "slice", data := .fields #[vl, vu, vm] } }
  rcases q1 with ⟨a, xs, ex, hx, q⟩ | ⟨z, ez, hz, q⟩
  · subst ex
    cases r1
    obtain ⟨its, r, ht, hz⟩ := I5.list hx
    have hlen := r.length
    refine tail_any (ops := [.ref a, .ref s4.heap.objs.size]) ht.isList.typeIs (PySem.slot_list_getitem.lookup) ?_ (by with_unfolding_all rfl)
    refine wpAny_getItem_list_slice ht.isList (Heap.IsSliceOf.new _ vl vu vm) pl pu ps (by decide) ?_ (by rw [List.size_toArray]; omega)
    rw [PySem.W.krv_pick]
    refine ⟨.ref _, _, I5.laid (t' := s4.toks) (o := .lst xs.reverse) (fun b ob q => Heap.get?_push_of_some _ q) (Nat.le_refl _) ?_, rfl, q _ (I5.hok.fresh (Nat.le_refl _))⟩
    exact ⟨by rw [List.length_reverse]; exact hz, _, 0, r.reverse, Heap.get?_push_size _ rfl⟩
  · subst ez
    obtain ⟨t, rfl⟩ := r1
    obtain ⟨l, rfl, el⟩ := IsPart.raw pl
    obtain ⟨u, rfl, eu⟩ := IsPart.raw pu
    obtain ⟨m, rfl, em⟩ := IsPart.raw ps
    refine tail_any (ops := [.str z t, .ref s4.heap.objs.size]) (T := "str") (typeIs_str _ _ _) (F.slot_str_getitem.lookup) ?_ (by with_unfolding_all rfl)
    refine wpAny_getItem_str_slice (l := l) (u := u) (st := m) ⟨_, Heap.get?_push_size _ rfl, rfl, rfl⟩ (by rw [em]; rfl) ?_
    have made : sliceMade z t l u m = .str (revS z) := by
      unfold sliceMade slicePicked
      rw [em, el, eu]
      show (if ((-1 : Int) == 1 && _) = true then _ else Made.str ⟨((Builtin.Str.strSliceIndices none none (-1) z.length).filterMap (z.cps[·]?)).toArray⟩) = _
      rw [if_neg (by simp), ixs_back, pick_back]
      rfl
    rw [made]
    refine ⟨?_, .str (revS z), H4, I5.tok _, ⟨_, rfl⟩, q⟩
    show (z.cps.toList.reverse.toArray).size ≤ sizeLine
    rw [List.size_toArray, List.length_reverse, Array.length_toList]
    exact hz
theorem se_back {k : Nat} {p1 p2 p3 : Pos} (he : SE X W e f) : SE X W (.Subscript e (.Slice none none (some (.UnaryOp .USub (.Constant (.int 1) k p1) p2)) p3) pos) (eU opRev f) := (pe_back he).imp fun σ H Q h => by
  refine tE_mono (fun x H1 q => ?_) (one_ok h)
  obtain ⟨F, d, hF, hx, h⟩ := q
  unfold opRev at h
  split at h
  · obtain ⟨a, xs, rfl, h1, h2⟩ := repv_list hx hF
    exact .inl ⟨a, xs, rfl, h1, fin_lst h hF h2.rev⟩
  · rename_i z
    have ex := repv_str hx
    subst ex
    split at h
    · rename_i hz
      exact .inr ⟨z, rfl, by rw [sizeLine_eq]; exact hz, fin_sh h hF (.str _)⟩
    · exact h.elim
  · exact h.elim
end
end Fd
/-! Fd, part 24: methods of dicts that change nothing. -/
namespace Fd
open PySem PyProof.Rows L2
section
variable {X : Cx} {W : WX} {pins : List (Addr × Obj)} {σ : St} {H : Hp} {s : Shared} {a : Addr} {y d : V} {u r : Value} {o : Option V} {A : Around} {E : Value → Shared → Prop}
theorem dE_get1 {Q : Value → Shared → Prop} (hu : A.units + 1 < cLine) (I : Inv X pins σ H s) (g : DGetE H a y o) (ry : RelV y u) (h : ∀ w' s', Inv X pins σ H s' → RelV (o.getD .non) w' → Q w' s') :
    wpAny (model X.prog X.w) A (call (.builtin "dict.get") [.ref a, u]) Q E s := by
  rcases g with g | ⟨rfl, e, k, rfl⟩ | ⟨rfl, e, k, b, rfl, eb⟩
  · exact d_get1 hu I g ry h
  · obtain ⟨z, hd, xs, rel, dd⟩ := dt_rd I.hok e
    cases rel
    exact call_meetsIn PySem.F.slot_dict_get (empty_K dd).typeIs PySem.F.entry_dict_get (PySem.F.args_dict_get_2 _ _) (meets_dict_get (mixKind X.prog X.w) a (kV_is ry) hd) ⟨_, (empty_K dd).mapOf, h _ _ (I.tok _) rfl⟩
  · cases (show u = Value.ref b from ry)
    obtain ⟨z, hd, xs, rel, dd⟩ := dk_rd I.hok e
    cases rel
    exact call_meetsIn PySem.F.slot_dict_get dd.typeIs PySem.F.entry_dict_get (PySem.F.args_dict_get_2 _ _) (meetsH_dict_get (tupleKind (mixKind X.prog X.w)) a b hd) ⟨tupleKind_room_in1 hu, k, [], key_of I.hok eb, empty_T dd, h _ _ (I.tok _) rfl⟩
theorem dE_get2 {Q : Value → Shared → Prop} (hu : A.units + 1 < cLine) (I : Inv X pins σ H s) (g : DGetE H a y o) (ry : RelV y u) (rr : RelV d r) (h : ∀ w' s', Inv X pins σ H s' → RelV (o.getD d) w' → Q w' s') :
    wpAny (model X.prog X.w) A (call (.builtin "dict.get") [.ref a, u, r]) Q E s := by
  rcases g with g | ⟨rfl, e, k, rfl⟩ | ⟨rfl, e, k, b, rfl, eb⟩
  · exact d_get2 hu I g ry rr h
  · obtain ⟨z, hd, xs, rel, dd⟩ := dt_rd I.hok e
    cases rel
    exact call_meetsIn PySem.F.slot_dict_get (empty_K dd).typeIs PySem.F.entry_dict_get (PySem.F.args_dict_get_3 _ _ _) (meets_dict_get_default (mixKind X.prog X.w) a (kV_is ry) hd r) ⟨_, (empty_K dd).mapOf, h _ _ (I.tok _) rr⟩
  · cases (show u = Value.ref b from ry)
    obtain ⟨z, hd, xs, rel, dd⟩ := dk_rd I.hok e
    cases rel
    exact call_meetsIn PySem.F.slot_dict_get dd.typeIs PySem.F.entry_dict_get (PySem.F.args_dict_get_3 _ _ _) (meetsH_dict_get_default (tupleKind (mixKind X.prog X.w)) a b hd r) ⟨tupleKind_room_in1 hu, k, [], key_of I.hok eb, empty_T dd, h _ _ (I.tok _) rr⟩
/-- what d.get asks and gives -/
def rGet : V → List V → Hp → VK → Prop := fun x ys H Q => (∃ a y o, x = V.ref a ∧ ys = [y] ∧ DGetE H a y o ∧ Q (o.getD .non) H) ∨ ∃ a y z o, x = V.ref a ∧ ys = [y, z] ∧ DGetE H a y o ∧ Q (o.getD z) H
theorem mt_get (hu : X.A.units + 1 < cLine) : MtR X "dict.get" rGet := by
  intro pins s σ H x ys v us Q I rx rs q
  rcases q with ⟨a, y, o, rfl, rfl, g, q⟩ | ⟨a, y, z, o, rfl, rfl, g, q⟩
  · obtain rfl : v = Value.ref a := rx
    cases rs with
    | cons ry r2 =>
      cases r2
      exact dE_get1 hu I g ry fun w' s' I' r' => ⟨_, H, I', r', q⟩
  · obtain rfl : v = Value.ref a := rx
    cases rs with
    | cons ry r2 =>
      cases r2 with
      | cons rz r3 =>
        cases r3
        exact dE_get2 hu I g ry rz fun w' s' I' r' => ⟨_, H, I', r', q⟩
def tDM (r : V → List V → Hp → VK → Prop) (to : TE) (t : TA) : TE := fun σ H Q => to σ H fun x H1 => (∃ a, x = V.ref a ∧ IsD H1 a) ∧ t σ H1 fun ys H2 => r x ys H2 Q
theorem pe_dm {ob e : Expr} {es : List Expr} {to : TE} {t : TA} {name : Str} {ap cp : Pos} {id : String} {rr : V → List V → Hp → VK → Prop} (pa : PlainAttrs "dict") (slot : Slot "dict" name id) (hty : typeOf (.builtin id) = pure (.type "method_descriptor")) (hm : MtR X id rr) (ho : PE X ob to) (ha : PA X (e :: es) t)
    (hb : attributeBase ob name X.env (eval ob X.env) = eval ob X.env := by rfl)
    (hf : ((backTo cp (starEach (e :: es) X.env)).all (fun x => !x.1) && (backToKw cp (keywordEach [] X.env)).all (fun x => x.1.isSome) && decide ((e :: es).length + ([] : List Keyword).length + (if ([] : List Keyword).isEmpty then 0 else 1) < 30)) = true := by rfl)
    (hl : (ap.endLine == cp.line) = true := by rfl) (hs : starEach (e :: es) X.env = (false, eval e X.env) :: starEach es X.env := by rfl) (hp : (backTo cp (starEach es X.env)).any (·.1) = false := by rfl) :
    PE X (.Call (.Attribute ob name ap) (e :: es) [] cp) (tDM rr to t) := by
  refine ⟨fun pins s σ H Q I h => ?_⟩
  refine wpAny_Call_method_late hb hf hl rfl (thn (ho.run pins s σ H _ I h) fun v s1 ⟨x, H1, I1, rx, ⟨a, ex, da⟩, q1⟩ => ?_)
  subst ex
  obtain rfl : v = Value.ref a := rx
  obtain ⟨t1, t2, _⟩ := isD_at I1 da
  refine ⟨"dict", id, pa, slot, hty, t1, t2, ?_⟩
  have hA := ha.run cp pins s1 σ H1 _ I1 q1
  rw [hs] at hA ⊢
  refine Calls.callWith_builtin (by show (false || (backTo cp (starEach es X.env)).any (·.1)) = false; rw [hp] <;> rfl) (Calls.evalArgs_plain ?_)
  exact thn hA fun us s2 ⟨ys, H2, I2, r2, q2⟩ => hm pins s2 σ H2 (.ref a) ys (.ref a) us Q I2 rfl r2 q2
theorem dm_ok {K : Fr} {mg : Str → Option Value} {fa : M RV} {fs : List (M RV)} {op : List D → Option RV} {σ : St} {H : Hp} {Q : VK} (h : tE K mg W (eMth 6 op fa fs) σ H Q) : tDM (rDM K op) (tE K mg W fa) (tAs K mg W fs) σ H Q := by
  obtain ⟨F, G, avs, ρ, s, p⟩ := h
  refine tE_mono (fun x H1 z => ?_) (step EPost.rest s Held.nil p)
  obtain ⟨r, F1, ρ1, e1, s1, h1, p1⟩ := z
  obtain ⟨d, ed, ek, p1⟩ := chk_ok EPost.rest p1
  refine ⟨?_, stepA EPost.rest s1 h1 p1 fun ys rs F2 ρ2 H2 l1 l2 x2 s2 h2 p2 => ?_⟩
  · obtain ⟨kvs, rfl⟩ : ∃ kvs, d = .dict kvs := by
      cases d <;> first | exact ⟨_, rfl⟩ | cases ek
    obtain ⟨a, e, g⟩ := repv_dict (rd_rep s1 (h1.ok (x, r) (by simp)) ed) s1.le
    refine ⟨a, e, ?_⟩
    rcases g with ⟨ks, g, _⟩ | ⟨ks, g, _⟩
    · exact .inl ⟨ks, g⟩
    · exact .inr ⟨ks, g⟩
  · exact apN_ok (ys := x :: ys) s2 (by rw [List.length_cons, List.length_cons, l1]) (fun q hq => h2.ok q (by rw [List.zip_cons_cons] at hq; simpa using hq)) p2
def opDGet : List D → Option RV
  | [.dict kvs, k] => if (kd k).isSome && alike kvs k then some (.sh ((getD kvs k).getD .none)) else none
  | [.dict kvs, k, x] => if ((kd k).isSome && alike kvs k) && flatD x then some (.sh ((getD kvs k).getD x)) else none
  | _ => none
theorem rep_flat {K : Fr} {F H : Hp} {v : V} {d : D} (h : RepV K F H v d) (hf : flatD d = true) : Rep K F v d := by
  rcases h with h | ⟨a, _, h⟩
  · exact h
  · cases d <;> first | exact h.elim | cases hf
theorem mt_dget (hu : X.A.units + 1 < cLine) : OpM X "dict.get" opDGet := fun pins s σ H x xs v us Q I rx rs ⟨F, ds, hF, hx, h⟩ => mt_get hu pins s σ H x xs v us Q I rx rs (by
  unfold opDGet at h
  split at h
  · rename_i kvs k
    cases hx with
    | cons h1 h2 =>
      cases h2 with
      | cons h3 h4 =>
        cases h4
        split at h
        · rename_i hc
          obtain ⟨c1, c2⟩ := Bool.and_eq_true_iff.mp hc
          obtain ⟨a, o, rfl, g, q⟩ := repv_get h1 h3 hF c1 c2
          refine .inl ⟨a, _, o, rfl, rfl, g, ?_⟩
          rcases q with ⟨q1, q2⟩ | ⟨w, d, q1, q2, q3, _⟩
          · rw [q2] at h
            rw [q1]
            exact fin_sh h hF .non
          · rw [q2] at h
            rw [q1]
            exact fin_sh h hF q3
        · exact h.elim
  · rename_i kvs k z
    cases hx with
    | cons h1 h2 =>
      cases h2 with
      | cons h3 h4 =>
        cases h4 with
        | cons h5 h6 =>
          cases h6
          split at h
          · rename_i hc
            obtain ⟨hc, c3⟩ := Bool.and_eq_true_iff.mp hc
            obtain ⟨c1, c2⟩ := Bool.and_eq_true_iff.mp hc
            obtain ⟨a, o, rfl, g, q⟩ := repv_get h1 h3 hF c1 c2
            refine .inr ⟨a, _, _, o, rfl, rfl, g, ?_⟩
            rcases q with ⟨q1, q2⟩ | ⟨w, d, q1, q2, q3, _⟩
            · rw [q2] at h
              rw [q1]
              exact fin_sh h hF (rep_flat h5 c3)
            · rw [q2] at h
              rw [q1]
              exact fin_sh h hF q3
          · exact h.elim
  · exact h.elim)
theorem se_dm {ob e : Expr} {es : List Expr} {fo : M RV} {fs : List (M RV)} {op : List D → Option RV} {name : Str} {ap cp : Pos} {id : String} (pa : PlainAttrs "dict") (slot : Slot "dict" name id) (hty : typeOf (.builtin id) = pure (.type "method_descriptor")) (hm : OpM X id op) (ho : SE X W ob fo) (ha : SA X W (e :: es) fs)
    (hb : attributeBase ob name X.env (eval ob X.env) = eval ob X.env := by rfl)
    (hf : ((backTo cp (starEach (e :: es) X.env)).all (fun x => !x.1) && (backToKw cp (keywordEach [] X.env)).all (fun x => x.1.isSome) && decide ((e :: es).length + ([] : List Keyword).length + (if ([] : List Keyword).isEmpty then 0 else 1) < 30)) = true := by rfl)
    (hl : (ap.endLine == cp.line) = true := by rfl) (hs : starEach (e :: es) X.env = (false, eval e X.env) :: starEach es X.env := by rfl) (hp : (backTo cp (starEach es X.env)).any (·.1) = false := by rfl) :
    SE X W (.Call (.Attribute ob name ap) (e :: es) [] cp) (eMth 6 op fo fs) := (pe_dm pa slot hty hm ho ha hb hf hl hs hp).imp fun _ _ _ h => dm_ok h
end
end Fd
/-! Fd, part 24: calls that lack keyword-only arguments. -/
namespace Fd
open PySem PySem.Spec PyProof.Rows L2
/-- how a call binds that lacks keyword-only arguments: their defaults dz -/
def BindsPD (K : Fr) (fd : FuncData) (ps : List Str) (n : Nat) (ks : List Str) (perm : List Nat) (dz : List V) : Prop :=
  ∃ mv : List Value, Vals dz mv ∧ ∀ (s : Shared) (us ws : List Value), K.In s.heap → us.length = n → ws.length = ks.length → BindsTo s fd ⟨us, ks.zip ws⟩ (ps.zip (permL perm (us ++ (ws ++ mv))))
theorem bindsPD_of {K : Fr} {x : Str} {st : Stmt} {f : Addr} {fd : FuncData} {ps : List Str} {n : Nat} {ks : List Str} {perm : List Nat} {q : Str × V} (F : FnP K x st f fd [q])
    (h : ∀ (D : Addr) (doc pm : Value) (an : Option Addr) (cdv ct : Value) (us ws : List Value) (m : Value), us.length = n → ws.length = ks.length → KwChain D [(q.1, m)] (bindArgs (PySem.W.fnOf x x (defArgs st) (defBody st) (defScope st) .none (.ref D) doc pm an cdv ct) ⟨us, ks.zip ws⟩) (ps.zip (permL perm (us ++ (ws ++ [m]))))) : BindsPD K fd ps n ks perm [q.2] := by
  obtain ⟨oc, od, dV, kV, doc, pm, an, cdv, ct, osl, rfl, lk, hcd, hD, hK⟩ := F.ex
  rcases hD with ⟨_, rfl⟩ | ⟨e, _⟩
  · rcases hK with e | ⟨D, rfl, hq⟩
    · exact absurd e (List.cons_ne_nil _ _)
    · obtain ⟨mv, hl, rk, hks⟩ := kwd_vals (ms := [q]) fun p hp => hq p hp
      obtain ⟨m, rfl⟩ : ∃ m, mv = [m] := by
        match mv, hl with
        | [m], _ => exact ⟨m, rfl⟩
      exact ⟨[m], rk, fun s us ws X l1 l2 => BindsTo.of_looks fun M => KwChain.looks X hks (h D doc pm an cdv ct us ws m l1 l2)⟩
  · exact absurd rfl e
section
variable {X : Cx} {W : WX} {k n : Nat} {f : Addr} {fd : FuncData} {ps ks : List Str} {sem : Fn} {x : Str} {p pos : Pos} {e : Expr} {es : List Expr} {kws : List Keyword} {fs gs : List (M RV)} {ms : List Bool} {perm : List Nat}
theorem run_fnPD {pins : List (Addr × Obj)} {σ : St} {H : Hp} {s : Shared} {Q : VK} {sp : Sp} {us ws : List Value} {vs zs dz : List V} (F : FnG X.prog X.w X.K X.mg X.base k f fd ps sp) (o : Ok k X W) (hb : BindsPD X.K fd ps n ks perm dz) (I : L2.Inv X pins σ H s) (r : Vals vs us) (rz : Vals zs ws) (l1 : vs.length = n) (l2 : zs.length = ks.length) (h : sp (permL perm (vs ++ (zs ++ dz))) H Q (WE W σ)) :
    wpAny (model X.prog X.w) X.A (call (.ref f) us (ks.zip ws)) (EP X pins σ Q) X.xe s := by
  obtain ⟨mv, rm, hb⟩ := hb
  refine wpAny_call (codeAny_mono (F.run X.A X.stack s H ⟨us, ks.zip ws⟩ (permL perm (us ++ (ws ++ mv))) (permL perm (vs ++ (zs ++ dz))) Q (WE W σ) o.room o.gd I.env0 (hb s us ws I.kIn (by rw [← r.length]; exact l1) (by rw [← rz.length]; exact l2)) (vals_perm (r.append (rz.append rm)) perm) h) fun r s' q => ?_)
  cases r with
  | error e => exact passAt o.tk σ pins H s e s' I q
  | ok fl =>
    cases fl with
    | ret u => exact I.after q
    | next => exact q.elim
    | brk => exact q.elim
    | cont => exact q.elim
theorem tAs_int {K : Fr} {mg : Str → Option Value} {σ : St} {H : Hp} {Q : List V → Hp → Prop} {i : Int} (h : tAs K mg W [eC (.int i)] σ H Q) : Q [.int i] H := (tC_imp (fun _ => .int i)) σ H (fun v H1 => Q [v] H1) h
/-- f(e, ..) -/
theorem se_callD {i : Int} (F : FnG X.prog X.w X.K X.mg X.base k f fd ps (spF n X.K X.mg sem)) (o : Ok k X W) (hm : X.mg x = some (.ref f)) (hk : PySem.W.keepIn X.K (.ref f) = true) (hb : BindsPD X.K fd ps fs.length [] perm [.int i]) (hg : Gl X x) (ha : SA X W (e :: es) fs) (hn : perm.length = n := by rfl)
    (hp : perm.Nodup := by decide) (hr : ∀ j ∈ perm, j < (fs ++ [eC (.int i)]).length := by decide)
    (hdb : (x == ("__debug__" : Str)) = false := by decide) (he : starEach (e :: es) X.env = (false, eval e X.env) :: starEach es X.env := by rfl) (hpl : (backTo pos (starEach es X.env)).any (·.1) = false := by rfl) :
    SE X W (.Call (.Name x p) (e :: es) [] pos) (eFK sem ms perm (fs ++ [eC (.int i)])) := by
  refine ⟨fun pins s σ H Q I h => ?_⟩
  refine wpAny_Call_Name_kw (ld_glob I hg hm ?_ hdb)
  refine PySem.W.callWith_K (h₀ := X.base) I.ok.mod.kin hk (thn (ha.run pos pins s σ H _ I (kw_ok h hp hr hn)) fun us s1 ⟨vs, H1, I1, r, l1, q⟩ => ⟨I1.kIn, ?_⟩) he hpl
  exact run_fnPD (ws := []) (zs := []) F o hb I1 r .nil l1 rfl (tAs_int q).2
/-- f(e, .., k = v, ..) -/
theorem se_callKD {i : Int} (F : FnG X.prog X.w X.K X.mg X.base k f fd ps (spF n X.K X.mg sem)) (o : Ok k X W) (hm : X.mg x = some (.ref f)) (hk : PySem.W.keepIn X.K (.ref f) = true) (hb : BindsPD X.K fd ps fs.length ks perm [.int i]) (hg : Gl X x) (ha : SA X W (e :: es) fs) (hw : SK X W kws gs) (hn : perm.length = n := by rfl) (hlk : gs.length = ks.length := by rfl)
    (hp : perm.Nodup := by decide) (hr : ∀ j ∈ perm, j < (fs ++ (gs ++ [eC (.int i)])).length := by decide) (hall : (backToKw pos (keywordEach kws X.env)).all (·.1.isSome) = true := by rfl) (hks : (backToKw pos (keywordEach kws X.env)).filterMap (·.1) = ks := by rfl)
    (hdb : (x == ("__debug__" : Str)) = false := by decide) (he : starEach (e :: es) X.env = (false, eval e X.env) :: starEach es X.env := by rfl)
    (hpl : ((backTo pos (starEach (e :: es) X.env)).any (·.1) || (backToKw pos (keywordEach kws X.env)).any (·.1.isNone)) = false := by rfl) : SE X W (.Call (.Name x p) (e :: es) kws pos) (eFK sem ms perm (fs ++ (gs ++ [eC (.int i)]))) := by
  refine ⟨fun pins s σ H Q I h => ?_⟩
  refine wpAny_Call_Name_kw (ld_glob I hg hm ?_ hdb)
  refine PySem.W.callWith_KW (h₀ := X.base) I.ok.mod.kin hk hall (thn (ha.run pos pins s σ H _ I (kw_ok h hp hr hn)) fun us s1 ⟨vs, H1, I1, r, l1, q⟩ => ?_) hpl he
  refine thn (hw.run pos pins s1 σ H1 _ I1 (tAs_app q)) fun ws s2 ⟨zs, H2, I2, rz, l2, q2⟩ => ⟨I2.kIn, ?_⟩
  rw [hks]
  exact run_fnPD F o hb I2 r rz l1 (by rw [l2, hlk]) (tAs_int q2).2
/-- f(k = v, ..) -/
theorem se_callKD0 {i : Int} (F : FnG X.prog X.w X.K X.mg X.base k f fd ps (spF n X.K X.mg sem)) (o : Ok k X W) (hm : X.mg x = some (.ref f)) (hk : PySem.W.keepIn X.K (.ref f) = true) (hb : BindsPD X.K fd ps 0 ks perm [.int i]) (hg : Gl X x) (hw : SK X W kws gs) (hn : perm.length = n := by rfl) (hlk : gs.length = ks.length := by rfl)
    (hp : perm.Nodup := by decide) (hr : ∀ j ∈ perm, j < (gs ++ [eC (.int i)]).length := by decide) (hall : (backToKw pos (keywordEach kws X.env)).all (·.1.isSome) = true := by rfl) (hks : (backToKw pos (keywordEach kws X.env)).filterMap (·.1) = ks := by rfl)
    (hdb : (x == ("__debug__" : Str)) = false := by decide)
    (hpl : ((backTo pos (starEach [] X.env)).any (·.1) || (backToKw pos (keywordEach kws X.env)).any (·.1.isNone)) = false := by rfl) : SE X W (.Call (.Name x p) [] kws pos) (eFK sem ms perm (gs ++ [eC (.int i)])) := by
  refine ⟨fun pins s σ H Q I h => ?_⟩
  refine wpAny_Call_Name_kw (ld_glob I hg hm ?_ hdb)
  have q := kw_ok (fs := []) h hp hr hn
  refine PySem.W.callWith_KW0 (h₀ := X.base) I.ok.mod.kin hk hall (thn (hw.run pos pins s σ H _ I (tAs_app q.2)) fun ws s2 ⟨zs, H2, I2, rz, l2, q2⟩ => ⟨I2.kIn, ?_⟩) hpl
  rw [hks]
  exact run_fnPD (us := []) (vs := []) F o hb I2 .nil rz rfl (by rw [l2, hlk]) (tAs_int q2).2
end
end Fd
/-! Fd: comprehensions of dicts. -/
namespace Fd
open PySem PySem.Spec PyProof.Rows L2
def dcD (own : List Nat) (p : Pat) (t : M Bool) (k f : M RV) : List D → List (D × D) → M (List (D × D))
  | [], acc => ret acc
  | d :: ds, acc => bnd (patM p d) fun _ => bnd t fun b => if b then bnd k fun rk => bnd (fz rk) fun kx => bnd f fun r => bnd (fz r) fun x => if isK kx = true then bnd (wipeM own) fun _ => dcD own p t k f ds (putD acc kx x) else stk else bnd (wipeM own) fun _ => dcD own p t k f ds acc
def eDc (own : List Nat) (fi : M (List D)) (p : Pat) (t : M Bool) (k f : M RV) : M RV := bnd fi fun ds ρ => if ds.length ≤ 16777216 then (match bnd (wipeM own) (fun _ => noX (dcD own p t k f ds [])) ρ with
    | some (.val xs, ρ') => some (.val (.new (.dict xs)), restR ρ ρ' own)
    | _ => none) else none
theorem putD_le (kvs : List (D × D)) (k v : D) : (putD kvs k v).length ≤ kvs.length + 1 := by
  unfold putD
  split <;> simp
section
variable {K : Fr} {mg : Str → Option Value} {F G H : Hp} {avs : List V} {σ : St} {ρ : Rho}
theorem dc_ok {W : WX} {own : List Nat} {fi : M (List D)} {p : Pat} {t : M Bool} {k f : M RV} {Q : VK} {tt : TT} (hs : ∀ i ∈ p.slots, i ∈ own) (ht : ∀ σ H Q, tT K mg WN t σ H Q → tt σ H Q) (h : tE K mg W (eDc own fi p t k f) σ H Q) :
    tDc (tI K mg W fi) (patG K p) tt (tE K mg WN k) (tE K mg WN f) own σ H Q := by
  obtain ⟨F, G, avs, ρ, s, q⟩ := h
  refine ⟨F, G, avs, ρ, s, ?_⟩
  unfold eDc bnd at q
  cases e : fi ρ with
  | none => rw [e] at q; exact q.elim
  | some z =>
    obtain ⟨o, ρ1⟩ := z
    rw [e] at q
    cases o with
    | exc x => exact q
    | val ds =>
      intro J F1 H1 e1 s1 J1 D0 hD
      have q : EPost K mg G avs W σ Q F (if ds.length ≤ 16777216 then (match bnd (wipeM own) (fun _ => noX (dcD own p t k f ds [])) ρ1 with
        | some (.val xs, ρ') => some (.val (.new (.dict xs)), restR ρ1 ρ' own)
        | _ => none) else none) := q
      by_cases hl : ds.length ≤ 16777216
      · rw [if_pos hl] at q
        cases e2 : bnd (wipeM own) (fun _ => noX (dcD own p t k f ds [])) ρ1 with
        | none => rw [e2] at q; exact q.elim
        | some z =>
          obtain ⟨o, ρe⟩ := z
          rw [e2] at q
          cases o with
          | exc x => exact q.elim
          | val xs =>
            obtain ⟨hv, e3⟩ := wipeM_ok e2
            have e3 := noX_ok e3
            have q := EPost.rest.up _ _ _ e1 q
            have hG : G D0 = none := s1.gl.free hD
            have hF1 : F1 D0 = none := s1.le.free hD
            refine ⟨fun i m H => m = ds.length - i ∧ i ≤ ds.length ∧ ∃ F' ρ' acc av, Ext F1 G F' ∧ F' D0 = none ∧ Sim K F' (upd G D0 (.dK av)) avs (wipe σ own) ρ' H ∧ RepK K F' av acc ∧ acc.length ≤ i ∧ dcD own p t k f (ds.drop i) acc ρ' = some (.val xs, ρe),
              ⟨ds.length, rfl, Nat.zero_le _, F1, _, [], [], Ext.refl F1 G, hF1, (s1.newG hD).wiped own, .nil, Nat.le_refl _, e3⟩, ?_⟩
            rintro i m H2 ⟨rfl, hi, F2, ρ2, acc, av, x2, f2, s2, r2, l2, q2⟩
            obtain ⟨j1, j2⟩ := J1 F2 H2 x2.le s2.le i
            by_cases hlt : i < ds.length
            · refine .inr ?_
              obtain ⟨j3, j4⟩ := j2 ds[i] (List.getElem?_eq_getElem hlt)
              refine ⟨j3, fun H => (∃ F' ρ' acc av, Ext F1 G F' ∧ F' D0 = none ∧ Sim K F' (upd G D0 (.dK av)) avs (wipe σ own) ρ' H ∧ RepK K F' av acc ∧ acc.length ≤ i + 1 ∧ dcD own p t k f (ds.drop (i + 1)) acc ρ' = some (.val xs, ρe)), fun H' h => ⟨ds.length - (i + 1), by omega, rfl, hlt, h⟩, fun x H' y => ?_⟩
              obtain ⟨F3, gr, r3⟩ := j4 x H' y
              have x3 := gr.ext s2.gl
              have f3 : F3 D0 = none := x3.dom f2
              have s3 := s2.grow gr
              rw [List.drop_eq_getElem_cons hlt] at q2
              have R : Rest K mg (upd G D0 (.dK av)) avs WN (fun _ (o : Option (Out (List (PyData × PyData)) × Rho)) => o = some (.val xs, ρe)) := Rest.eq xs ρe
              have q3 : bnd (patM p ds[i]) (fun _ => bnd t fun b => if b then bnd k fun rk => bnd (fz rk) fun kx => bnd f fun r => bnd (fz r) fun x => if isK kx = true then bnd (wipeM own) fun _ => dcD own p t k f (ds.drop (i + 1)) (putD acc kx x) else stk else bnd (wipeM own) fun _ => dcD own p t k f (ds.drop (i + 1)) acc) ρ2 = some (.val xs, ρe) := q2
              refine pat_ok R p s3 r3 q3 fun σ4 ρ4 s4 hw q4 => ⟨(hw own hs).trans (wipe_idem σ own), ?_⟩
              have hw4 : wipe σ4 own = wipe σ own := (hw own hs).trans (wipe_idem σ own)
              refine ht _ _ _ (tT_mono (fun b H5 z => ?_) (stepT R s4 Held.nil q4))
              obtain ⟨F5, ρ5, x5, s5, _, q5⟩ := z
              have f5 : F5 D0 = none := x5.dom f3
              cases b with
              | false =>
                obtain ⟨_, q6⟩ := wipeM_ok q5
                refine ⟨F5, _, acc, av, (x2.trans (x3.gput hG)).trans (x5.gput hG), f5, ?_, (r2.mono x3.le).mono x5.le, Nat.le_succ_of_le l2, q6⟩
                rw [← hw4]
                exact s5.wiped own
              | true =>
                rw [if_pos rfl] at q5 ⊢
                refine tE_mono (fun yk H6 z => ?_) (step R s5 Held.nil q5)
                obtain ⟨rk, F6, ρ6, x6, s6, h6, q6⟩ := z
                have f6 : F6 D0 = none := x6.dom f5
                unfold bnd at q6
                cases e7 : fz rk ρ6 with
                | none => rw [e7] at q6; cases q6
                | some z =>
                  obtain ⟨o, ρ7⟩ := z
                  rw [e7] at q6
                  cases o with
                  | exc x => exact (fz_noexc e7).elim
                  | val kd =>
                    obtain ⟨F7, x7, s7, r7⟩ := fz_ok s6 (h6.ok (yk, rk) (by simp)) e7
                    have f7 : F7 D0 = none := x7.dom f6
                    have q7 : bnd f (fun r => bnd (fz r) fun x => if isK kd = true then bnd (wipeM own) fun _ => dcD own p t k f (ds.drop (i + 1)) (putD acc kd x) else stk) ρ7 = some (.val xs, ρe) := q6
                    refine tE_mono (fun yv H8 z => ?_) (step R s7 Held.nil q7)
                    obtain ⟨r, F8, ρ8, x8, s8, h8, q8⟩ := z
                    have f8 : F8 D0 = none := x8.dom f7
                    unfold bnd at q8
                    cases e9 : fz r ρ8 with
                    | none => rw [e9] at q8; cases q8
                    | some z =>
                      obtain ⟨o, ρ9⟩ := z
                      rw [e9] at q8
                      cases o with
                      | exc x => exact (fz_noexc e9).elim
                      | val yd =>
                        obtain ⟨F9, x9, s9, r9⟩ := fz_ok s8 (h8.ok (yv, r) (by simp)) e9
                        have f9 : F9 D0 = none := x9.dom f8
                        have q9 : (if isK kd = true then bnd (wipeM own) (fun _ => dcD own p t k f (ds.drop (i + 1)) (putD acc kd yd)) else stk) ρ9 = some (.val xs, ρe) := q8
                        by_cases hk : isK kd = true
                        · rw [if_pos hk] at q9
                          unfold isK at hk
                          cases ek : key1 kd with
                          | none => rw [ek] at hk; cases hk
                          | some j =>
                            have := key1_of ek
                            subst this
                            have := rep_key (H := F7) (.inl r7)
                            subst this
                            obtain ⟨_, q10⟩ := wipeM_ok (k := fun _ => dcD own p t k f (ds.drop (i + 1)) (putD acc (keyD j) yd)) q9
                            have r8 : RepK K F9 (putK av j yv) (putD acc (keyD j) yd) := ((((((r2.mono x3.le).mono x5.le).mono x6.le).mono x7.le).mono x8.le).mono x9.le).put r9
                            refine ⟨av, j, rfl, s9.gl _ _ upd_same, ?_, F9, _, putD acc (keyD j) yd, putK av j yv, (((((x2.trans (x3.gput hG)).trans (x5.gput hG)).trans (x6.gput hG)).trans (x7.gput hG)).trans (x8.gput hG)).trans (x9.gput hG), f9, ?_, r8, Nat.le_trans (putD_le ..) (Nat.succ_le_succ l2), q10⟩
                            · rw [r2.length]
                              show acc.length < 16777216
                              omega
                            · rw [← hw4]
                              exact (s9.putG f9).wiped own
                        · rw [if_neg hk] at q9
                          cases q9
            · refine .inl ⟨j1 (by omega), ?_⟩
              rw [List.drop_eq_nil_of_le (by omega)] at q2
              have q2 : some (Out.val acc, ρ2) = some (Out.val xs, ρe) := q2
              cases q2
              have s3 : Sim K F2 G avs (wipe σ own) _ H2 := s2.gless (same_upd hG)
              have s4 := s3.rested s1 x2.le hv
              have hH : H2 D0 = some (.dK av) := s2.gl _ _ upd_same
              refine q (.ref D0) F2 H2 x2 s4 ⟨D0, rfl, .inl ⟨av, hH, r2⟩, f2, hG, fun i d m z => ?_⟩
              have s5 := s2.rested (s1.newG (o := .dK av) hD) x2.le hv
              obtain ⟨a, z1, _, _, z4⟩ := s5.ow i d m
              rw [z] at z1
              cases z1
              rw [upd_same] at z4
              cases z4
      · rw [if_neg hl] at q
        exact q.elim
end
section
variable {X : Cx} {W : WX} {kx vx tg iter c : Expr} {scope : Scope} {own : List (Str × Nat)} {pos : Pos} {fi : M (List D)} {p : Pat} {t : M Bool} {k f : M RV}
theorem se_dc (hc : X.calm = true) (hN : X.N.Nodup) (hi : SI X W tg iter fi) (ok : BlkOk X.N X.env.scope scope own) (hg : ∀ (s : Shared) (H : Hp) (C : Addr) (cl : List (Str × Addr)) (fp : List Addr), PG (X.blk s H scope (compEnvC scope cl C X.env) fp) tg (patG X.K p))
    (hk : ∀ (s : Shared) (H : Hp) (C : Addr) (cl : List (Str × Addr)) (fp : List Addr), SE (X.blk s H scope (compEnvC scope cl C X.env) fp) WN kx k)
    (he : ∀ (s : Shared) (H : Hp) (C : Addr) (cl : List (Str × Addr)) (fp : List Addr), SE (X.blk s H scope (compEnvC scope cl C X.env) fp) WN vx f) (hs : ∀ i ∈ p.slots, i ∈ own.map (·.2)) (hf : ∀ x, foldedSetIterable iter X.env x = pure x := by intro _; rfl) :
    SE X W (.DictComp kx vx [⟨tg, iter, [], 0⟩] scope pos) (eDc (own.map (·.2)) fi p Fd.tYes k f) :=
  (pe_dc hc hN hi ok hg (fun _ _ _ _ _ => pts_nil) hk he hf).imp fun σ H Q h => dc_ok hs (fun σ H Q ⟨F, G, avs, ρ, s, q⟩ => q F H (Ext.refl F G) s) h
theorem se_dcIf (hc : X.calm = true) (hN : X.N.Nodup) (hi : SI X W tg iter fi) (ok : BlkOk X.N X.env.scope scope own) (hg : ∀ (s : Shared) (H : Hp) (C : Addr) (cl : List (Str × Addr)) (fp : List Addr), PG (X.blk s H scope (compEnvC scope cl C X.env) fp) tg (patG X.K p))
    (ht : ∀ (s : Shared) (H : Hp) (C : Addr) (cl : List (Str × Addr)) (fp : List Addr), ST (X.blk s H scope (compEnvC scope cl C X.env) fp) WN c t)
    (hk : ∀ (s : Shared) (H : Hp) (C : Addr) (cl : List (Str × Addr)) (fp : List Addr), SE (X.blk s H scope (compEnvC scope cl C X.env) fp) WN kx k)
    (he : ∀ (s : Shared) (H : Hp) (C : Addr) (cl : List (Str × Addr)) (fp : List Addr), SE (X.blk s H scope (compEnvC scope cl C X.env) fp) WN vx f) (hs : ∀ i ∈ p.slots, i ∈ own.map (·.2)) (hf : ∀ x, foldedSetIterable iter X.env x = pure x := by intro _; rfl) :
    SE X W (.DictComp kx vx [⟨tg, iter, [c], 0⟩] scope pos) (eDc (own.map (·.2)) fi p t k f) :=
  (pe_dc hc hN hi ok hg (fun s H C cl fp => pts_one (ht s H C cl fp)) hk he hf).imp fun σ H Q h => dc_ok hs (fun _ _ _ h => h) h
theorem ps_setDc {i : Nat} {y : Str} {py : Pos} {ifs : List Expr} {spos : Pos} {wi : TI} {g : TG} {tt : TT} {tk tv : TE} (hc : X.calm = true) (hN : X.N.Nodup) (hy : X.N[i]? = some y) (hyl : X.env.scope.names.lookup y = some .local)
    (hsw : swapsWith (.DictComp kx vx [⟨tg, iter, ifs, 0⟩] scope pos) (some (.Name y py)) spos.line X.env = pure true) (hi : PI X tg iter wi) (ok : BlkOk X.N X.env.scope scope own)
    (hg : ∀ (s : Shared) (H : Hp) (C : Addr) (cl : List (Str × Addr)) (fp : List Addr), PG (X.blk s H scope (compEnvC scope cl C X.env) fp) tg g) (ht : ∀ (s : Shared) (H : Hp) (C : Addr) (cl : List (Str × Addr)) (fp : List Addr), PTs (X.blk s H scope (compEnvC scope cl C X.env) fp) ifs tt)
    (hk : ∀ (s : Shared) (H : Hp) (C : Addr) (cl : List (Str × Addr)) (fp : List Addr), PE (X.blk s H scope (compEnvC scope cl C X.env) fp) kx tk)
    (he : ∀ (s : Shared) (H : Hp) (C : Addr) (cl : List (Str × Addr)) (fp : List Addr), PE (X.blk s H scope (compEnvC scope cl C X.env) fp) vx tv) (hs : ∀ x, foldedSetIterable iter X.env x = pure x := by intro _; rfl) :
    PS X (.Assign [.Name y py] (.DictComp kx vx [⟨tg, iter, ifs, 0⟩] scope pos) spos) (tAsg (tDc wi g tt tk tv (own.map (·.2))) (gName i)) := by
  refine ⟨fun pins s σ H D I h => ?_⟩
  rw [exec_Assign_Name_used _ _ _ _ hsw]
  refine wpAny_bind (wpAny_standAt (wpAny_bind ?_))
  show wpAny _ X.A (do let _ ← comprehension (.DictComp kx vx [⟨tg, iter, ifs, 0⟩] scope pos) scope X.env (firstIterPos [⟨tg, iter, ifs, 0⟩] pos) newDict false (eval iter X.env) (some (assign (.Name y py) X.env))) _ _ s
  have h : tDc wi g tt tk tv (own.map (·.2)) σ H (fun x H1 => gName i x σ H1 D.nx) := h
  refine wpAny_bind (thn (dc_core (Qf := fun _ s' => SP X pins D .next s') hc hN I hi ok hg ht hk he hs h fun L C s' m H' I' q hn f => ?_) fun _ s' hq => wpAny_pure (wpAny_pure hq))
  show wpAny _ _ (assign (.Name y py) X.env (.ref L)) _ _ _
  refine wpAny_assign_Name (store_ok2 (v := V.ref L) I' hN hy (.inl hyl) rfl (fun s2 I2 ⟨a, sb, ha⟩ => ?_) (.inr hyl))
  obtain ⟨f0, f1, f2, f3, f4, f5⟩ := f
  have haC : C ≠ a := by
    rcases ha with z | z
    · rw [z]; exact f1
    · exact fun e => f4 y a z e.symm
  refine ⟨m, hn.sameBut sb haC, fun h3 sb3 => ?_⟩
  exact ⟨_, H', I2.turned (t' := s2.toks) (fun b o hb e => (sb3.2 b hb).trans e) f0 f1 f3 f4 f5, q⟩
theorem dcs_ok {i : Nat} {D : Ends} {σ : St} {H : Hp} {tt : TT} (hs : ∀ i ∈ p.slots, i ∈ own.map (·.2)) (ht : ∀ σ H Q, tT X.K X.mg WN t σ H Q → tt σ H Q) (h : tS X.K X.mg W (sSet (asg i) (eDc (own.map (·.2)) fi p t k f)) D σ H) :
    tAsg (tDc (tI X.K X.mg W fi) (patG X.K p) tt (tE X.K X.mg WN k) (tE X.K X.mg WN f) (own.map (·.2))) (gName i) D σ H := by
  obtain ⟨F, G, avs, ρ, s, q⟩ := h
  have h1 := step SPost.rest s Held.nil q
  refine dc_ok hs ht (tE_mono (fun v H1 z => ?_) h1)
  obtain ⟨r, F1, ρ1, e1, s1, h1, p1⟩ := z
  have u := UPost.of (Q := D.nx) p1 rfl
  have hr := h1.ok (v, r) (by simp)
  cases e : asg i r ρ1 with
  | none => rw [e] at u; exact u.elim
  | some z =>
    obtain ⟨o, ρ2⟩ := z
    have ho : o = .val () := by
      cases o with
      | val u => rfl
      | exc x => exact (asg_noexc e).elim
    subst ho
    rw [e] at u
    obtain ⟨F2, e2, s2⟩ := asg_ok s1 hr e
    exact u _ F2 H1 e2 s2
theorem ss_setDc (i : Nat) {y : Str} {py spos : Pos} (hc : X.calm = true) (hN : X.N.Nodup) (hi : SI X W tg iter fi) (ok : BlkOk X.N X.env.scope scope own) (hg : ∀ (s : Shared) (H : Hp) (C : Addr) (cl : List (Str × Addr)) (fp : List Addr), PG (X.blk s H scope (compEnvC scope cl C X.env) fp) tg (patG X.K p))
    (hk : ∀ (s : Shared) (H : Hp) (C : Addr) (cl : List (Str × Addr)) (fp : List Addr), SE (X.blk s H scope (compEnvC scope cl C X.env) fp) WN kx k)
    (he : ∀ (s : Shared) (H : Hp) (C : Addr) (cl : List (Str × Addr)) (fp : List Addr), SE (X.blk s H scope (compEnvC scope cl C X.env) fp) WN vx f) (hs : ∀ i ∈ p.slots, i ∈ own.map (·.2)) (hy : X.N[i]? = some y := by rfl) (hyl : X.env.scope.names.lookup y = some .local := by rfl)
    (hsw : swapsWith (.DictComp kx vx [⟨tg, iter, [], 0⟩] scope pos) (some (.Name y py)) spos.line X.env = pure true := by rfl) (hf : ∀ x, foldedSetIterable iter X.env x = pure x := by intro _; rfl) :
    SS X W (.Assign [.Name y py] (.DictComp kx vx [⟨tg, iter, [], 0⟩] scope pos) spos) (sSet (asg i) (eDc (own.map (·.2)) fi p Fd.tYes k f)) :=
  (ps_setDc hc hN hy hyl hsw hi ok hg (fun _ _ _ _ _ => pts_nil) hk he hf).imp fun D σ H h => dcs_ok hs (fun σ H Q ⟨F, G, avs, ρ, s, q⟩ => q F H (Ext.refl F G) s) h
theorem ss_setDcIf (i : Nat) {y : Str} {py spos : Pos} (hc : X.calm = true) (hN : X.N.Nodup) (hi : SI X W tg iter fi) (ok : BlkOk X.N X.env.scope scope own) (hg : ∀ (s : Shared) (H : Hp) (C : Addr) (cl : List (Str × Addr)) (fp : List Addr), PG (X.blk s H scope (compEnvC scope cl C X.env) fp) tg (patG X.K p))
    (ht : ∀ (s : Shared) (H : Hp) (C : Addr) (cl : List (Str × Addr)) (fp : List Addr), ST (X.blk s H scope (compEnvC scope cl C X.env) fp) WN c t)
    (hk : ∀ (s : Shared) (H : Hp) (C : Addr) (cl : List (Str × Addr)) (fp : List Addr), SE (X.blk s H scope (compEnvC scope cl C X.env) fp) WN kx k)
    (he : ∀ (s : Shared) (H : Hp) (C : Addr) (cl : List (Str × Addr)) (fp : List Addr), SE (X.blk s H scope (compEnvC scope cl C X.env) fp) WN vx f) (hs : ∀ i ∈ p.slots, i ∈ own.map (·.2)) (hy : X.N[i]? = some y := by rfl) (hyl : X.env.scope.names.lookup y = some .local := by rfl)
    (hsw : swapsWith (.DictComp kx vx [⟨tg, iter, [c], 0⟩] scope pos) (some (.Name y py)) spos.line X.env = pure true := by rfl) (hf : ∀ x, foldedSetIterable iter X.env x = pure x := by intro _; rfl) :
    SS X W (.Assign [.Name y py] (.DictComp kx vx [⟨tg, iter, [c], 0⟩] scope pos) spos) (sSet (asg i) (eDc (own.map (·.2)) fi p t k f)) :=
  (ps_setDc hc hN hy hyl hsw hi ok hg (fun s H C cl fp => pts_one (ht s H C cl fp)) hk he hf).imp fun D σ H h => dcs_ok hs (fun _ _ _ h => h) h
end
end Fd
/-! Fd: list(range(..)), o[i] += e. -/
namespace Fd
open PySem PySem.Spec PyProof.Rows L2
def lrD (a b : Int) : List D := (List.range (b - a).toNat).map fun (k : Nat) => .int (a + k)
def opLR1 : List D → Option RV
  | [.int b] => if -16777216 ≤ b ∧ b ≤ 16777216 then some (.new (.list (lrD 0 b))) else none
  | _ => none
def opLR2 : List D → Option RV
  | [.int a, .int b] => if (-8000000 ≤ a ∧ a ≤ 8000000) ∧ (-8000000 ≤ b ∧ b ≤ 8000000) then some (.new (.list (lrD a b))) else none
  | _ => none
theorem lr_rep (K : Fr) (F : Hp) (a b : Int) : RepL K F (rgV a b) (lrD a b) := by
  unfold rgV lrD
  induction (List.range (b - a).toNat) with
  | nil => exact .nil
  | cons x xs ih => exact .cons (.int _) ih
section
variable {X : Cx} {W : WX} {a b : Expr} {f g : M RV} {p q pos pos' : Pos}
theorem se_lr1 (hc : X.calm = true) (hgl : Gl X "list") (hml : X.mg "list" = none) (hgr : Gl X "range") (hmr : X.mg "range" = none) (h : SE X W a f) (na : starEach [a] X.env = (false, eval a X.env) :: starEach [] X.env := by rfl) (na2 : starEach [.Call (.Name "range" q) [a] [] pos'] X.env = (false, eval (.Call (.Name "range" q) [a] [] pos') X.env) :: starEach [] X.env := by rfl) :
    SE X W (.Call (.Name "list" p) [.Call (.Name "range" q) [a] [] pos'] [] pos) (eN opLR1 [f]) := (pe_listRg hc hgl hml (prg_1 hgr hmr h na) na2).imp fun σ H Q h => by
  have h1 : tAs X.K X.mg W [f] σ H (fun xs H1 => rDN X.K opLR1 xs H1 Q) := argN_ok h
  refine tE_mono (fun x H1 z => ?_) h1
  obtain ⟨F, ds, hF, hx, hz⟩ := z
  unfold opLR1 at hz
  split at hz
  · rename_i n
    obtain ⟨v, e, rv⟩ := repvL1 hx
    cases e
    have := repv_int rv; subst this
    split at hz
    · rename_i hn
      refine ⟨n, rfl, ⟨by omega, by omega, by omega, by omega, by omega⟩, fin_lst hz hF (lr_rep _ _ _ _)⟩
    · exact hz.elim
  · exact hz.elim
theorem se_lr2 (hc : X.calm = true) (hgl : Gl X "list") (hml : X.mg "list" = none) (hgr : Gl X "range") (hmr : X.mg "range" = none) (h : SE X W a f) (h' : SE X W b g) (na : starEach [a, b] X.env = (false, eval a X.env) :: starEach [b] X.env := by rfl) (nb : starEach [b] X.env = (false, eval b X.env) :: starEach [] X.env := by rfl) (hp : (backTo pos' (starEach [b] X.env)).any (·.1) = false := by rfl)
    (na2 : starEach [.Call (.Name "range" q) [a, b] [] pos'] X.env = (false, eval (.Call (.Name "range" q) [a, b] [] pos') X.env) :: starEach [] X.env := by rfl) :
    SE X W (.Call (.Name "list" p) [.Call (.Name "range" q) [a, b] [] pos'] [] pos) (eN opLR2 [f, g]) := (pe_listRg hc hgl hml (prg_2 hgr hmr h h' na nb hp) na2).imp fun σ H Q h => by
  have h1 : tAs X.K X.mg W [f, g] σ H (fun xs H1 => rDN X.K opLR2 xs H1 Q) := argN_ok h
  refine tE_mono (fun x H1 z => tE_mono (fun y H2 z => ?_) z) h1
  obtain ⟨F, ds, hF, hx, hz⟩ := z
  unfold opLR2 at hz
  split at hz
  · rename_i i j
    obtain ⟨v, w, e, rv, rw⟩ := repvL2 hx
    cases e
    have := repv_int rv; subst this
    have := repv_int rw; subst this
    split at hz
    · rename_i hn
      obtain ⟨⟨n1, n2⟩, n3, n4⟩ := hn
      refine ⟨i, j, rfl, rfl, ⟨by omega, by omega, by omega, by omega, by omega⟩, fin_lst hz hF (lr_rep _ _ _ _)⟩
    · exact hz.elim
  · exact hz.elim
theorem ss_augS {o i e : Expr} {fo fi : M RV} {get op : D → D → Option RV} {ch : D → D → D → Option D} {k : Operator} {tpos : Pos} (hg : OpG X get) (hop : OpI X k op) (hp : OpP X ch) (ho : SE X W o fo) (hi : SE X W i fi) (he : SE X W e f)
    (ha : ∀ ov iv new, augStore i ov iv new = (do holding [new, ov, iv] (setItem ov iv new); release [new, ov, iv] []; pure .next) := by intros; rfl) : SS X W (.AugAssign (.Subscript o i tpos) k e pos) (sAugS get op ch fo fi f) := (ps_augS ho hi hg he hop hp ha).imp fun D σ H ⟨F, G, avs, ρ, s, p⟩ => by
  unfold sAugS at p
  refine tE_mono (fun ov H1 z => ?_) (step SPost.rest s Held.nil p)
  obtain ⟨ro, F1, ρ1, e1, s1, h1, p1⟩ := z
  refine tE_mono (fun iv H2 z => ?_) (step SPost.rest s1 h1 p1)
  obtain ⟨ri, F2, ρ2, e2, s2, h2, p2⟩ := z
  refine step2 SPost.rest s2 h2 (h2.ok (ov, ro) (by simp)) (h2.ok (iv, ri) (by simp)) p2 fun xv rx F3 H3 e3 s3 h3 n3 p3 => ?_
  cases rx with
  | new d => exact p3.elim
  | slot j => exact p3.elim
  | sh dx =>
    have p3 : SPost X.K X.mg G avs W D F3 (bnd f (fun y => bnd (ap2 op (.sh dx) y) fun z => bnd (fzs [z, ri]) fun ds => bnd (put2 ch ro ds) fun _ => ret .nx) ρ2) := p3
    refine tE_mono (fun yv H4 z => ?_) (step SPost.rest s3 h3 p3)
    obtain ⟨ry, F4, ρ4, e4, s4, h4, p4⟩ := z
    refine step2 SPost.rest s4 h4 (h4.ok (xv, .sh dx) (by simp)) (h4.ok (yv, ry) (by simp)) p4 fun zv rz F5 H5 e5 s5 h5 n5 p5 => ?_
    have hx := h5.slot (x := ov) (r := ro) (by simp)
    have h6 : Held X.K F5 G ρ4 σ H5 ([] ++ [zv, iv].zip [rz, ri]) := ⟨fun p hp => h5.ok p (by
      have hp : p = (zv, rz) ∨ p = (iv, ri) := by simpa using hp
      rcases hp with z | z <;> (rw [z]; simp)), ?_⟩
    · obtain ⟨F6, ρ6, ds, e6, s6, h7, r6, p6⟩ := fzs_ok SPost.rest rfl s5 h6 p5
      refine rPut_mono (fun H7 z => ?_) (put2_ok SPost.rest s6 hx r6 p6)
      obtain ⟨ρ7, s7, p7⟩ := z
      exact p7 σ F6 H7 (Ext.refl F6 G) s7
    · have nd := h5.nd
      have sub : List.Sublist [(iv, ri), (zv, rz)] ([] ++ [(ov, ro)] ++ [(iv, ri)] ++ [(xv, RV.sh dx)] ++ [(yv, ry)] ++ [(zv, rz)]) := .cons _ (.cons_cons _ (.cons _ (.cons _ (.cons_cons _ .slnil))))
      have n2 := nd.sublist (List.Sublist.filterMap _ sub)
      exact ((List.Perm.swap (iv, ri) (zv, rz) []).filterMap _).nodup_iff.mpr n2
end
end Fd
/-! Fd: o[i] += e over lists. -/
namespace Fd
open PySem PySem.Spec PyProof.Rows L2
section
variable {X : Cx}
theorem gt_list : PGet X (rIxL X.K) := by
  intro pins s σ H x y v u Q I rx ry h
  obtain ⟨p, xs, i, z, rfl, rfl, hq, he, q⟩ := h
  cases rx
  obtain ⟨t, rfl⟩ := ry
  obtain ⟨its, r, pl, hz⟩ := I.list hq
  obtain ⟨j, h1, h2, h3, h4, h5⟩ := atI_get he
  obtain ⟨w, ew, rw'⟩ := r.get h2
  have hl := r.length
  have hn := line63
  have fin : EP X pins σ Q w s := ⟨z, H, I, rw', q⟩
  by_cases h0 : 0 ≤ i
  · have hj : i.toNat = j := by
      rw [seqIndex_of h0 h5] at h1
      exact Option.some.inj h1
    exact wpAny_getItem_list pl.isList h0 (by omega) (by rw [hj]; simpa using ew) fin
  · have hj : (i + (its.toArray.size : Int)).toNat = j := by
      rw [seqIndex_neg (by omega) h4] at h1
      rw [List.size_toArray, ← hl]
      exact Option.some.inj h1
    exact wpAny_getItem_list_neg pl.isList (by omega) (by rw [List.size_toArray] <;> omega) (by omega) (by rw [hj]; simpa using ew) fin
/-- a list read at a place -/
def opIxL : D → D → Option RV
  | .list xs, .int i => (atI xs i).map .sh
  | _, _ => none
theorem gt_d : OpG X opIxL := fun pins s σ H x y v u Q I rx ry ⟨F, d, e, hF, hx, hy, h⟩ => by
  unfold opIxL at h
  split at h
  · rename_i xs i
    have := repv_int hy; subst y
    obtain ⟨a, ys, rfl, h1, h2⟩ := repv_list hx hF
    cases e : atI xs i with
    | none => rw [e] at h; exact h.elim
    | some d =>
      rw [e] at h
      obtain ⟨v', q1, q2⟩ := h2.at e
      exact gt_list pins s σ H _ _ v u Q I rx ry ⟨a, ys, i, v', rfl, rfl, h1, q1, fin_sh h hF q2⟩
  · exact h.elim
end
end Fd
/-! Fd: dict(d). -/
namespace Fd
open PySem PySem.Spec PyProof.Rows L2
def opDict : List D → Option RV
  | [.dict (e :: kvs)] => if isK e.1 = true then some (.new (.dict (e :: kvs))) else none
  | _ => none
section
variable {X : Cx}
theorem cr_ddict : OpN X (.type "dict") opDict := CallR.imp call_dictD fun xs H Q ⟨F, ds, hF, hx, h⟩ => by
  unfold opDict at h
  split at h
  · rename_i e kvs
    obtain ⟨v, rfl, rv⟩ := repvL1 hx
    split at h
    · rename_i hk
      obtain ⟨a, rfl, g⟩ := repv_dict rv hF
      rcases g with ⟨ks, g, r⟩ | ⟨ks, g, r⟩
      · refine ⟨a, ks, rfl, g, fun p hp => ?_⟩
        have gr := Grow.fresh (o := .dK ks) hF hp
        exact h p F _ gr hp (hF.free hp) (.inl ⟨ks, upd_same, r⟩)
      · exfalso
        cases r
        unfold isK key1 at hk
        cases hk
    · exact h.elim
  · exact h.elim
end
end Fd
/-! Fd: sorted(set(a list of whole numbers)). -/
namespace Fd
open PySem PySem.Spec PyProof.Rows L2
section
variable {P : Program} {w : World} {A : Around} {E : Value → Shared → Prop} {s : Shared}
/-- a set that was made just now, and the heap with it -/
abbrev nuSet (w : World) : Obj := { cls := .type "set", dict := none, data := .set #[] 0 (.fresh 0 0 (!w.params.followText "set-order")) }
abbrev hpSet (w : World) (h : Heap) : Heap := h.push (nuSet w)
/-- the set of ns stands in the next place; older objects are as they were -/
def SetMade (w : World) (s : Shared) (ns : List Int) (u : Shared) : Prop :=
  ∃ (h' : Heap) (t c : Nat), u = { s with heap := h', toks := t } ∧ SetR w h' s.heap.objs.size (fun j => decide (j ∈ ns)) c ∧ c ≤ ns.length ∧ ∀ b o, s.heap.get? b = some o → h'.get? b = some o
/-- the walk over the list, from the first item on -/
theorem fill_set {l : Addr} {its : Array Value} {ns : List Int} {R : Result → Shared → Prop} (hd : A.in1.handled = none) (hl : s.heap.IsList l its) (hi : IntsAre its.toList ns) (hb : ns.length + 1 < scanBound)
    (hR : ∀ u, SetMade w s ns u → R (.ok (.ret .none)) u) :
    codeAny (model P w) A (.builtin "set.update.loop" ⟨[.ref s.heap.objs.size, .ref (hpSet w s.heap).objs.size], []⟩) R
      { s with heap := (hpSet w s.heap).push { cls := .type "list_iterator", data := .fields #[.ref l, .int 0 0] } } := by
  have nl : its.size = ns.length := by rw [← Array.length_toList]; exact IntsAre.length hi
  have z1 : (hpSet w s.heap).objs.size = s.heap.objs.size + 1 := Heap.size_push ..
  have ll : l < s.heap.objs.size := by
    obtain ⟨o, ho, _⟩ := hl
    exact Heap.lt_size ho
  have n1 : l ≠ (hpSet w s.heap).objs.size := fun e => by
    rw [z1] at e
    exact absurd ll (by rw [e]; exact Nat.not_lt.mpr (Nat.le_succ _))
  have n2 : s.heap.objs.size ∉ [(hpSet w s.heap).objs.size, l] := by
    intro m
    rcases List.mem_cons.mp m with e | e
    · rw [z1] at e
      exact Nat.ne_of_lt (Nat.lt_succ_self _) e
    · exact absurd ll (by rw [← List.mem_singleton.mp e]; exact Nat.lt_irrefl _)
  have hv : ∀ (i : Nat) (v : Value), its[i]? = some v → ∃ k t, ns[i]? = some k ∧ v = .int k t := by
    intro i v e
    have e1 : its.toList[i]? = some v := by rw [Array.getElem?_toList]; exact e
    have lt : i < ns.length := by
      rw [← nl]
      exact (Array.getElem?_eq_some_iff.mp e).1
    obtain ⟨t, e2⟩ := IntsAre.int_at hi i v e1
    refine ⟨ns[i], t, List.getElem?_eq_getElem lt, ?_⟩
    rw [e2]
    simp [List.getD_eq_getElem?_getD, lt]
  have W := (Walks.list (prog := P) (w := w) hd (hpSet w s.heap).objs.size l n1 its).toS
  have g0 : (hpSet w s.heap).get? s.heap.objs.size = some (nuSet w) := Heap.get?_push_size _ rfl
  refine set_update_ints W s.heap.objs.size n2 ns nl hb hv its.size 0 _ (by omega) (by omega) ⟨⟨_, Heap.get?_push_size _ rfl, rfl, rfl⟩, (hl.push _).push _⟩ ⟨0, Nat.le_refl 0, setR_new_at (Heap.get?_push_of_some _ g0)⟩ ?_
  intro u c m hc S
  refine hR u ?_
  obtain ⟨h2, g2, d2, t2, os2⟩ := u
  obtain rfl : g2 = s.gens := m.gens
  obtain rfl : d2 = s.drawn := m.drawn
  obtain rfl : os2 = s.os := m.os
  refine ⟨h2, t2, c, rfl, S, by omega, fun b o e => m.heap b o (fun mm => ?_) (Heap.get?_push_of_some _ (Heap.get?_push_of_some _ e))⟩
  have lb := Heap.lt_size e
  rcases List.mem_cons.mp mm with q | q
  · exact Nat.ne_of_lt lb q
  · have q := List.mem_singleton.mp q
    rw [z1] at q
    exact absurd lb (by rw [q]; exact Nat.not_lt.mpr (Nat.le_succ _))
/-- set.__init__ upon the list -/
theorem init_set {l : Addr} {its : Array Value} {ns : List Int} (hd : A.handled = none) (hl : s.heap.IsList l its) (hi : IntsAre its.toList ns) (hb : ns.length + 1 < scanBound) :
    codeAny (model P w) A (.call (.builtin "set.__init__") ⟨[.ref s.heap.objs.size, .ref l], []⟩) (wants (fun r u => r = .none ∧ SetMade w s ns u) E) { s with heap := hpSet w s.heap } := by
  have g0 : (hpSet w s.heap).get? s.heap.objs.size = some (nuSet w) := Heap.get?_push_size _ rfl
  have ty : Shared.TypeIs { s with heap := hpSet w s.heap } (.ref s.heap.objs.size) "set" := ⟨_, g0, rfl⟩
  refine codeAny_call_builtin PySem.F.called_set.init.plain PySem.F.entry_set_init (check_set_init_1 ty ?_)
  obtain ⟨⟨cl, od, dt, sl⟩, ho, hc, n, hdt⟩ := hl
  simp only at hc hdt
  subst hc hdt
  have ho2 : (hpSet w s.heap).get? l = some { cls := .type "list", dict := od, data := .seq its n, slots := sl } := Heap.get?_push_of_some _ ho
  have hl1 : (hpSet w s.heap).IsList l its := ⟨_, ho2, rfl, n, rfl⟩
  have c1 := PySem.F.sub_list_set
  have c2 := PySem.F.sub_list_frozenset
  have c3 : (Value.type "list" == Value.type "dict") = false := by decide
  unfold Builtin.«set.__init__» noKeywords Builtin.Frozenset.updateFrom
  generalize hq : pyIter = q
  wp_walk
  subst hq
  refine wpAny_pyIter_list hl1 (wpAny_bind (wpAny_runValue ?_))
  refine fill_set (s := s) (by simp [hd]) ⟨_, ho, rfl, n, rfl⟩ hi hb fun u hu => ?_
  exact wpAny_pure (wpAny_pure ⟨rfl, hu⟩)
/-- set(l) -/
theorem call_set_ints {l : Addr} {its : Array Value} {ns : List Int} {Q : Value → Shared → Prop} (hd : A.handled = none) (hl : s.heap.IsList l its) (hi : IntsAre its.toList ns) (hb : ns.length + 1 < scanBound)
    (h : ∀ u, SetMade w s ns u → Q (.ref s.heap.objs.size) u) : wpAny (model P w) A (call (.type "set") [.ref l]) Q E s := by
  obtain ⟨c, tl, m0⟩ := PySem.F.called_set.mro
  have m1 := PySem.F.called_set.made
  have m2 := PySem.F.called_set.sub
  have m3 := PySem.F.called_set.notType
  have m4 := PySem.F.called_set.canCreate
  have m5 := PySem.F.typeCall_set_1 (.ref l)
  have m6 := PySem.F.called_set.init.lookup
  have m7 := PySem.F.called_set.init.bind (.ref s.heap.objs.size)
  refine wpAny_call (codeAny_of_tree ?_)
  show wpAny _ _ (callAny (.type "set") _) _ _ _
  refine wpAny_pure ⟨Code.quiet_builtin _ (by decide +kernel), codeAny_builtin PySem.F.entry_type_call ?_⟩
  rw [Around.under_plain (weight_type_call_type "set" [.ref l] []) rfl]
  repeat (any_goals (first | assumption | wp_step))
  refine codeAny_mono (code_set_led1 (.ref l) (E := E) (Q₁ := fun x u => x = .ref s.heap.objs.size ∧ u = { s with heap := hpSet w s.heap }) ⟨rfl, rfl⟩) fun r u e => ?_
  cases r with
  | error x => exact e
  | ok f =>
    cases f with
    | next => exact False.elim e
    | brk => exact False.elim e
    | cont => exact False.elim e
    | ret x =>
      obtain ⟨rfl, rfl⟩ := e
      have ty : Shared.TypeIs { s with heap := hpSet w s.heap } (.ref s.heap.objs.size) "set" := ⟨_, Heap.get?_push_size _ rfl, rfl⟩
      repeat (any_goals (first | assumption | wp_step))
      refine codeAny_mono (init_set (A := _) (E := E) (by simp [hd]) hl hi hb) fun r u e => ?_
      cases r with
      | error x => exact e
      | ok f =>
        cases f with
        | next => exact False.elim e
        | brk => exact False.elim e
        | cont => exact False.elim e
        | ret x =>
          obtain ⟨rfl, hu⟩ := e
          repeat (any_goals (first | assumption | wp_step))
          exact h _ hu
end
/-! ### the law of it -/
def insD (k : Int) : List Int → List Int
  | [] => [k]
  | x :: xs => if k < x then k :: x :: xs else if k = x then x :: xs else x :: insD k xs
def sortD (ns : List Int) : List Int := ns.foldr insD []
theorem insD_mem (k j : Int) : ∀ l : List Int, j ∈ insD k l ↔ j = k ∨ j ∈ l
  | [] => by simp [insD]
  | x :: xs => by
    unfold insD
    split
    · simp
    · split
      · rename_i e
        subst e
        simp
      · rw [List.mem_cons, insD_mem k j xs, List.mem_cons]
        constructor
        · rintro (h | h | h) <;> simp [h]
        · rintro (h | h | h) <;> simp [h]
theorem insD_up (k : Int) : ∀ l : List Int, l.Pairwise (· < ·) → (insD k l).Pairwise (· < ·)
  | [], _ => by simp [insD]
  | x :: xs, h => by
    have hx := List.pairwise_cons.mp h
    unfold insD
    split
    · rename_i c
      refine List.pairwise_cons.mpr ⟨fun y hy => ?_, h⟩
      rcases List.mem_cons.mp hy with e | e
      · subst e
        exact c
      · have := hx.1 y e
        omega
    · split
      · exact h
      · refine List.pairwise_cons.mpr ⟨fun y hy => ?_, insD_up k xs hx.2⟩
        rcases (insD_mem k y xs).mp hy with e | e
        · subst e
          omega
        · exact hx.1 y e
theorem sortD_mem (j : Int) : ∀ ns : List Int, j ∈ sortD ns ↔ j ∈ ns
  | [] => Iff.rfl
  | n :: ns => by
    show j ∈ insD n (sortD ns) ↔ _
    rw [insD_mem, sortD_mem j ns, List.mem_cons]
theorem sortD_up : ∀ ns : List Int, (sortD ns).Pairwise (· < ·)
  | [] => List.Pairwise.nil
  | n :: ns => insD_up n _ (sortD_up ns)
theorem up_ext : ∀ (a b : List Int), a.Pairwise (· < ·) → b.Pairwise (· < ·) → (∀ k, k ∈ a ↔ k ∈ b) → a = b
  | [], [], _, _, _ => rfl
  | [], y :: b, _, _, h => nomatch (h y).mpr List.mem_cons_self
  | x :: a, [], _, _, h => nomatch (h x).mp List.mem_cons_self
  | x :: a, y :: b, ha, hb, h => by
    have ha' := List.pairwise_cons.mp ha
    have hb' := List.pairwise_cons.mp hb
    have e : x = y := by
      rcases List.mem_cons.mp ((h x).mp List.mem_cons_self) with e | e
      · exact e
      · rcases List.mem_cons.mp ((h y).mpr List.mem_cons_self) with e2 | e2
        · exact e2.symm
        · have := ha'.1 y e2
          have := hb'.1 x e
          omega
    subst e
    rw [up_ext a b ha'.2 hb'.2 fun k => ?_]
    constructor
    · intro m
      rcases List.mem_cons.mp ((h k).mp (List.mem_cons_of_mem _ m)) with e | e
      · subst e
        have := ha'.1 _ m
        omega
      · exact e
    · intro m
      rcases List.mem_cons.mp ((h k).mpr (List.mem_cons_of_mem _ m)) with e | e
      · subst e
        have := hb'.1 _ m
        omega
      · exact e
def intD : D → Option Int
  | .int i => some i
  | _ => none
def intsD : List D → Option (List Int)
  | [] => some []
  | d :: ds => match intD d, intsD ds with
    | some i, some is => some (i :: is)
    | _, _ => none
theorem intsD_eq : ∀ {ds : List D} {ns : List Int}, intsD ds = some ns → ds = ns.map PyData.int
  | [], ns, h => by cases h; rfl
  | d :: ds, ns, h => by
    unfold intsD at h
    split at h
    · rename_i i is e1 e2
      cases h
      have e3 := intsD_eq e2
      unfold intD at e1
      split at e1
      · cases e1
        rw [e3]
        rfl
      · cases e1
    · cases h
theorem intsD_map : ∀ ns : List Int, intsD (ns.map PyData.int) = some ns
  | [] => rfl
  | n :: ns => by
    rw [List.map_cons]
    unfold intsD
    rw [intsD_map ns]
    rfl
/-- sorted(set(l)) -/
def opSSet : List D → Option RV
  | [.list ds] => match intsD ds with
    | some ns => if ns.length < 64 then some (.new (.list ((sortD ns).map PyData.int))) else none
    | none => none
  | _ => none
theorem repl_ints {K : Fr} {F : Hp} : ∀ {xs : List V} {ns : List Int}, RepL K F xs (ns.map PyData.int) → xs = ns.map V.int
  | _, [], .nil => rfl
  | _, n :: ns, .cons r h => by
    rw [List.map_cons, repl_ints h]
    cases r
    rfl
def rSetL (X : Cx) : List V → Hp → VK → Prop := fun vs H Q => ∃ (a : Addr) (ns : List Int), vs = [V.ref a] ∧ SqL X.K H a (ns.map V.int) ∧ ns.length < 64 ∧
  ∀ (p : Addr) (c : Nat), H p = none → c ≤ ns.length → Q (.ref p) (upd H p (SetO X.w p (fun j => decide (j ∈ ns)) c))
section
variable {X : Cx} {W : WX} {e : Expr} {f : M RV} {p q pos pos' : Pos}
theorem cr_setL (hc : X.calm = true) : CallR X (.type "set") (rSetL X) := by
  intro pins s σ H xs us Q I r h
  obtain ⟨a, ns, rfl, hs, hl, h⟩ := h
  obtain ⟨u, rfl, ru⟩ := Vals.one r
  cases ru
  obtain ⟨its, rits, pl, hz⟩ := I.list hs
  refine call_set_ints (I.ok.hd hc) pl.isList (ints_of_vals rits) (by unfold scanBound; omega) fun u hu => ?_
  obtain ⟨h', t, c, rfl, S, hc, hk⟩ := hu
  exact ⟨.ref _, _, I.laid (t' := t) hk (Nat.le_refl _) (setO_new S), rfl, h _ c (I.hok.fresh (Nat.le_refl _)) hc⟩
theorem se_sset (hc : X.calm = true) (hgs : Gl X "sorted") (hms : X.mg "sorted" = none) (hgt : Gl X "set") (hmt : X.mg "set" = none) (h : SE X W e f) (na : starEach [e] X.env = (false, eval e X.env) :: starEach [] X.env := by rfl)
    (na2 : starEach [.Call (.Name "set" q) [e] [] pos'] X.env = (false, eval (.Call (.Name "set" q) [e] [] pos') X.env) :: starEach [] X.env := by rfl) :
    SE X W (.Call (.Name "sorted" p) [.Call (.Name "set" q) [e] [] pos'] [] pos) (eN opSSet [f]) :=
  (pe_callB (cr_sortedSet hc) hgs hms PyProof.Rows.boot_sorted (pa_cons (pe_callTy (cr_setL hc) hgt hmt PyProof.Rows.boot_set (pa_cons h pa_nil na) (he := na)) pa_nil na2) (he := na2)).imp fun σ H Q h => by
  have h1 : tAs X.K X.mg W [f] σ H (fun xs H1 => rDN X.K opSSet xs H1 Q) := argN_ok h
  refine tE_mono (fun x H1 z => ?_) h1
  obtain ⟨F, ds, hF, hx, hz⟩ := z
  unfold opSSet at hz
  split at hz
  · rename_i ds
    obtain ⟨v, e, rv⟩ := repvL1 hx
    cases e
    split at hz
    · rename_i ns e1
      have e1 := intsD_eq e1
      subst e1
      split at hz
      · rename_i hn
        obtain ⟨a, xs, rfl, h2, h3⟩ := repv_list rv hF
        have h3 := repl_ints h3
        subst h3
        refine ⟨a, ns, rfl, h2, hn, fun p1 c h4 h5 => ?_⟩
        refine ⟨p1, _, c, rfl, upd_same, by omega, fun ms p2 m1 m2 m3 m4 => ?_⟩
        have em : ms = sortD ns := up_ext _ _ m1 (sortD_up ns) fun k => by rw [m2, decide_eq_true_eq, sortD_mem]
        subst em
        have n4 : H1 p2 = none := by
          by_cases c2 : p2 = p1
          · rw [c2]; exact h4
          · rw [← m4, upd_ne c2]
        have g1 := Grow.fresh (o := SetO X.w p1 (fun j => decide (j ∈ ns)) c) hF h4
        have g2 := Grow.fresh (o := .lst ((sortD ns).map V.int)) (g1.up) m4
        exact hz p2 _ _ (g1.trans g2) n4 (hF.free n4) ⟨_, upd_same, RepL.ints _⟩
      · exact hz.elim
    · exact hz.elim
  · exact hz.elim
end
/-! ### an expression's value frozen at once -/
def eFz (f : M RV) : M RV := bnd f fun r => bnd (fz r) fun d => ret (.sh d)
theorem se_fz {X : Cx} {W : WX} {e : Expr} {f : M RV} (h : SE X W e f) : SE X W e (eFz f) := h.imp fun σ H Q ⟨F, G, avs, ρ, s, p⟩ => by
  refine ⟨F, G, avs, ρ, s, ?_⟩
  unfold eFz bnd at p
  cases e1 : f ρ with
  | none => rw [e1] at p; exact p.elim
  | some z =>
    obtain ⟨o, ρ1⟩ := z
    rw [e1] at p
    cases o with
    | exc x => exact p
    | val r =>
      dsimp only at p
      cases e2 : fz r ρ1 with
      | none => rw [e2] at p; exact p.elim
      | some z =>
        obtain ⟨o, ρ2⟩ := z
        rw [e2] at p
        cases o with
        | exc x => exact (fz_noexc e2).elim
        | val d =>
          intro v F1 H1 g1 s1 r1
          obtain ⟨F2, g2, s2, r2⟩ := fz_ok s1 r1 e2
          exact p v F2 H1 (g1.trans g2) s2 r2
end Fd
/-! Fd, part 21: reckoning with mirrors. -/
namespace Fd
open PySem
section
variable {α β : Type} {ρ : Rho}
theorem bnd_ap (x : M α) (f : α → M β) (ρ : Rho) : bnd x f ρ = match x ρ with
  | none => none
  | some (.exc e, r) => some (.exc e, r)
  | some (.val a, r) => f a r := rfl
theorem ret_ap (a : α) (ρ : Rho) : Fd.ret a ρ = some (.val a, ρ) := rfl
theorem eC_ap (d : D) (ρ : Rho) : eC d ρ = some (.val (.sh d), ρ) := rfl
theorem stk_ap (ρ : Rho) : (stk : M α) ρ = none := rfl
theorem eV_ap (i : Nat) (ρ : Rho) : eV i ρ = match ρ[i]? with
  | some (.sh d) => some (.val (.sh d), ρ)
  | some (.own _) => some (.val (.slot i), ρ)
  | some (.arg _) => some (.val (.slot i), ρ)
  | _ => none := rfl
theorem ap2_ap (op : D → D → Option RV) (a b : RV) (ρ : Rho) : ap2 op a b ρ = match rd a ρ with
  | none => none
  | some d => match rd b ρ with
    | none => none
    | some e => fin (op d e) ρ := rfl
theorem ap1_ap (op : D → Option RV) (a : RV) (ρ : Rho) : ap1 op a ρ = match rd a ρ with
  | none => none
  | some d => fin (op d) ρ := rfl
theorem apN_ap (op : List D → Option RV) (rs : List RV) (ρ : Rho) : apN op rs ρ = match rds rs ρ with
  | none => none
  | some ds => fin (op ds) ρ := rfl
theorem rd_sh (d : D) (ρ : Rho) : rd (.sh d) ρ = some d := rfl
theorem rd_new (d : D) (ρ : Rho) : rd (.new d) ρ = some d := rfl
theorem rd_slot (i : Nat) (ρ : Rho) : rd (.slot i) ρ = match ρ[i]? with
    | some (.sh d) => some d
    | some (.own d) => some d
    | some (.arg d) => some d
    | _ => none := rfl
theorem rds_nil (ρ : Rho) : rds [] ρ = some [] := rfl
theorem rds_cons (r : RV) (rs : List RV) (ρ : Rho) : rds (r :: rs) ρ = match rd r ρ with
    | none => none
    | some d => match rds rs ρ with
      | none => none
      | some ds => some (d :: ds) := rfl
theorem fin_sh' (d : D) (ρ : Rho) : fin (some (.sh d)) ρ = some (.val (.sh d), ρ) := rfl
theorem fin_new' (d : D) (ρ : Rho) : fin (some (.new d)) ρ = some (.val (.new d), ρ) := rfl
theorem eB_ap (op : D → D → Option RV) (fa fb : M RV) (ρ : Rho) : eB op fa fb ρ = bnd fa (fun a => bnd fb fun b => ap2 op a b) ρ := rfl
theorem eU_ap (op : D → Option RV) (fa : M RV) (ρ : Rho) : eU op fa ρ = bnd fa (fun a => ap1 op a) ρ := rfl
theorem eN_ap (op : List D → Option RV) (fs : List (M RV)) (ρ : Rho) : eN op fs ρ = bnd (eS fs) (fun rs => apN op rs) ρ := rfl
theorem eS_nil (ρ : Rho) : eS [] ρ = some (.val [], ρ) := rfl
theorem eS_cons (f : M RV) (fs : List (M RV)) (ρ : Rho) : eS (f :: fs) ρ = bnd f (fun r => bnd (eS fs) fun rs => Fd.ret (r :: rs)) ρ := rfl
theorem tst_ap (f : M RV) (ρ : Rho) : tst f ρ = match f ρ with
  | none => none
  | some (.exc e, r) => some (.exc e, r)
  | some (.val v, r) => match rd v r with
    | some (.bool b) => some (.val b, r)
    | _ => none := by
  unfold tst bnd
  cases f ρ with
  | none => rfl
  | some z => obtain ⟨o, r⟩ := z; cases o <;> rfl
def okC : Option Cell → Bool
  | none => false
  | some (.arg _) => false
  | some _ => true
theorem okC_un : okC (some .un) = true := rfl
theorem okC_sh (d : D) : okC (some (.sh d)) = true := rfl
theorem okC_own (d : D) : okC (some (.own d)) = true := rfl
theorem asg_ap (i : Nat) (r : RV) (ρ : Rho) : asg i r ρ = if okC ρ[i]? = true then asg1 i r ρ else none := by
  unfold asg
  cases ρ[i]? with
  | none => rfl
  | some c => cases c <;> rfl
theorem asg1_sh (i : Nat) (d : D) (ρ : Rho) : asg1 i (.sh d) ρ = some (.val (), ρ.set i (.sh d)) := rfl
theorem asg1_new (i : Nat) (d : D) (ρ : Rho) : asg1 i (.new d) ρ = some (.val (), ρ.set i (.own d)) := rfl
theorem asg1_slot (i j : Nat) (ρ : Rho) : asg1 i (.slot j) ρ = match ρ[j]? with
    | some (.own d) => some (.val (), (ρ.set j (.sh d)).set i (.sh d))
    | some (.sh d) => some (.val (), ρ.set i (.sh d))
    | _ => none := rfl
theorem sSeq_ap (f g : M Fl) (ρ : Rho) : sSeq f g ρ = match f ρ with
  | none => none
  | some (.exc e, r) => some (.exc e, r)
  | some (.val .nx, r) => g r
  | some (.val x, r) => some (.val x, r) := by
  unfold sSeq bnd
  cases f ρ with
  | none => rfl
  | some z => obtain ⟨o, r⟩ := z; cases o with
    | exc x => rfl
    | val x => cases x <;> rfl
theorem sSet_ap (g : RV → M Unit) (f : M RV) (ρ : Rho) : sSet g f ρ = bnd f (fun r => bnd (g r) fun _ => Fd.ret .nx) ρ := rfl
theorem sRet_ap (f : M RV) (ρ : Rho) : sRet f ρ = bnd f (fun r => Fd.ret (.rt r)) ρ := rfl
theorem sEx_ap (f : M RV) (ρ : Rho) : sEx f ρ = bnd f (fun _ => Fd.ret .nx) ρ := rfl
theorem sNop_ap (ρ : Rho) : sNop ρ = some (.val .nx, ρ) := rfl
theorem sIf_ap (t : M Bool) (a b : M Fl) (ρ : Rho) : sIf t a b ρ = match t ρ with
  | none => none
  | some (.exc e, r) => some (.exc e, r)
  | some (.val x, r) => if x = true then a r else b r := by
  unfold sIf bnd
  cases t ρ with
  | none => rfl
  | some z => obtain ⟨o, r⟩ := z; cases o with
    | exc x => rfl
    | val x => cases x <;> rfl
theorem eIf_ap (t : M Bool) (a b : M RV) (ρ : Rho) : eIf t a b ρ = match t ρ with
  | none => none
  | some (.exc e, r) => some (.exc e, r)
  | some (.val x, r) => if x = true then a r else b r := by
  unfold eIf bnd
  cases t ρ with
  | none => rfl
  | some z => obtain ⟨o, r⟩ := z; cases o with
    | exc x => rfl
    | val x => cases x <;> rfl
theorem tAnd_ap (a b : M Bool) (ρ : Rho) : tAnd a b ρ = match a ρ with
  | none => none
  | some (.exc e, r) => some (.exc e, r)
  | some (.val x, r) => if x = true then b r else some (.val false, r) := by
  unfold tAnd bnd
  cases a ρ with
  | none => rfl
  | some z => obtain ⟨o, r⟩ := z; cases o with
    | exc x => rfl
    | val x => cases x <;> rfl
theorem tOr_ap (a b : M Bool) (ρ : Rho) : tOr a b ρ = match a ρ with
  | none => none
  | some (.exc e, r) => some (.exc e, r)
  | some (.val x, r) => if x = true then some (.val true, r) else b r := by
  unfold tOr bnd
  cases a ρ with
  | none => rfl
  | some z => obtain ⟨o, r⟩ := z; cases o with
    | exc x => rfl
    | val x => cases x <;> rfl
theorem tNot_ap (a : M Bool) (ρ : Rho) : tNot a ρ = match a ρ with
  | none => none
  | some (.exc e, r) => some (.exc e, r)
  | some (.val x, r) => some (.val (!x), r) := by
  unfold tNot bnd
  cases a ρ with
  | none => rfl
  | some z => obtain ⟨o, r⟩ := z; cases o <;> rfl
theorem eAnd_ap (fa fb : M RV) (ρ : Rho) : eAnd fa fb ρ = match tst fa ρ with
  | none => none
  | some (.exc e, r) => some (.exc e, r)
  | some (.val x, r) => if x = true then fb r else some (.val (.sh (.bool false)), r) := by
  unfold eAnd
  rw [bnd_ap]
  cases tst fa ρ with
  | none => rfl
  | some z => obtain ⟨o, r⟩ := z; cases o with
    | exc x => rfl
    | val x => cases x <;> rfl
theorem eOr_ap (fa fb : M RV) (ρ : Rho) : eOr fa fb ρ = match tst fa ρ with
  | none => none
  | some (.exc e, r) => some (.exc e, r)
  | some (.val x, r) => if x = true then some (.val (.sh (.bool true)), r) else fb r := by
  unfold eOr
  rw [bnd_ap]
  cases tst fa ρ with
  | none => rfl
  | some z => obtain ⟨o, r⟩ := z; cases o with
    | exc x => rfl
    | val x => cases x <;> rfl
theorem eNot_ap (fa : M RV) (ρ : Rho) : eNot fa ρ = match tst fa ρ with
  | none => none
  | some (.exc e, r) => some (.exc e, r)
  | some (.val x, r) => some (.val (.sh (.bool (!x))), r) := by
  unfold eNot
  rw [bnd_ap]
  cases tst fa ρ with
  | none => rfl
  | some z => obtain ⟨o, r⟩ := z; cases o <;> rfl
theorem eCh_ap (op op' : D → D → Option RV) (fa fb fc : M RV) (ρ : Rho) : eCh op op' fa fb fc ρ = bnd fa (fun a => bnd fb fun b => bnd (ap2 op a b) fun r => match r with
  | .sh (.bool true) => bnd fc fun c => ap2 op' b c
  | .sh (.bool false) => Fd.ret (.sh (.bool false))
  | _ => stk) ρ := rfl
theorem eTup_ap (fs : List (M RV)) (ρ : Rho) : eTup fs ρ = bnd (eS fs) (fun rs => bnd (fzs rs) fun ds => Fd.ret (.sh (.tuple ds))) ρ := rfl
theorem eLst_ap (fs : List (M RV)) (ρ : Rho) : eLst fs ρ = bnd (eS fs) (fun rs => bnd (fzs rs) fun ds => Fd.ret (.new (.list ds))) ρ := rfl
theorem fzs_nil (ρ : Rho) : fzs [] ρ = some (.val [], ρ) := rfl
theorem fzs_cons (r : RV) (rs : List RV) (ρ : Rho) : fzs (r :: rs) ρ = bnd (fz r) (fun d => bnd (fzs rs) fun ds => Fd.ret (d :: ds)) ρ := rfl
theorem fz_sh (d : D) (ρ : Rho) : fz (.sh d) ρ = some (.val d, ρ) := rfl
theorem fz_new (d : D) (ρ : Rho) : fz (.new d) ρ = some (.val d, ρ) := rfl
theorem fz_slot (i : Nat) (ρ : Rho) : fz (.slot i) ρ = match ρ[i]? with
    | some (.own d) => some (.val d, ρ.set i (.sh d))
    | some (.sh d) => some (.val d, ρ)
    | _ => none := rfl
theorem chk_ap (k : Nat) (o : RV) (ρ : Rho) : chk k o ρ = match rd o ρ with
  | none => none
  | some d => if kind d = k then some (.val (), ρ) else none := rfl
theorem chkO_ap (k i : Nat) (ρ : Rho) : chkO k (.slot i) ρ = match ρ[i]? with
    | some (.own d) => if kind d = k then some (.val (), ρ) else none
    | some (.arg d) => if kind d = k then some (.val (), ρ) else none
    | _ => none := rfl
theorem eMth_ap (k : Nat) (op : List D → Option RV) (fo : M RV) (fs : List (M RV)) (ρ : Rho) : eMth k op fo fs ρ = bnd fo (fun o => bnd (chk k o) fun _ => bnd (eS fs) fun rs => apN op (o :: rs)) ρ := rfl
theorem eChg_ap (k : Nat) (ch : List D → D → Option (D × D)) (fo : M RV) (fs : List (M RV)) (ρ : Rho) : eChg k ch fo fs ρ = bnd fo (fun o => bnd (chkO k o) fun _ => bnd (eS fs) fun rs => bnd (fzs rs) fun ds => chg (ch ds) o) ρ := rfl
theorem chg_ap (ch : D → Option (D × D)) (i : Nat) (ρ : Rho) : chg ch (.slot i) ρ = match ρ[i]? with
    | some (.own d) => (match ch d with
      | some (d', v) => some (.val (.sh v), ρ.set i (.own d'))
      | none => none)
    | some (.arg d) => (match ch d with
      | some (d', v) => some (.val (.sh v), ρ.set i (.arg d'))
      | none => none)
    | _ => none := rfl
theorem gPut_ap (ch : D → D → D → Option D) (fo fi : M RV) (r : RV) (ρ : Rho) : gPut ch fo fi r ρ = bnd fo (fun o => bnd fi fun ix => bnd (fzs [r, ix]) fun ds => put2 ch o ds) ρ := rfl
theorem put2_ap (ch : D → D → D → Option D) (i : Nat) (v k : D) (ρ : Rho) : put2 ch (.slot i) [v, k] ρ = match ρ[i]? with
    | some (.own d) => (match ch k v d with
      | some d' => some (.val (), ρ.set i (.own d'))
      | none => none)
    | some (.arg d) => (match ch k v d with
      | some d' => some (.val (), ρ.set i (.arg d'))
      | none => none)
    | _ => none := rfl
theorem sAug_ap (i : Nat) (op : D → D → Option RV) (f : M RV) (ρ : Rho) : sAug i op f ρ = bnd (eV i) (fun a => bnd (shOnly a) fun _ => bnd f fun b => bnd (ap2 op a b) fun r => bnd (asg i r) fun _ => Fd.ret .nx) ρ := rfl
theorem shOnly_sh (d : D) (ρ : Rho) : shOnly (.sh d) ρ = some (.val (), ρ) := rfl
theorem gSeq_nil (ρ : Rho) : gSeq [] [] ρ = some (.val (), ρ) := rfl
theorem gSeq_cons (g : RV → M Unit) (gs : List (RV → M Unit)) (r : RV) (rs : List RV) (ρ : Rho) : gSeq (g :: gs) (r :: rs) ρ = bnd (g r) (fun _ => gSeq gs rs) ρ := rfl
theorem fzSlot_nil (ρ : Rho) : fzSlot [] ρ = some (.val [], ρ) := rfl
theorem fzSlot_sh (d : D) (rs : List RV) (ρ : Rho) : fzSlot (.sh d :: rs) ρ = bnd (fzSlot rs) (fun qs => Fd.ret (.sh d :: qs)) ρ := rfl
theorem fzSlot_new (d : D) (rs : List RV) (ρ : Rho) : fzSlot (.new d :: rs) ρ = bnd (fzSlot rs) (fun qs => Fd.ret (.new d :: qs)) ρ := rfl
theorem fzSlot_slot (i : Nat) (rs : List RV) (ρ : Rho) : fzSlot (.slot i :: rs) ρ = bnd (fz (.slot i)) (fun d => bnd (fzSlot rs) fun qs => Fd.ret (.sh d :: qs)) ρ := rfl
theorem sUnp_ap (gs : List (RV → M Unit)) (fs : List (M RV)) (ρ : Rho) : sUnp gs fs ρ = bnd (eS fs) (fun rs => bnd (fzSlot rs) fun qs => bnd (gSeq gs qs) fun _ => Fd.ret .nx) ρ := rfl
theorem sUnpR_ap (gs : List (RV → M Unit)) (fs : List (M RV)) (ρ : Rho) : sUnpR gs fs ρ = bnd (eS fs) (fun rs => bnd (fzSlot rs) fun qs => bnd (gSeq gs.reverse qs.reverse) fun _ => Fd.ret .nx) ρ := rfl
theorem gTup_ap (gs : List (RV → M Unit)) (r : RV) (ρ : Rho) : Fd.gTup gs r ρ = match rd r ρ with
  | some (.tuple ds) => if ds.length = gs.length then gSeq gs (ds.map .sh) ρ else none
  | _ => none := rfl
theorem eRep_ap (fa fb : M RV) (ρ : Rho) : eRep fa fb ρ = bnd fa (fun a => bnd fb fun b => bnd (newOnly a) fun _ => ap2 opRep a b) ρ := rfl
theorem newOnly_new (d : D) (ρ : Rho) : newOnly (.new d) ρ = some (.val (), ρ) := rfl
theorem eSl_ap (op : D → Option Int → Option Int → Option RV) (fa : M RV) (lo hi : Option (M RV)) (ρ : Rho) : eSl op fa lo hi ρ = bnd fa (fun a => bnd (ePart lo) fun i => bnd (ePart hi) fun j => ap3 op a i j) ρ := rfl
theorem ePart_none (ρ : Rho) : ePart none ρ = some (.val none, ρ) := rfl
theorem ePart_some (f : M RV) (ρ : Rho) : ePart (some f) ρ = match f ρ with
  | none => none
  | some (.exc e, r) => some (.exc e, r)
  | some (.val v, r) => match rd v r with
    | some (.int i) => some (.val (some i), r)
    | _ => none := by
  unfold ePart bnd
  dsimp only
  cases f ρ with
  | none => rfl
  | some z => obtain ⟨o, r⟩ := z; cases o <;> rfl
theorem ap3_ap (op : D → Option Int → Option Int → Option RV) (a : RV) (lo hi : Option Int) (ρ : Rho) : ap3 op a lo hi ρ = match rd a ρ with
  | none => none
  | some d => fin (op d lo hi) ρ := rfl
theorem eDct0_ap (ρ : Rho) : eDct0 ρ = some (.val (.new (.dict [])), ρ) := rfl
theorem eDct_ap (ps : List (M RV × M RV)) (ρ : Rho) : eDct ps ρ = bnd (eS (flat2 ps)) (fun rs => bnd (fzs rs) fun ds => fin (toD ds)) ρ := rfl
/-! calls of mirrors -/
theorem eF_ap (sem : Fn) (ms : List Bool) (fs : List (M RV)) (ρ : Rho) : eF sem ms fs ρ = bnd (eS fs) (fun rs => bnd (fzMask ms rs) fun qs => callD sem qs) ρ := rfl
theorem eFK_ap (sem : Fn) (ms : List Bool) (perm : List Nat) (fs : List (M RV)) (ρ : Rho) : eFK sem ms perm fs ρ = bnd (eS fs) (fun rs => bnd (fzMask ms (permL perm rs)) fun qs => callD sem qs) ρ := rfl
theorem fzMask_nil (ρ : Rho) : fzMask [] [] ρ = some (.val [], ρ) := rfl
theorem fzMask_t (ms : List Bool) (r : RV) (rs : List RV) (ρ : Rho) : fzMask (true :: ms) (r :: rs) ρ = bnd (fzMask ms rs) (fun qs => Fd.ret (r :: qs)) ρ := rfl
theorem fzMask_f (ms : List Bool) (r : RV) (rs : List RV) (ρ : Rho) : fzMask (false :: ms) (r :: rs) ρ = bnd (fz r) (fun d => bnd (fzMask ms rs) fun qs => Fd.ret (.sh d :: qs)) ρ := rfl
theorem callD_ap (sem : Fn) (qs : List RV) (ρ : Rho) : callD sem qs ρ = if (qs.filterMap slotIx).Nodup then (match lendC ρ qs with
  | none => none
  | some cs => match sem cs with
    | none => none
    | some (.exc x, cs') => some (.exc x, back qs cs' ρ)
    | some (.val r, cs') => some (.val r, back qs cs' ρ)) else none := rfl
theorem lendC_nil (ρ : Rho) : lendC ρ [] = some [] := rfl
theorem lendC_ap (ρ : Rho) (r : RV) (rs : List RV) : lendC ρ (r :: rs) = match lend1 ρ r, lendC ρ rs with
    | some c, some cs => some (c :: cs)
    | _, _ => none := rfl
theorem lend1_sh' (ρ : Rho) (d : D) : lend1 ρ (.sh d) = some (.sh d) := rfl
theorem lend1_new (ρ : Rho) (d : D) : lend1 ρ (.new d) = some (.arg d) := rfl
theorem lend1_slot (ρ : Rho) (i : Nat) : lend1 ρ (.slot i) = match ρ[i]? with
    | some (.own d) => some (.arg d)
    | some (.arg d) => some (.arg d)
    | some (.sh d) => some (.sh d)
    | _ => none := rfl
theorem back_nil (cs : List Cell) (ρ : Rho) : back [] cs ρ = ρ := by unfold back; rfl
theorem back_sh (d : D) (rs : List RV) (c : Cell) (cs : List Cell) (ρ : Rho) : back (.sh d :: rs) (c :: cs) ρ = back rs cs ρ := by cases c <;> rfl
theorem back_new (d : D) (rs : List RV) (c : Cell) (cs : List Cell) (ρ : Rho) : back (.new d :: rs) (c :: cs) ρ = back rs cs ρ := by cases c <;> rfl
theorem back_arg (i : Nat) (d : D) (rs : List RV) (cs : List Cell) (ρ : Rho) : back (.slot i :: rs) (.arg d :: cs) ρ = back rs cs (back1 i d ρ) := rfl
theorem back_shc (i : Nat) (d : D) (rs : List RV) (cs : List Cell) (ρ : Rho) : back (.slot i :: rs) (.sh d :: cs) ρ = back rs cs ρ := rfl
theorem back1_ap (i : Nat) (d : D) (ρ : Rho) : back1 i d ρ = match ρ[i]? with
  | some (.own _) => ρ.set i (.own d)
  | some (.arg _) => ρ.set i (.arg d)
  | _ => ρ := rfl
/-- a def -/
theorem run_ap (n : Nat) (body : M Fl) (as : List Cell) : Fd.run n body as = match body (as ++ List.replicate (n - as.length) .un) with
  | none => none
  | some (o, ρ) => match keepArg as ρ with
    | none => none
    | some cs => match o with
      | .exc x => some (.exc x, cs)
      | .val .nx => some (.val (.sh .none), cs)
      | .val (.rt (.sh d)) => some (.val (.sh d), cs)
      | .val (.rt (.new d)) => some (.val (.new d), cs)
      | .val (.rt (.slot i)) => (match ρ[i]? with
        | some (.own d) => some (.val (.new d), cs)
        | some (.sh d) => some (.val (.sh d), cs)
        | _ => none)
      | _ => none := rfl
theorem keepArg_nil (ρ : List Cell) : keepArg [] ρ = some [] := by unfold keepArg; rfl
theorem keepArg_sh (d : D) (as : List Cell) (c : Cell) (cs : List Cell) : keepArg (.sh d :: as) (c :: cs) = (keepArg as cs).map (.sh d :: ·) := rfl
theorem keepArg_arg (d e : D) (as : List Cell) (cs : List Cell) : keepArg (.arg d :: as) (.arg e :: cs) = (keepArg as cs).map (.arg e :: ·) := rfl
/-! loops -/
theorem loopD_nil (p : Pat) (b : M Fl) (ρ : Rho) : loopD p b [] ρ = some (.val .nx, ρ) := rfl
theorem loopD_cons (p : Pat) (b : M Fl) (d : D) (ds : List D) (ρ : Rho) : loopD p b (d :: ds) ρ = match patM p d ρ with
  | none => none
  | some (.exc e, r) => some (.exc e, r)
  | some (.val _, r) => match b r with
    | none => none
    | some (.exc e, r) => some (.exc e, r)
    | some (.val .nx, r) => loopD p b ds r
    | some (.val .ct, r) => loopD p b ds r
    | some (.val .bk, r) => some (.val .nx, r)
    | some (.val (.rt v), r) => some (.val (.rt v), r) := by
  conv => lhs; unfold loopD
  rw [bnd_ap]
  cases patM p d ρ with
  | none => rfl
  | some z => obtain ⟨o, r⟩ := z; cases o with
    | exc x => rfl
    | val u =>
      dsimp only
      rw [bnd_ap]
      cases b r with
      | none => rfl
      | some z => obtain ⟨o, r⟩ := z; cases o with
        | exc x => rfl
        | val x => cases x <;> rfl
theorem patM_nm (i : Nat) (d : D) (ρ : Rho) : patM (.nm i) d ρ = asg i (.sh d) ρ := rfl
theorem patM_tp (ps : List Pat) (ds : List D) (ρ : Rho) : patM (.tp ps) (.tuple ds) ρ = patMs ps ds ρ := rfl
theorem patMs_nil (ρ : Rho) : patMs [] [] ρ = some (.val (), ρ) := rfl
theorem patMs_cons (p : Pat) (ps : List Pat) (d : D) (ds : List D) (ρ : Rho) : patMs (p :: ps) (d :: ds) ρ = bnd (patM p d) (fun _ => patMs ps ds) ρ := rfl
theorem sFor_ap (fi : M (List D)) (p : Pat) (b : M Fl) (ρ : Rho) : sFor fi p b ρ = match fi ρ with
  | none => none
  | some (.exc e, r) => some (.exc e, r)
  | some (.val ds, r) => loopD p b ds r := by
  unfold sFor bnd
  cases fi ρ with
  | none => rfl
  | some z => obtain ⟨o, r⟩ := z; cases o <;> rfl
theorem iD_ap (f : M RV) (ρ : Rho) : iD f ρ = bnd f (fun r => bnd (fz r) fun d => opt (items d)) ρ := rfl
theorem iE_ap (f : M RV) (ρ : Rho) : iE f ρ = bnd f (fun r => bnd (fz r) fun d => opt ((items d).map (pairsD 0))) ρ := rfl
theorem opt_some (a : α) (ρ : Rho) : opt (some a) ρ = some (.val a, ρ) := rfl
theorem iN_ap (op : List D → Option (List D)) (fs : List (M RV)) (ρ : Rho) : iN op fs ρ = match eS fs ρ with
  | none => none
  | some (.exc e, r) => some (.exc e, r)
  | some (.val rs, r) => match rds rs r with
    | none => none
    | some ds => opt (op ds) r := by
  unfold iN bnd
  cases eS fs ρ with
  | none => rfl
  | some z => obtain ⟨o, r⟩ := z; cases o <;> rfl
end

end Fd
/-! Ma, part 1: plain facts: bounds of ints, operations under bounds. -/
namespace Ma
open PySem Fd
theorem log2_lt {n k : Nat} (h : n < 2 ^ k) (hk : 0 < k) : n.log2 < k := by
  by_cases h0 : n = 0
  · subst h0; simpa using hk
  · exact (Nat.log2_lt h0).mpr h
/-- an int of at most n bits -/
def Bd (i : Int) (n : Nat) : Prop := i.natAbs < 2 ^ n
instance (i : Int) (n : Nat) : Decidable (Bd i n) := inferInstanceAs (Decidable (i.natAbs < 2 ^ n))
theorem Bd.mono {i : Int} {n m : Nat} (h : Bd i n) (hm : n ≤ m) : Bd i m := Nat.lt_of_lt_of_le h (Nat.pow_le_pow_right (by decide) hm)
theorem Bd.mul {i j : Int} {n m : Nat} (h : Bd i n) (h' : Bd j m) : Bd (i * j) (n + m) := by
  unfold Bd at *
  rw [Int.natAbs_mul, Nat.pow_add]
  exact Nat.mul_lt_mul_of_lt_of_le h (Nat.le_of_lt h') (Nat.lt_of_le_of_lt (Nat.zero_le _) h')
theorem Bd.add {i j : Int} {n : Nat} (h : Bd i n) (h' : Bd j n) : Bd (i + j) (n + 1) := by
  unfold Bd at *
  have := Int.natAbs_add_le i j
  rw [Nat.pow_succ]
  omega
theorem Bd.of {i : Int} {n : Nat} (h0 : 0 ≤ i) (h : i < (2 ^ n : Nat)) : Bd i n := by
  unfold Bd
  omega
theorem Bd.few {i : Int} (h0 : 0 ≤ i) (h : i < 1099511627776) : Bd i 100 := (Bd.of (n := 40) h0 h).mono (by decide)
theorem mul_ok {i j : Int} {n m : Nat} (h : Bd i n) (h' : Bd j m) (hn : n ≤ 10000 := by decide) (hm : m ≤ 10000 := by decide) : opMul (.int i) (.int j) = some (.sh (.int (i * j))) := by
  have a := log2_lt (h.mono (show n ≤ 10001 by omega)) (by decide)
  have b := log2_lt (h'.mono (show m ≤ 10001 by omega)) (by decide)
  exact if_pos (by omega)
theorem mod_ok {i j : Int} (h : 0 < j) : opMod (.int i) (.int j) = some (.sh (.int (i % j))) := if_pos h
theorem fdiv_ok {i j : Int} {n : Nat} (h : 0 < j) (b : Bd j n) (hn : n ≤ 8000 := by decide) : opFdiv (.int i) (.int j) = some (.sh (.int (i / j))) := by
  have a := log2_lt (b.mono (show n ≤ 8001 by omega)) (by decide)
  exact if_pos ⟨h, by omega⟩
theorem add_int (i j : Int) : opAdd (.int i) (.int j) = some (.sh (.int (i + j))) := rfl
theorem sub_int (i j : Int) : opSub (.int i) (.int j) = some (.sh (.int (i - j))) := rfl
theorem iadd_int (i j : Int) : opIAdd (.int i) (.int j) = some (.sh (.int (i + j))) := rfl
theorem neg_int (i : Int) : opNeg (.int i) = some (.sh (.int (-i))) := rfl
theorem lt_int (i j : Int) : opLt (.int i) (.int j) = some (.sh (.bool (decide (i < j)))) := rfl
theorem le_int (i j : Int) : opLe (.int i) (.int j) = some (.sh (.bool (decide (i ≤ j)))) := rfl
theorem gt_int (i j : Int) : opGt (.int i) (.int j) = some (.sh (.bool (decide (j < i)))) := rfl
theorem ge_int (i j : Int) : opGe (.int i) (.int j) = some (.sh (.bool (decide (j ≤ i)))) := rfl
theorem eq_int (i j : Int) : opEq (.int i) (.int j) = some (.sh (.bool (i == j))) := by
  have e : opEq (.int i) (.int j) = if (SeqAt.shaped (.int i) && SeqAt.shaped (.int j)) = true then bl (PyData.eqv (.int i) (.int j)) else none := rfl
  rw [e, if_pos (by simp [SeqAt.shaped, PyData.canLay0, PyData.depth])]
  simp [bl, PyData.eqv]
theorem ne_int (i j : Int) : opNe (.int i) (.int j) = some (.sh (.bool (!(i == j)))) := by
  have e : opNe (.int i) (.int j) = if (SeqAt.shaped (.int i) && SeqAt.shaped (.int j)) = true then bl (!PyData.eqv (.int i) (.int j)) else none := rfl
  rw [e, if_pos (by simp [SeqAt.shaped, PyData.canLay0, PyData.depth])]
  simp [bl, PyData.eqv]
theorem eq_str (x y : Str) : opEq (.str x) (.str y) = some (.sh (.bool (decide (x = y)))) := rfl
theorem ne_str (x y : Str) : opNe (.str x) (.str y) = some (.sh (.bool (!decide (x = y)))) := rfl
theorem len_list (xs : List D) : opLen [.list xs] = some (.sh (.int xs.length)) := rfl
theorem len_tup (xs : List D) : opLen [.tuple xs] = some (.sh (.int xs.length)) := rfl
theorem int_bool (b : Bool) : opInt [.bool b] = some (.sh (.int (if b then 1 else 0))) := rfl
theorem append_list {xs : List D} {v : D} (h : xs.length < 16777216) : chAppend [v] (.list xs) = some (.list (xs ++ [v]), .none) := if_pos h
theorem ix_list' {xs : List D} {i : Int} {d : D} (h : L2.atI xs i = some d) : opIx (.list xs) (.int i) = some (.sh d) := by
  show (L2.atI xs i).map RV.sh = _
  rw [h]
  rfl
theorem ix_tup' {xs : List D} {i : Int} {d : D} (h : L2.atI xs i = some d) : opIx (.tuple xs) (.int i) = some (.sh d) := by
  show (L2.atI xs i).map RV.sh = _
  rw [h]
  rfl
theorem atI_nat {α : Type} {xs : List α} {k : Nat} {d : α} (h : xs[k]? = some d) : L2.atI xs (k : Int) = some d := by
  have hk := (List.getElem?_eq_some_iff.mp h).1
  unfold L2.atI L2.ixN
  rw [if_pos (by omega), if_pos (by omega)]
  simpa using h
theorem atI_int {α : Type} {xs : List α} {i : Int} {d : α} (h0 : 0 ≤ i) (h : xs[i.toNat]? = some d) : L2.atI xs i = some d := by
  have := atI_nat h
  rwa [Int.toNat_of_nonneg h0] at this
/-! ### _law_mixed -/
def mixed (c k : Int) : Int := let n := (c % 2147483647 * (48271 + 2 * k * k) + 69621 * k + 11) % 2147483647; n * (n + 2 * k + 1) % 2147483629
theorem mixed_bd (c k : Int) : 0 ≤ mixed c k ∧ mixed c k < 2147483629 := by
  unfold mixed
  exact ⟨Int.emod_nonneg _ (by decide), Int.emod_lt_of_pos _ (by decide)⟩
end Ma
/-! Ma, part 2: words of U and D: heights, the partner of a place. -/
namespace Ma
open PySem Fd
/-! ### heights -/
def sg (b : Bool) : Int := if b then 1 else -1
def hg : List Bool → Int
  | [] => 0
  | b :: r => sg b + hg r
theorem hg_app : ∀ a b : List Bool, hg (a ++ b) = hg a + hg b
  | [], b => by simp [hg]
  | x :: a, b => by
    show sg x + hg (a ++ b) = sg x + hg a + hg b
    rw [hg_app a b]
    omega
def ht (bs : List Bool) (q : Nat) : Int := hg (bs.take q)
theorem ht_zero (bs : List Bool) : ht bs 0 = 0 := by unfold ht; rw [List.take_zero]; rfl
theorem ht_succ {bs : List Bool} {q : Nat} {b : Bool} (h : bs[q]? = some b) : ht bs (q + 1) = ht bs q + sg b := by
  unfold ht
  rw [List.take_add_one, h, hg_app]
  simp [hg]
theorem ht_all (bs : List Bool) : ht bs bs.length = hg bs := by unfold ht; rw [List.take_length]
structure Dyck (bs : List Bool) : Prop where
  nn : ∀ q, q ≤ bs.length → 0 ≤ ht bs q
  fin : hg bs = 0
/-- i and j are partners: the first return -/
structure R (bs : List Bool) (i j : Nat) : Prop where
  lt : i < j
  le : j < bs.length
  eq : ht bs (j + 1) = ht bs i
  up : ∀ q, i < q → q ≤ j → ht bs i < ht bs q
section
variable {bs : List Bool} {i j k l : Nat}
theorem R.right (h : R bs i j) (h' : R bs i k) : j = k := by
  rcases Nat.lt_trichotomy j k with c | c | c
  · have := h'.up (j + 1) (by have := h.lt; omega) c
    rw [h.eq] at this
    omega
  · exact c
  · have := h.up (k + 1) (by have := h'.lt; omega) c
    rw [h'.eq] at this
    omega
theorem R.left (h : R bs i k) (h' : R bs j k) : i = j := by
  rcases Nat.lt_trichotomy i j with c | c | c
  · have := h.up j c (Nat.le_of_lt h'.lt)
    have e := h.eq
    have e' := h'.eq
    omega
  · exact c
  · have := h'.up i c (Nat.le_of_lt h.lt)
    have e := h.eq
    have e' := h'.eq
    omega
theorem get_some {α : Type} {xs : List α} {n : Nat} (h : n < xs.length) : ∃ x, xs[n]? = some x := ⟨xs[n], List.getElem?_eq_getElem h⟩
theorem get_lt {α : Type} {xs : List α} {n : Nat} {x : α} (h : xs[n]? = some x) : n < xs.length := (List.getElem?_eq_some_iff.mp h).1
theorem R.isU (h : R bs i j) : bs[i]? = some true := by
  obtain ⟨b, hb⟩ := get_some (Nat.lt_trans h.lt h.le)
  have e := ht_succ hb
  have u := h.up (i + 1) (Nat.lt_succ_self i) h.lt
  cases b with
  | true => exact hb
  | false => simp [sg] at e; omega
theorem R.isD (h : R bs i j) : bs[j]? = some false := by
  obtain ⟨b, hb⟩ := get_some h.le
  have e := ht_succ hb
  have u := h.up j h.lt (Nat.le_refl j)
  have q := h.eq
  cases b with
  | false => exact hb
  | true => simp [sg] at e; omega
/-- the partner, of either kind -/
def Pr (bs : List Bool) (i j : Nat) : Prop := R bs i j ∨ R bs j i
theorem Pr.symm (h : Pr bs i j) : Pr bs j i := h.elim .inr .inl
theorem Pr.fn (h : Pr bs i j) (h' : Pr bs i k) : j = k := by
  rcases h with h | h <;> rcases h' with h' | h'
  · exact h.right h'
  · have a := h.isU
    have b := h'.isD
    rw [a] at b
    cases b
  · have a := h.isD
    have b := h'.isU
    rw [a] at b
    cases b
  · exact h.left h'
theorem Pr.lt (h : Pr bs i j) : i < bs.length := h.elim (fun h => Nat.lt_trans h.lt h.le) fun h => h.le
end
/-! ### the stack -/
structure Stk (bs : List Bool) (m : Nat) (W : List Nat) (P : List (Nat × Nat)) : Prop where
  len : (W.length : Int) = ht bs m
  at_ : ∀ (k i : Nat), W[k]? = some i → i < m ∧ ht bs i = k ∧ ∀ q, i < q → q ≤ m → (k : Int) < ht bs q
  pr : ∀ p ∈ P, R bs p.1 p.2 ∧ p.2 < m
  dn : ∀ j, j < m → bs[j]? = some false → ∃ i, (i, j) ∈ P
  up : ∀ i, i < m → bs[i]? = some true → i ∈ W ∨ ∃ j, (i, j) ∈ P
theorem Stk.start (bs : List Bool) : Stk bs 0 [] [] := ⟨by rw [ht_zero]; rfl, fun k i h => by simp at h, fun p h => (nomatch h), fun j h => by omega, fun i h => by omega⟩
section
variable {bs : List Bool} {m : Nat} {W : List Nat} {P : List (Nat × Nat)}
theorem Stk.push (s : Stk bs m W P) (h : bs[m]? = some true) : Stk bs (m + 1) (W ++ [m]) P := by
  have e := ht_succ h
  simp [sg] at e
  refine ⟨?_, fun k i hk => ?_, fun p hp => ⟨(s.pr p hp).1, Nat.lt_succ_of_lt (s.pr p hp).2⟩, fun j hj hd => ?_, fun i hi hu => ?_⟩
  · rw [List.length_append, List.length_singleton, e, ← s.len]
    omega
  · by_cases hl : k < W.length
    · rw [List.getElem?_append_left hl] at hk
      obtain ⟨h1, h2, h3⟩ := s.at_ k i hk
      refine ⟨by omega, h2, fun q q1 q2 => ?_⟩
      by_cases hq : q ≤ m
      · exact h3 q q1 hq
      · have hqm : q = m + 1 := by omega
        subst hqm
        have := h3 m (by omega) (Nat.le_refl m)
        omega
    · rw [List.getElem?_append_right (by omega)] at hk
      have hk0 : k - W.length = 0 := by
        have := get_lt hk
        simp at this
        omega
      rw [hk0] at hk
      simp at hk
      subst hk
      have hkl : k = W.length := by omega
      subst hkl
      refine ⟨Nat.lt_succ_self m, s.len.symm, fun q q1 q2 => ?_⟩
      have hqm : q = m + 1 := by omega
      subst hqm
      rw [e, ← s.len]
      omega
  · by_cases hjm : j < m
    · exact s.dn j hjm hd
    · have : j = m := by omega
      subst this
      rw [h] at hd
      cases hd
  · by_cases him : i < m
    · rcases s.up i him hu with z | z
      · exact .inl (List.mem_append_left _ z)
      · exact .inr z
    · have : i = m := by omega
      subst this
      exact .inl (List.mem_append_right _ List.mem_cons_self)
theorem Stk.pop (s : Stk bs m W P) (h : bs[m]? = some false) (nn : 0 ≤ ht bs (m + 1)) : ∃ i, W[W.length - 1]? = some i ∧ Stk bs (m + 1) W.dropLast (P ++ [(i, m)]) := by
  have e := ht_succ h
  simp [sg] at e
  have hl := s.len
  have hW : 0 < W.length := by omega
  obtain ⟨i, hi⟩ := get_some (xs := W) (n := W.length - 1) (by omega)
  obtain ⟨a1, a2, a3⟩ := s.at_ _ i hi
  have r : R bs i m := by
    refine ⟨a1, get_lt h, by omega, fun q q1 q2 => ?_⟩
    have := a3 q q1 q2
    omega
  refine ⟨i, hi, ?_, fun k x hk => ?_, fun p hp => ?_, fun j hj hd => ?_, fun x hx hu => ?_⟩
  · rw [List.length_dropLast]
    omega
  · rw [List.getElem?_dropLast] at hk
    split at hk
    · rename_i hlt
      obtain ⟨h1, h2, h3⟩ := s.at_ k x hk
      refine ⟨by omega, h2, fun q q1 q2 => ?_⟩
      by_cases hq : q ≤ m
      · exact h3 q q1 hq
      · have hqm : q = m + 1 := by omega
        subst hqm
        omega
    · cases hk
  · rcases List.mem_append.mp hp with z | z
    · exact ⟨(s.pr p z).1, Nat.lt_succ_of_lt (s.pr p z).2⟩
    · cases List.mem_singleton.mp z
      exact ⟨r, Nat.lt_succ_self m⟩
  · by_cases hjm : j < m
    · obtain ⟨x, hx⟩ := s.dn j hjm hd
      exact ⟨x, List.mem_append_left _ hx⟩
    · have : j = m := by omega
      subst this
      exact ⟨i, List.mem_append_right _ List.mem_cons_self⟩
  · have hxm : x < m := by
      by_cases c : x = m
      · subst c
        rw [h] at hu
        cases hu
      · omega
    rcases s.up x hxm hu with z | ⟨j, z⟩
    · by_cases c : x = i
      · subst c
        exact .inr ⟨m, List.mem_append_right _ List.mem_cons_self⟩
      · left
        obtain ⟨k, hk⟩ := List.getElem?_of_mem z
        refine List.mem_of_getElem? (i := k) ?_
        rw [List.getElem?_dropLast, if_pos]
        · exact hk
        · have k1 := get_lt hk
          have : k ≠ W.length - 1 := fun e => by
            rw [e, hi] at hk
            cases hk
            exact c rfl
          omega
    · exact .inr ⟨j, List.mem_append_left _ z⟩
/-- at the end of a good word the stack is empty -/
theorem Stk.all (s : Stk bs bs.length W P) (d : Dyck bs) : W = [] ∧ (∀ p ∈ P, R bs p.1 p.2) ∧ ∀ i, i < bs.length → ∃ j, Pr bs i j ∧ ((i, j) ∈ P ∨ (j, i) ∈ P) := by
  have hW : W = [] := by
    have := s.len
    rw [ht_all, d.fin] at this
    exact List.length_eq_zero_iff.mp (by omega)
  subst hW
  refine ⟨rfl, fun p hp => (s.pr p hp).1, fun i hi => ?_⟩
  obtain ⟨b, hb⟩ := get_some hi
  cases b with
  | true =>
    rcases s.up i hi hb with z | ⟨j, z⟩
    · cases z
    · exact ⟨j, .inl (s.pr _ z).1, .inl z⟩
  | false =>
    obtain ⟨j, z⟩ := s.dn i hi hb
    exact ⟨j, .inr (s.pr _ z).1, .inr z⟩
end
/-- every stack can be run through a good word -/
theorem stk_ex {bs : List Bool} (d : Dyck bs) : ∀ m, m ≤ bs.length → ∃ W P, Stk bs m W P
  | 0, _ => ⟨[], [], .start bs⟩
  | m + 1, h => by
    obtain ⟨W, P, s⟩ := stk_ex d m (by omega)
    obtain ⟨b, hb⟩ := get_some (xs := bs) (n := m) (by omega)
    cases b with
    | true => exact ⟨_, _, s.push hb⟩
    | false =>
      obtain ⟨i, _, s2⟩ := s.pop hb (d.nn _ h)
      exact ⟨_, _, s2⟩
theorem pr_ex {bs : List Bool} (d : Dyck bs) {i : Nat} (h : i < bs.length) : ∃ j, Pr bs i j := by
  obtain ⟨W, P, s⟩ := stk_ex d bs.length (Nat.le_refl _)
  obtain ⟨j, hj, _⟩ := (s.all d).2.2 i h
  exact ⟨j, hj⟩
open Classical in
/-- the partner's place -/
noncomputable def prt (bs : List Bool) (i : Nat) : Nat := if h : ∃ j, Pr bs i j then h.choose else 0
theorem prt_of {bs : List Bool} {i j : Nat} (h : Pr bs i j) : prt bs i = j := by
  unfold prt
  have hx : ∃ j, Pr bs i j := ⟨j, h⟩
  rw [dif_pos hx]
  exact hx.choose_spec.fn h
theorem prt_pr {bs : List Bool} (d : Dyck bs) {i : Nat} (h : i < bs.length) : Pr bs i (prt bs i) := by
  obtain ⟨j, hj⟩ := pr_ex d h
  rw [prt_of hj]
  exact hj
/-! ### texts -/
def ch (b : Bool) : Nat := if b then 85 else 68
def txt (bs : List Bool) : Str := ⟨(bs.map ch).toArray⟩
def lt1 (b : Bool) : D := .str (if b then "U" else "D")
theorem txt_len (bs : List Bool) : (txt bs).length = bs.length := by
  show ((bs.map ch).toArray).size = _
  simp
theorem txt_items (bs : List Bool) : items (.str (txt bs)) = some (bs.map lt1) := by
  show some (((bs.map ch).toArray).toList.map fun c => PyData.str ⟨#[c]⟩) = _
  congr 1
  rw [List.toList_toArray, List.map_map]
  refine List.map_congr_left fun b _ => ?_
  cases b <;> rfl
theorem txt_snoc (bs : List Bool) (b : Bool) : txt bs ++ (if b then "U" else "D" : Str) = txt (bs ++ [b]) := by
  have e : (if b then "U" else "D" : Str) = ⟨#[ch b]⟩ := by cases b <;> rfl
  rw [e]
  show (⟨(bs.map ch).toArray ++ #[ch b]⟩ : Str) = ⟨((bs ++ [b]).map ch).toArray⟩
  congr 1
  simp
theorem len_txt {bs : List Bool} (h : bs.length ≤ 16777216) : opLen [.str (txt bs)] = some (.sh (.int bs.length)) := by
  show (if (txt bs).length ≤ 16777216 then some (RV.sh (.int (txt bs).length)) else none) = _
  rw [txt_len, if_pos h]
theorem ix_txt {bs : List Bool} {i : Int} {b : Bool} (hl : bs.length ≤ 16777216) (h0 : 0 ≤ i) (h : bs[i.toNat]? = some b) : opIx (.str (txt bs)) (.int i) = some (.sh (lt1 b)) := by
  show (if (txt bs).length ≤ 16777216 then (L2.atI (txt bs).cps.toList i).map (fun c => RV.sh (.str ⟨#[c]⟩)) else none) = _
  rw [txt_len, if_pos hl]
  have e : L2.atI (txt bs).cps.toList i = some (ch b) := by
    refine atI_int h0 ?_
    show ((bs.map ch).toArray.toList)[i.toNat]? = _
    rw [List.toList_toArray, List.getElem?_map, h]
    rfl
  rw [e]
  cases b <;> rfl
theorem eqU (b : Bool) : opEq (lt1 b) (.str "U") = some (.sh (.bool b)) := by cases b <;> rfl
theorem eqD (b : Bool) : opEq (lt1 b) (.str "D") = some (.sh (.bool (!b))) := by cases b <;> rfl
/-- the partners as data -/
noncomputable def pl (bs : List Bool) : List D := (List.range bs.length).map fun i => .int ((prt bs i : Nat) + 1)
end Ma
namespace Ma
open PySem Fd
/-! ### dicts, by lookups -/
theorem getD_put (kvs : List (D × D)) (k k' v : D) : getD (putD kvs k v) k' = if kd k' = kd k then some v else getD kvs k' := by
  unfold putD
  by_cases h : (kvs.any fun e => decide (kd e.1 = kd k)) = true
  · rw [if_pos h]
    have key : ∀ l : List (D × D), (l.any fun e => decide (kd e.1 = kd k)) = true → getD (l.map fun e => if kd e.1 = kd k then (e.1, v) else e) k' = if kd k' = kd k then some v else getD l k' := by
      intro l
      induction l with
      | nil => intro h; cases h
      | cons e l ih =>
        intro h
        rw [List.map_cons]
        have cons : ∀ (x : D × D) (l : List (D × D)), getD (x :: l) k' = if kd x.1 = kd k' then some x.2 else getD l k' := fun x l => by
          unfold getD
          rw [List.find?_cons]
          by_cases c : kd x.1 = kd k'
          · simp [c]
          · simp [c]
        rw [cons, cons]
        by_cases c : kd e.1 = kd k
        · rw [if_pos c]
          by_cases c2 : kd k' = kd k
          · rw [if_pos c2, if_pos (by rw [c2]; exact c)]
          · have n1 : ¬ kd e.1 = kd k' := fun z => c2 (by rw [← z]; exact c)
            rw [if_neg c2, if_neg n1, if_neg n1]
            by_cases h2 : (l.any fun e => decide (kd e.1 = kd k)) = true
            · rw [ih h2, if_neg c2]
            · have same : (l.map fun e => if kd e.1 = kd k then (e.1, v) else e) = l := by
                refine (List.map_congr_left fun x hx => ?_).trans (List.map_id l)
                rw [if_neg]
                · rfl
                · exact fun z => h2 (List.any_eq_true.mpr ⟨x, hx, decide_eq_true z⟩)
              rw [same]
        · rw [if_neg c]
          have h2 : (l.any fun e => decide (kd e.1 = kd k)) = true := by
            rw [List.any_cons, Bool.or_eq_true] at h
            rcases h with h | h
            · exact absurd (of_decide_eq_true h) c
            · exact h
          rw [ih h2]
          by_cases c2 : kd k' = kd k
          · rw [if_pos c2, if_neg (by rw [c2]; exact c), if_pos c2]
          · rw [if_neg c2, if_neg c2]
    exact key kvs h
  · rw [if_neg h]
    have key : ∀ l : List (D × D), (¬ (l.any fun e => decide (kd e.1 = kd k)) = true) → getD (l ++ [(k, v)]) k' = if kd k' = kd k then some v else getD l k' := by
      intro l
      have cons : ∀ (x : D × D) (l : List (D × D)), getD (x :: l) k' = if kd x.1 = kd k' then some x.2 else getD l k' := fun x l => by
        unfold getD
        rw [List.find?_cons]
        by_cases c : kd x.1 = kd k'
        · simp [c]
        · simp [c]
      induction l with
      | nil =>
        intro _
        rw [List.nil_append, cons]
        by_cases c2 : kd k' = kd k
        · rw [if_pos c2, if_pos c2.symm]
        · rw [if_neg c2, if_neg (fun z => c2 z.symm)]
      | cons e l ih =>
        intro h
        rw [List.any_cons, Bool.or_eq_true, not_or] at h
        rw [List.cons_append, cons, cons, ih h.2]
        by_cases c : kd e.1 = kd k'
        · have n2 : ¬ kd k' = kd k := fun z => h.1 (decide_eq_true (c.trans z))
          rw [if_pos c, if_neg n2, if_pos c]
        · rw [if_neg c, if_neg c]
    exact key kvs h
theorem len_put (kvs : List (D × D)) (k v : D) : (putD kvs k v).length ≤ kvs.length + 1 := by
  unfold putD
  split
  · rw [List.length_map]; omega
  · rw [List.length_append]; simp
def IntKeys (kvs : List (D × D)) : Prop := ∀ e ∈ kvs, ∃ x : Int, e.1 = .int x
theorem IntKeys.alike {kvs : List (D × D)} (h : IntKeys kvs) (x : Int) : alike kvs (.int x) = true := by
  show (kvs.all fun e => match kd e.1 with | some (.k _) => true | _ => false) = true
  rw [List.all_eq_true]
  intro e he
  obtain ⟨y, hy⟩ := h e he
  rw [hy]
  rfl
theorem IntKeys.put {kvs : List (D × D)} (h : IntKeys kvs) (x : Int) (v : D) : IntKeys (putD kvs (.int x) v) := by
  intro e he
  unfold putD at he
  split at he
  · obtain ⟨y, hy, rfl⟩ := List.mem_map.mp he
    split
    · exact h y hy
    · exact h y hy
  · rcases List.mem_append.mp he with z | z
    · exact h e z
    · cases List.mem_singleton.mp z
      exact ⟨x, rfl⟩
theorem kd_int {x y : Int} : kd (.int x) = kd (.int y) ↔ x = y := by
  constructor
  · intro h
    have h : some (KD.k (.inl x)) = some (KD.k (.inl y)) := h
    injection h with h
    injection h with h
    injection h
  · intro h; rw [h]
theorem put_dict {kvs : List (D × D)} {x : Int} {v : D} (h : IntKeys kvs) (hl : kvs.length < 16777216) : putIx (.int x) v (.dict kvs) = some (.dict (putD kvs (.int x) v)) := by
  show (if (decide (kvs.length < 16777216) && alike kvs (.int x)) = true then some (PyData.dict (putD kvs (.int x) v)) else none) = _
  rw [if_pos (by rw [h.alike, decide_eq_true hl]; rfl)]
theorem ix_dict {kvs : List (D × D)} {x : Int} {v : D} (h : IntKeys kvs) (g : getD kvs (.int x) = some v) : opIx (.dict kvs) (.int x) = some (.sh v) := by
  show (if ((kd (.int x)).isSome && alike kvs (.int x)) = true then (getD kvs (.int x)).map RV.sh else none) = _
  rw [if_pos (by rw [h.alike]; rfl), g]
  rfl
/-! ### list comprehensions of one name, no test -/
theorem lc_one {i : Nat} {f : M RV} : ∀ (ds es acc : List D) (ρ : Rho), ds.length = es.length → ρ[i]? = some .un →
    (∀ (k : Nat) (d e : D), ds[k]? = some d → es[k]? = some e → ∃ r, f (ρ.set i (.sh d)) = some (.val r, ρ.set i (.sh d)) ∧ (r = .sh e ∨ r = .new e)) → lcD [i] (.nm i) Fd.tYes f ds acc ρ = some (.val (acc ++ es), ρ)
  | [], [], acc, ρ, _, _, _ => by rw [List.append_nil]; rfl
  | d :: ds, e :: es, acc, ρ, hl, hi, h => by
    have hi2 := get_lt hi
    obtain ⟨r, hr, hre⟩ := h 0 d e rfl rfl
    have ih := lc_one ds es (acc ++ [e]) ρ (by simpa using hl) hi fun k d' e' h1 h2 => h (k + 1) d' e' (by simpa using h1) (by simpa using h2)
    have w : wipeM [i] (ρ.set i (.sh d)) = some (.val (), ρ) := by
      unfold wipeM
      rw [if_pos (by simp [plainAt, List.getElem?_set_self hi2])]
      show some (Out.val (), (ρ.set i (Cell.sh d)).set i .un) = _
      rw [List.set_set]
      have : ρ.set i .un = ρ := by
        refine List.ext_getElem? fun k => ?_
        by_cases hk : i = k
        · subst hk; rw [List.getElem?_set_self hi2, hi]
        · rw [List.getElem?_set_ne hk]
      rw [this]
    have fz' : fz r (ρ.set i (.sh d)) = some (.val e, ρ.set i (.sh d)) := by rcases hre with rfl | rfl <;> rfl
    have a1 : asg i (.sh d) ρ = some (.val (), ρ.set i (.sh d)) := by
      unfold asg
      rw [hi]
      rfl
    show bnd (asg i (.sh d)) _ ρ = _
    rw [bnd_ap, a1]
    show bnd (fun ρ => some (Out.val true, ρ)) _ (ρ.set i (.sh d)) = _
    rw [bnd_ap]
    show bnd f _ (ρ.set i (.sh d)) = _
    rw [bnd_ap, hr]
    show bnd (fz r) _ (ρ.set i (.sh d)) = _
    rw [bnd_ap, fz']
    show bnd (wipeM [i]) _ (ρ.set i (.sh d)) = _
    rw [bnd_ap, w]
    show lcD [i] (.nm i) Fd.tYes f ds (acc ++ [e]) ρ = _
    rw [ih, List.append_assoc]
    rfl
  | [], _ :: _, _, _, hl, _, _ => by cases hl
  | _ :: _, [], _, _, hl, _, _ => by cases hl
theorem lc_map {i : Nat} {fi : M (List D)} {f : M RV} {ds es : List D} {ρ ρ1 : Rho} (h : fi ρ = some (.val ds, ρ1)) (hl : ds.length ≤ 16777216) (he : ds.length = es.length) (hp : plainAt ρ1 i = true)
    (hf : ∀ (k : Nat) (d e : D), ds[k]? = some d → es[k]? = some e → ∃ r, f (ρ1.set i (.sh d)) = some (.val r, ρ1.set i (.sh d)) ∧ (r = .sh e ∨ r = .new e)) : eLc [i] fi (.nm i) Fd.tYes f ρ = some (.val (.new (.list es)), ρ1) := by
  have hi : i < ρ1.length := by
    unfold plainAt at hp
    cases c : ρ1[i]? with
    | none => rw [c] at hp; cases hp
    | some x => exact get_lt c
  have hu : (ρ1.set i .un)[i]? = some Cell.un := List.getElem?_set_self hi
  have key := lc_one (f := f) ds es [] (ρ1.set i .un) he hu fun k d e h1 h2 => by
    obtain ⟨r, h3, h4⟩ := hf k d e h1 h2
    refine ⟨r, ?_, h4⟩
    rw [List.set_set]
    exact h3
  unfold eLc
  rw [bnd_ap, h]
  show (if ds.length ≤ 16777216 then _ else none) = _
  rw [if_pos hl]
  have w : bnd (wipeM [i]) (fun _ => noX (lcD [i] (.nm i) Fd.tYes f ds [])) ρ1 = some (.val es, ρ1.set i .un) := by
    rw [bnd_ap]
    have : wipeM [i] ρ1 = some (.val (), ρ1.set i .un) := by
      unfold wipeM
      rw [if_pos (by simp [hp])]
      rfl
    rw [this]
    show noX _ (ρ1.set i .un) = _
    unfold noX
    rw [key]
    rfl
  rw [w]
  show some (Out.val (RV.new (.list es)), restR ρ1 (ρ1.set i .un) [i]) = _
  congr 2
  show (ρ1.set i .un).set i ((ρ1[i]?).getD .un) = ρ1
  rw [List.set_set]
  refine List.ext_getElem? fun k => ?_
  by_cases hk : i = k
  · subst hk
    rw [List.getElem?_set_self hi, List.getElem?_eq_getElem hi]
    rfl
  · rw [List.getElem?_set_ne hk]
/-! ### chords as data -/
def g2 (p : Nat × Nat) : D := .tuple [.int ((p.1 : Nat) + 1), .int ((p.2 : Nat) + 1)]
theorem sortOk_g2 (P : List (Nat × Nat)) : sortOk (P.map g2) = true := by
  unfold sortOk
  simp only [Bool.and_eq_true, Bool.or_eq_true, List.all_eq_true]
  refine ⟨⟨fun d hd => ?_, fun d hd e he => ?_⟩, .inl fun d hd => ?_⟩
  · obtain ⟨p, _, rfl⟩ := List.mem_map.mp hd
    rfl
  · obtain ⟨p, _, rfl⟩ := List.mem_map.mp hd
    obtain ⟨q, _, rfl⟩ := List.mem_map.mp he
    rfl
  · obtain ⟨p, _, rfl⟩ := List.mem_map.mp hd
    rfl
def srt (P : List (Nat × Nat)) : List (Nat × Nat) := P.mergeSort fun a b => leD (g2 a) (g2 b)
theorem sorted_g2 (P : List (Nat × Nat)) : opSorted [.list (P.map g2)] = some (.new (.list ((srt P).map g2))) := by
  show (if sortOk (P.map g2) = true then some (RV.new (.list ((P.map g2).mergeSort leD))) else none) = _
  rw [if_pos (sortOk_g2 P)]
  congr 3
  exact (List.map_mergeSort (r := fun a b => leD (g2 a) (g2 b)) (s := leD) (f := g2) fun _ _ _ _ => rfl).symm
theorem srt_mem {P : List (Nat × Nat)} {p : Nat × Nat} : p ∈ srt P ↔ p ∈ P := (List.mergeSort_perm P _).mem_iff
theorem srt_len (P : List (Nat × Nat)) : (srt P).length = P.length := (List.mergeSort_perm P _).length_eq
/-- all chords of a good word -/
structure Chords (bs : List Bool) (P : List (Nat × Nat)) : Prop where
  r : ∀ p ∈ P, R bs p.1 p.2
  all : ∀ i, i < bs.length → ∃ j, Pr bs i j ∧ ((i, j) ∈ P ∨ (j, i) ∈ P)
  len : P.length ≤ bs.length
theorem Chords.srt {bs : List Bool} {P : List (Nat × Nat)} (h : Chords bs P) : Chords bs (srt P) :=
  ⟨fun p hp => h.r p (srt_mem.mp hp), fun i hi => let ⟨j, h1, h2⟩ := h.all i hi; ⟨j, h1, h2.imp srt_mem.mpr srt_mem.mpr⟩, by rw [srt_len]; exact h.len⟩
/-- the table of partners -/
structure Tbl (bs : List Bool) (kvs : List (D × D)) : Prop where
  keys : IntKeys kvs
  snd : ∀ (a : Nat) v, getD kvs (.int ((a : Nat) + 1)) = some v → ∃ b : Nat, v = .int (b + 1) ∧ Pr bs a b
theorem Tbl.put {bs : List Bool} {kvs : List (D × D)} {a b : Nat} (t : Tbl bs kvs) (h : Pr bs a b) : Tbl bs (putD kvs (.int ((a : Nat) + 1)) (.int ((b : Nat) + 1))) := by
  refine ⟨t.keys.put _ _, fun x v hv => ?_⟩
  rw [getD_put] at hv
  split at hv
  · rename_i e
    have e := kd_int.mp e
    have : x = a := by omega
    subst this
    cases hv
    exact ⟨b, rfl, h⟩
  · exact t.snd x v hv
end Ma
/-! Ma, part 3: shown data of small ints; loops that count down. -/
namespace Ma
open PySem Fd
/-- data that repr can show: depth at most k, weight at most w -/
structure Sm (d : D) (k w : Nat) : Prop where
  lay : d.canLay0 = true
  can : d.showable = true
  shrt : d.leavesShort 100 = true
  deep : d.depth ≤ k
  wt : d.weight ≤ w
theorem Sm.mono {d : D} {k w k' w' : Nat} (h : Sm d k w) (hk : k ≤ k') (hw : w ≤ w') : Sm d k' w' := ⟨h.lay, h.can, h.shrt, Nat.le_trans h.deep hk, Nat.le_trans h.wt hw⟩
theorem Sm.int {i : Int} (h : i.natAbs < 1000000000000) : Sm (.int i) 0 40 := by
  have l : i.natAbs.log2 < 40 := log2_lt (Nat.lt_trans h (by decide)) (by decide)
  refine ⟨rfl, ?_, ?_, Nat.le_refl _, ?_⟩
  · simp only [PyData.showable, decide_eq_true_eq]
    omega
  · simp only [PyData.leavesShort, decide_eq_true_eq]
    exact Nat.le_trans (PyData.shown_int_le h) (by decide)
  · simp only [PyData.weight]
    split <;> omega
theorem Sm.big {i : Int} (h : i.natAbs < 10 ^ 90) : Sm (.int i) 0 400 := by
  have p : (10 : Nat) ^ 90 < 2 ^ 400 := by decide
  have l : i.natAbs.log2 < 400 := log2_lt (Nat.lt_trans h p) (by decide)
  refine ⟨rfl, ?_, ?_, Nat.le_refl _, ?_⟩
  · simp only [PyData.showable, decide_eq_true_eq]
    omega
  · simp only [PyData.leavesShort, decide_eq_true_eq]
    show (Str.ofString (toString i)).length ≤ 100
    rw [ofString_length]
    have := int_text_length_le10 (k := 90) (by decide) h
    omega
  · simp only [PyData.weight]
    split <;> omega
theorem Sm.all {k w : Nat} : ∀ {xs : List D}, (∀ x ∈ xs, Sm x k w) → PyData.canLayAll0 xs = true ∧ PyData.showableAll xs = true ∧ PyData.leavesShortAll 100 xs = true ∧ PyData.depthAll xs ≤ k ∧ PyData.weightAll xs ≤ (w + 1) * xs.length
  | [], _ => by simp [PyData.canLayAll0, PyData.showableAll, PyData.leavesShortAll, PyData.depthAll, PyData.weightAll]
  | x :: xs, h => by
    obtain ⟨a, b, c, d, e⟩ := Sm.all fun y hy => h y (List.mem_cons_of_mem x hy)
    have s := h x List.mem_cons_self
    refine ⟨?_, ?_, ?_, ?_, ?_⟩
    · simp only [PyData.canLayAll0, s.lay, a, Bool.and_self]
    · simp only [PyData.showableAll, s.can, b, Bool.and_self]
    · simp only [PyData.leavesShortAll, s.shrt, c, Bool.and_self]
    · simp only [PyData.depthAll]
      have := s.deep
      omega
    · simp only [PyData.weightAll, List.length_cons, Nat.mul_succ]
      have := s.wt
      omega
theorem Sm.list {k w : Nat} {xs : List D} (h : ∀ x ∈ xs, Sm x k w) : Sm (.list xs) (k + 1) ((w + 1) * xs.length) := by
  obtain ⟨a, b, c, d, e⟩ := Sm.all h
  exact ⟨by simpa only [PyData.canLay0] using a, by simpa only [PyData.showable] using b, by simpa only [PyData.leavesShort] using c, by simp only [PyData.depth]; omega, by simpa only [PyData.weight] using e⟩
theorem Sm.tuple {k w : Nat} {xs : List D} (h : ∀ x ∈ xs, Sm x k w) : Sm (.tuple xs) (k + 1) ((w + 1) * xs.length) := by
  obtain ⟨a, b, c, d, e⟩ := Sm.all h
  exact ⟨by simpa only [PyData.canLay0] using a, by simpa only [PyData.showable] using b, by simpa only [PyData.leavesShort] using c, by simp only [PyData.depth]; omega, by simpa only [PyData.weight] using e⟩
theorem Sm.ok {d : D} {k w : Nat} (h : Sm d k w) (hk : k ≤ 40) (hw : w ≤ 160000) : reprOk d = true := by
  have s := PyData.shown_le 100 (by decide) d h.shrt
  have w1 := h.wt
  have k1 := h.deep
  unfold reprOk
  rw [h.lay, h.can, decide_eq_true (show d.depth ≤ 40 by omega), decide_eq_true (show d.shown.length ≤ 16777216 by omega)]
  rfl
theorem repr_list {xs : List D} (h : reprOk (.list xs) = true) : opRepr [.list xs] = some (.sh (.str (PyData.list xs).shown)) := by
  show (if reprOk (.list xs) = true then _ else none) = _
  rw [if_pos h]
theorem repr_tup {xs : List D} (h : reprOk (.tuple xs) = true) : opRepr [.tuple xs] = some (.sh (.str (PyData.tuple xs).shown)) := by
  show (if reprOk (.tuple xs) = true then _ else none) = _
  rw [if_pos h]
theorem repr_int {i : Int} (h : i.natAbs < 1000000000000) : opRepr [.int i] = some (.sh (.str (toString i))) := by
  have l : i.natAbs.log2 < 40 := log2_lt (Nat.lt_trans h (by decide)) (by decide)
  exact if_pos (by omega)
theorem ne_same (x : Str) : opNe (.str x) (.str x) = some (.sh (.bool false)) := by
  rw [ne_str, decide_eq_true rfl]
  rfl
/-- a loop that counts down -/
theorem while_ind {t : M Bool} {body : M Fl} (Inv : Nat → Rho → Prop) (Q : Rho → Prop)
    (h : ∀ n ρ, Inv n ρ → (∃ ρ1, t ρ = some (.val false, ρ1) ∧ Q ρ1) ∨ (∃ m ρ1 ρ2, m < n ∧ t ρ = some (.val true, ρ1) ∧ body ρ1 = some (.val .nx, ρ2) ∧ Inv m ρ2)) :
    ∀ n ρ, Inv n ρ → ∃ ρ', sWhile t body ρ = some (.val .nx, ρ') ∧ Q ρ' := by
  have key : ∀ n ρ, Inv n ρ → ∃ k ρ', whileN t body k ρ = some (.val .nx, ρ') ∧ Q ρ' := by
    intro n
    induction n using Nat.strongRecOn with
    | ind n ih =>
      intro ρ hi
      rcases h n ρ hi with ⟨ρ1, h1, h2⟩ | ⟨m, ρ1, ρ2, hm, h1, h2, h3⟩
      · refine ⟨1, ρ1, ?_, h2⟩
        show bnd t _ ρ = _
        rw [bnd_ap, h1]
        rfl
      · obtain ⟨k, ρ', e, q⟩ := ih m hm ρ2 h3
        refine ⟨k + 1, ρ', ?_, q⟩
        show bnd t _ ρ = _
        rw [bnd_ap, h1]
        show bnd body _ ρ1 = _
        rw [bnd_ap, h2]
        exact e
  intro n ρ hi
  obtain ⟨k, ρ', e, q⟩ := key n ρ hi
  exact ⟨ρ', sWhile_of e, q⟩
theorem add_str {x y : Str} (h : x.length + y.length ≤ 16777216) : opAdd (.str x) (.str y) = some (.sh (.str (x ++ y))) := if_pos h
theorem add_list {xs ys : List D} (h : xs.length + ys.length ≤ 16777216) : opAdd (.list xs) (.list ys) = some (.new (.list (xs ++ ys))) := if_pos h
theorem cut_map {α : Type} (f : α → D) (xs : List α) (lo hi : Option Int) : ∃ ys : List α, cutD (xs.map f) lo hi = ys.map f ∧ ys.length ≤ xs.length := by
  refine ⟨(xs.drop (HT.sIx (xs.map f).length 0 lo)).take (HT.sIx (xs.map f).length (xs.map f).length hi - HT.sIx (xs.map f).length 0 lo), ?_, ?_⟩
  · unfold cutD
    rw [List.map_take, List.map_drop]
  · rw [List.length_take, List.length_drop]
    omega
theorem pow18 : opPow (.int 10) (.int 18) = some (.sh (.int 1000000000000000000)) := rfl
theorem rng1_nat {n : Nat} (h : n ≤ 1000000000) : rng1 [.int n] = some (upFrom 0 n) := by
  have s1 : small62 (n : Int) = true := by
    unfold small62
    simp only [Bool.and_eq_true, decide_eq_true_eq]
    omega
  show (if small62 (n : Int) = true then some (upFrom 0 (n : Int).toNat) else none) = _
  rw [if_pos s1]
  rfl
theorem up_get {lo : Int} {n k : Nat} {x : D} (h : (upFrom lo n)[k]? = some x) : k < n ∧ x = .int (lo + k) := by
  unfold upFrom at h
  have hk : k < n := by
    have := get_lt h
    simpa using this
  rw [List.getElem?_map, List.getElem?_range hk] at h
  cases h
  exact ⟨hk, rfl⟩
theorem up_len (lo : Int) (n : Nat) : (upFrom lo n).length = n := by unfold upFrom; simp
theorem up_mem {lo : Int} {n : Nat} {x : D} (h : x ∈ upFrom lo n) : ∃ k : Nat, k < n ∧ x = .int (lo + k) := by
  obtain ⟨k, hk⟩ := List.getElem?_of_mem h
  exact ⟨k, up_get hk⟩
end Ma
namespace Ma
open PySem Fd
theorem put_list {xs : List D} {k : Nat} {v : D} (h : k < xs.length) : putIx (.int k) v (.list xs) = some (.list (xs.set k v)) := by
  show (L2.ixN xs.length (k : Int)).map _ = _
  unfold L2.ixN
  rw [if_pos (by omega), if_pos (by omega)]
  rfl
theorem rep_ints {k : Nat} (h : k ≤ 1000000) (d : D) : opRep (.list [d]) (.int k) = some (.new (.list (List.replicate k d))) := by
  show (if (k : Int) ≤ 16777216 ∧ -16777216 ≤ (k : Int) ∧ [d].length * (k : Int).toNat ≤ 16777216 then some (RV.new (.list (List.replicate (k : Int).toNat [d]).flatten)) else none) = _
  rw [if_pos ⟨by omega, by omega, by simp; omega⟩]
  simp
end Ma
/-! Ma, part 4: list comprehensions with tests, texts of words. -/
namespace Ma
open PySem Fd
theorem lc_gen {own : List Nat} {p : Pat} {t : M Bool} {f : M RV} {ρ0 : Rho} (G : D → Option D) : ∀ (ds acc : List D),
    (∀ d ∈ ds, ∃ ρd, patM p d ρ0 = some (.val (), ρd) ∧ wipeM own ρd = some (.val (), ρ0) ∧ ((∃ e r, G d = some e ∧ t ρd = some (.val true, ρd) ∧ f ρd = some (.val r, ρd) ∧ (r = .sh e ∨ r = .new e)) ∨ (G d = none ∧ t ρd = some (.val false, ρd)))) →
    lcD own p t f ds acc ρ0 = some (.val (acc ++ ds.filterMap G), ρ0)
  | [], acc, _ => by rw [List.filterMap_nil, List.append_nil]; rfl
  | d :: ds, acc, h => by
    obtain ⟨ρd, h1, h2, h3⟩ := h d List.mem_cons_self
    have ih := fun acc => lc_gen (own := own) (p := p) (t := t) (f := f) (ρ0 := ρ0) G ds acc fun d hd => h d (List.mem_cons_of_mem _ hd)
    show bnd (patM p d) _ ρ0 = _
    rw [bnd_ap, h1]
    show bnd t _ ρd = _
    rcases h3 with ⟨e, r, g, h4, h5, h6⟩ | ⟨g, h4⟩
    · rw [bnd_ap, h4]
      show bnd f _ ρd = _
      rw [bnd_ap, h5]
      show bnd (fz r) _ ρd = _
      have fz' : fz r ρd = some (.val e, ρd) := by rcases h6 with rfl | rfl <;> rfl
      rw [bnd_ap, fz']
      show bnd (wipeM own) _ ρd = _
      rw [bnd_ap, h2]
      show lcD own p t f ds (acc ++ [e]) ρ0 = _
      rw [ih, List.filterMap_cons, g, List.append_assoc]
      rfl
    · rw [bnd_ap, h4]
      show bnd (wipeM own) _ ρd = _
      rw [bnd_ap, h2]
      show lcD own p t f ds acc ρ0 = _
      rw [ih, List.filterMap_cons, g]
theorem lc_run {own : List Nat} {p : Pat} {t : M Bool} {fi : M (List D)} {f : M RV} {ds : List D} {ρ ρ1 : Rho} (G : D → Option D) (es : List D) (he : ds.filterMap G = es) (h : fi ρ = some (.val ds, ρ1)) (hl : ds.length ≤ 16777216) (hp : own.all (plainAt ρ1) = true) (hr : restR ρ1 (wipeR ρ1 own) own = ρ1)
    (hf : ∀ d ∈ ds, ∃ ρd, patM p d (wipeR ρ1 own) = some (.val (), ρd) ∧ wipeM own ρd = some (.val (), wipeR ρ1 own) ∧ ((∃ e r, G d = some e ∧ t ρd = some (.val true, ρd) ∧ f ρd = some (.val r, ρd) ∧ (r = .sh e ∨ r = .new e)) ∨ (G d = none ∧ t ρd = some (.val false, ρd)))) :
    eLc own fi p t f ρ = some (.val (.new (.list es)), ρ1) := by
  have key := lc_gen G ds [] hf
  rw [he] at key
  unfold eLc
  rw [bnd_ap, h]
  show (if ds.length ≤ 16777216 then _ else none) = _
  rw [if_pos hl]
  have w : wipeM own ρ1 = some (.val (), wipeR ρ1 own) := by
    unfold wipeM
    rw [if_pos hp]
  have w2 : bnd (wipeM own) (fun _ => noX (lcD own p t f ds [])) ρ1 = some (.val es, wipeR ρ1 own) := by
    rw [bnd_ap, w]
    show noX _ _ = _
    unfold noX
    rw [key]
    rfl
  rw [w2]
  show some (Out.val (RV.new (.list es)), restR ρ1 (wipeR ρ1 own) own) = _
  rw [hr]
theorem fm_map {α : Type} (G : D → Option D) (f g : α → D) (xs : List α) (h : ∀ x ∈ xs, G (f x) = some (g x)) : (xs.map f).filterMap G = xs.map g := by
  rw [List.filterMap_map]
  induction xs with
  | nil => rfl
  | cons a xs ih =>
    have ga : (G ∘ f) a = some (g a) := h a List.mem_cons_self
    rw [List.filterMap_cons, List.map_cons, ga, ← ih fun x hx => h x (List.mem_cons_of_mem _ hx)]
/-! texts of words -/
theorem cut_txt (bs : List Bool) (k : Nat) : L2.cutS (txt bs) none (some (k : Int)) = txt (bs.take k) := by
  unfold L2.cutS
  rw [txt_len, HT.sIx_none, HT.sIx_nat]
  show (⟨(((bs.map ch).toArray.toList.drop 0).take (min k bs.length - 0)).toArray⟩ : Str) = ⟨((bs.take k).map ch).toArray⟩
  rw [List.toList_toArray, List.drop_zero, Nat.sub_zero, List.map_take]
  congr 2
  by_cases h : k ≤ bs.length
  · rw [Nat.min_eq_left h]
  · rw [Nat.min_eq_right (by omega), List.take_of_length_le (by simp), List.take_of_length_le (by simp; omega)]
theorem sl_txt {bs : List Bool} {k : Nat} (h : bs.length ≤ 16777216) : opSl (.str (txt bs)) none (some (k : Int)) = some (.sh (.str (txt (bs.take k)))) := by
  show (if (txt bs).length ≤ 16777216 then some (RV.sh (.str (L2.cutS (txt bs) none (some (k : Int))))) else none) = _
  rw [txt_len, if_pos h, cut_txt]
def nU : List Bool → Int
  | [] => 0
  | b :: r => (if b then 1 else 0) + nU r
def nD : List Bool → Int
  | [] => 0
  | b :: r => (if b then 0 else 1) + nD r
theorem nU_nD : ∀ bs : List Bool, nU bs - nD bs = hg bs ∧ nU bs + nD bs = bs.length
  | [] => ⟨rfl, rfl⟩
  | b :: r => by
    obtain ⟨h1, h2⟩ := nU_nD r
    cases b
    · constructor
      · show 0 + nU r - (1 + nD r) = -1 + hg r
        omega
      · show 0 + nU r + (1 + nD r) = ((r.length + 1 : Nat) : Int)
        omega
    · constructor
      · show 1 + nU r - (0 + nD r) = 1 + hg r
        omega
      · show 1 + nU r + (0 + nD r) = ((r.length + 1 : Nat) : Int)
        omega
theorem cntU : ∀ bs : List Bool, PyProof.Rows.cnt 85 (bs.map ch) = nU bs
  | [] => rfl
  | b :: r => by
    rw [List.map_cons, PyProof.Rows.cnt_cons, cntU r]
    cases b <;> rfl
theorem cntD : ∀ bs : List Bool, PyProof.Rows.cnt 68 (bs.map ch) = nD bs
  | [] => rfl
  | b :: r => by
    rw [List.map_cons, PyProof.Rows.cnt_cons, cntD r]
    cases b <;> rfl
theorem count_U (bs : List Bool) : opCount [.str (txt bs), .str "U"] = some (.sh (.int (nU bs))) := by
  have e : Txt.count (txt bs) ⟨#[85]⟩ = nU bs := (PyProof.Rows.count_is (txt bs) 85).trans (by rw [← cntU]; show PyProof.Rows.cnt 85 ((bs.map ch).toArray.toList) = _; rw [List.toList_toArray])
  rw [← e]
  rfl
theorem count_D (bs : List Bool) : opCount [.str (txt bs), .str "D"] = some (.sh (.int (nD bs))) := by
  have e : Txt.count (txt bs) ⟨#[68]⟩ = nD bs := (PyProof.Rows.count_is (txt bs) 68).trans (by rw [← cntD]; show PyProof.Rows.cnt 68 ((bs.map ch).toArray.toList) = _; rw [List.toList_toArray])
  rw [← e]
  rfl
theorem rev_txt {bs : List Bool} (h : bs.length ≤ 16777216) : opRev (.str (txt bs)) = some (.sh (.str (txt bs.reverse))) := by
  show (if (txt bs).length ≤ 16777216 then some (RV.sh (.str (revS (txt bs)))) else none) = _
  rw [txt_len, if_pos h]
  have e : revS (txt bs) = txt bs.reverse := by
    show (⟨((bs.map ch).toArray.toList).reverse.toArray⟩ : Str) = ⟨(bs.reverse.map ch).toArray⟩
    rw [List.toList_toArray, List.map_reverse]
  rw [e]
def s1 (b : Bool) : Str := if b then "U" else "D"
theorem strs_lt1 : ∀ bs : List Bool, strsOf (bs.map lt1) = some (bs.map s1)
  | [] => rfl
  | b :: r => by
    show (strsOf (r.map lt1)).map _ = _
    rw [strs_lt1 r]
    cases b <;> rfl
theorem join_s1 (bs : List Bool) : Txt.join "" (bs.map s1) = txt bs := by
  have e : bs.map s1 = (bs.map fun b => [ch b]).map SX.S := by
    rw [List.map_map]
    refine List.map_congr_left fun b _ => ?_
    cases b <;> rfl
  have e2 : ("" : Str) = SX.S [] := rfl
  rw [e, e2, SX.join_S]
  have j : ∀ bs : List Bool, TL.joinL [] (bs.map fun b => [ch b]) = bs.map ch := by
    intro bs
    induction bs with
    | nil => rfl
    | cons a r ih =>
      cases r with
      | nil => rfl
      | cons b r => 
        show [ch a] ++ [] ++ TL.joinL [] ((b :: r).map fun b => [ch b]) = _
        rw [ih]
        rfl
  rw [j]
  rfl
theorem join_lt1 {bs : List Bool} (h : bs.length ≤ 1000000) : opJoin [.str "", .list (bs.map lt1)] = some (.sh (.str (txt bs))) := by
  show (strsOf (bs.map lt1)).bind _ = _
  rw [strs_lt1]
  show (if ((bs.map s1).map (·.length)).sum + (bs.map s1).length * ("" : Str).length ≤ 16777216 then some (RV.sh (.str (Txt.join "" (bs.map s1)))) else none) = _
  have l : ((bs.map s1).map (·.length)).sum = bs.length := by
    clear h
    induction bs with
    | nil => rfl
    | cons b r ih =>
      rw [List.map_cons, List.map_cons, List.sum_cons, ih, List.length_cons]
      have : (s1 b).length = 1 := by cases b <;> rfl
      rw [this]
      omega
  have l0 : ("" : Str).length = 0 := rfl
  rw [l, l0, if_pos (by omega), join_s1]
theorem atI_last {xs : List D} {d : D} (h : xs[xs.length - 1]? = some d) : L2.atI xs (-1) = some d := by
  have hl := get_lt h
  unfold L2.atI L2.ixN
  rw [if_neg (by decide), if_pos (by omega)]
  have : (-1 + (xs.length : Int)).toNat = xs.length - 1 := by omega
  simpa [this] using h
theorem Sm.txt {bs : List Bool} {n : Nat} (h : bs.length ≤ n) : Sm (.str (txt bs)) 0 n := by
  have c : ∀ b, ch b < 1000 := fun b => by cases b <;> decide
  refine ⟨?_, rfl, ?_, Nat.le_refl _, ?_⟩
  · show PyData.strOk (Ma.txt bs) = true
    unfold PyData.strOk
    show ((bs.map ch).toArray).all _ = true
    rw [Array.all_eq_true']
    intro x hx
    obtain ⟨b, _, rfl⟩ := List.mem_map.mp (List.mem_toArray.mp hx)
    have := c b
    simp only [decide_eq_true_eq]
    omega
  · simp only [PyData.leavesShort, List.all_eq_true, decide_eq_true_eq]
    intro x hx
    have hx : x ∈ ((bs.map ch).toArray).toList := hx
    rw [List.toList_toArray] at hx
    obtain ⟨b, _, rfl⟩ := List.mem_map.mp hx
    have := c b
    omega
  · simp only [PyData.weight]
    have : (Ma.txt bs).cps.size = bs.length := txt_len bs
    omega
/-! ### the first parts of a word -/
def jn (a b : List Bool) : List Bool := true :: (a ++ false :: b)
theorem jn_len (a b : List Bool) : (jn a b).length = a.length + b.length + 2 := by unfold jn; simp; omega
theorem jn_ht1 {a b : List Bool} {q : Nat} (h : q ≤ a.length) : ht (jn a b) (q + 1) = 1 + ht a q := by
  unfold ht jn
  rw [List.take_succ_cons, List.take_append_of_le_length h]
  rfl
theorem jn_ht2 (a b : List Bool) (q : Nat) : ht (jn a b) (a.length + 2 + q) = hg a + ht b q := by
  unfold ht jn
  rw [show a.length + 2 + q = (a.length + (q + 1)) + 1 by omega, List.take_succ_cons, List.take_length_add_append, List.take_succ_cons]
  show sg true + hg (a ++ false :: b.take q) = _
  rw [hg_app]
  show 1 + (hg a + (-1 + hg (b.take q))) = _
  omega
theorem jn_hg (a b : List Bool) : hg (jn a b) = hg a + hg b := by
  have h := jn_ht2 a b b.length
  rw [ht_all, show a.length + 2 + b.length = (jn a b).length by rw [jn_len]; omega, ht_all] at h
  exact h
theorem Dyck.jn {a b : List Bool} (x : Dyck a) (y : Dyck b) : Dyck (jn a b) := by
  refine ⟨fun q hq => ?_, by rw [jn_hg, x.fin, y.fin]; rfl⟩
  rw [jn_len] at hq
  by_cases h0 : q = 0
  · subst h0
    rw [ht_zero]
    exact Int.le_refl _
  · by_cases h1 : q ≤ a.length + 1
    · obtain ⟨p, rfl⟩ : ∃ p, q = p + 1 := ⟨q - 1, by omega⟩
      rw [jn_ht1 (by omega)]
      have := x.nn p (by omega)
      omega
    · obtain ⟨p, rfl⟩ : ∃ p, q = a.length + 2 + p := ⟨q - (a.length + 2), by omega⟩
      rw [jn_ht2, x.fin]
      have := y.nn p (by omega)
      omega
theorem jn_R {a b : List Bool} (x : Dyck a) : R (jn a b) 0 (a.length + 1) := by
  refine ⟨by omega, by rw [jn_len]; omega, ?_, fun q h1 h2 => ?_⟩
  · have h := jn_ht2 a b 0
    rw [ht_zero b, x.fin] at h
    rw [ht_zero]
    exact h
  · obtain ⟨p, rfl⟩ : ∃ p, q = p + 1 := ⟨q - 1, by omega⟩
    rw [ht_zero, jn_ht1 (by omega)]
    have := x.nn p (by omega)
    omega
theorem jn_ex {bs : List Bool} (d : Dyck bs) (h : 0 < bs.length) : ∃ a b, Dyck a ∧ Dyck b ∧ bs = jn a b := by
  obtain ⟨j, hj⟩ := pr_ex d h
  have r : R bs 0 j := by
    rcases hj with r | r
    · exact r
    · have := r.lt
      omega
  have hu := r.isU
  have hd := r.isD
  have l1 := r.lt
  have l2 := r.le
  obtain ⟨t, rfl⟩ : ∃ t, bs = true :: t := by
    cases bs with
    | nil => cases hu
    | cons x t => cases hu; exact ⟨t, rfl⟩
  obtain ⟨i, rfl⟩ : ∃ i, j = i + 1 := ⟨j - 1, by omega⟩
  have hd : t[i]? = some false := hd
  have hi := get_lt hd
  have e : true :: t = jn (t.take i) (t.drop (i + 1)) := by
    unfold jn
    congr 1
    have e2 : t.drop i = false :: t.drop (i + 1) := by
      obtain ⟨hm, e⟩ := List.getElem?_eq_some_iff.mp hd
      rw [List.drop_eq_getElem_cons hm, e]
    rw [← e2, List.take_append_drop]
  have la : (t.take i).length = i := by rw [List.length_take]; omega
  have re := r.eq
  have up := r.up
  have dn := d.nn
  have df := d.fin
  rw [ht_zero] at re up
  rw [e] at re up dn df
  have q0 := jn_ht2 (t.take i) (t.drop (i + 1)) 0
  rw [la, show i + 2 + 0 = i + 1 + 1 by omega, re, ht_zero] at q0
  have ga : hg (t.take i) = 0 := by omega
  rw [jn_hg, ga] at df
  refine ⟨t.take i, t.drop (i + 1), ⟨fun q hq => ?_, ga⟩, ⟨fun q hq => ?_, by omega⟩, e⟩
  · have h1 := up (q + 1) (by omega) (by omega)
    rw [jn_ht1 hq] at h1
    omega
  · have h1 := dn (i + 2 + q) (by rw [jn_len, la]; omega)
    have h2 := jn_ht2 (t.take i) (t.drop (i + 1)) q
    rw [la, ga] at h2
    omega
theorem txt_app (a b : List Bool) : txt a ++ txt b = txt (a ++ b) := by
  show (⟨(a.map ch).toArray ++ (b.map ch).toArray⟩ : Str) = ⟨((a ++ b).map ch).toArray⟩
  congr 1
  simp
theorem add_txt {a b : List Bool} (h : a.length + b.length ≤ 16777216) : opAdd (.str (txt a)) (.str (txt b)) = some (.sh (.str (txt (a ++ b)))) := by
  rw [add_str (by rw [txt_len, txt_len]; exact h), txt_app]
theorem add_U {a : List Bool} (h : a.length ≤ 1000) : opAdd (.str "U") (.str (txt a)) = some (.sh (.str (txt (true :: a)))) := add_txt (a := [true]) (b := a) (by simp; omega)
theorem add_D {a : List Bool} (h : a.length ≤ 1000) : opAdd (.str (txt a)) (.str "D") = some (.sh (.str (txt (a ++ [false])))) := add_txt (a := a) (b := [false]) (by simp; omega)
theorem cut_at (bs : List Bool) (lo hi : Nat) : L2.cutS (txt bs) (some (lo : Int)) (some (hi : Int)) = txt ((bs.drop (min lo bs.length)).take (min hi bs.length - min lo bs.length)) := by
  unfold L2.cutS
  rw [txt_len, HT.sIx_nat, HT.sIx_nat]
  show (⟨(((bs.map ch).toArray.toList.drop _).take _).toArray⟩ : Str) = ⟨((List.take _ _).map ch).toArray⟩
  rw [List.toList_toArray, List.map_take, List.map_drop]
theorem cut_from (bs : List Bool) (lo : Nat) : L2.cutS (txt bs) (some (lo : Int)) none = txt (bs.drop (min lo bs.length)) := by
  unfold L2.cutS
  rw [txt_len, HT.sIx_nat, HT.sIx_none]
  show (⟨(((bs.map ch).toArray.toList.drop _).take _).toArray⟩ : Str) = ⟨((List.drop _ _).map ch).toArray⟩
  rw [List.toList_toArray, List.map_drop, List.take_of_length_le (by simp)]
theorem sl_at {bs : List Bool} {lo hi : Nat} (h : bs.length ≤ 16777216) (h1 : lo ≤ bs.length) (h2 : hi ≤ bs.length) : opSl (.str (txt bs)) (some (lo : Int)) (some (hi : Int)) = some (.sh (.str (txt ((bs.drop lo).take (hi - lo))))) := by
  show (if (txt bs).length ≤ 16777216 then some (RV.sh (.str (L2.cutS (txt bs) (some (lo : Int)) (some (hi : Int))))) else none) = _
  rw [txt_len, if_pos h, cut_at, Nat.min_eq_left h1, Nat.min_eq_left h2]
theorem sl_from {bs : List Bool} {lo : Nat} (h : bs.length ≤ 16777216) (h1 : lo ≤ bs.length) : opSl (.str (txt bs)) (some (lo : Int)) none = some (.sh (.str (txt (bs.drop lo)))) := by
  show (if (txt bs).length ≤ 16777216 then some (RV.sh (.str (L2.cutS (txt bs) (some (lo : Int)) none))) else none) = _
  rw [txt_len, if_pos h, cut_from, Nat.min_eq_left h1]
theorem jn_in (a b : List Bool) : ((jn a b).drop 1).take a.length = a := by
  unfold jn
  rw [List.drop_succ_cons, List.drop_zero, List.take_left']
  rfl
theorem jn_out (a b : List Bool) : (jn a b).drop (a.length + 2) = b := by
  unfold jn
  rw [show a.length + 2 = (a.length + 1) + 1 by omega, List.drop_succ_cons, List.drop_length_add_append]
  rfl
end Ma
/-! Ma, part 5: binomial numbers, completions. -/
namespace Ma
open PySem Fd
def C : Nat → Nat → Nat
  | _, 0 => 1
  | 0, _ + 1 => 0
  | n + 1, k + 1 => C n k + C n (k + 1)
theorem C_zero (n : Nat) : C n 0 = 1 := by cases n <;> rfl
theorem C_big : ∀ (n k : Nat), n < k → C n k = 0
  | _, 0, h => by omega
  | 0, k + 1, _ => rfl
  | n + 1, k + 1, h => by
    show C n k + C n (k + 1) = 0
    rw [C_big n k (by omega), C_big n (k + 1) (by omega)]
theorem C_self : ∀ n : Nat, C n n = 1
  | 0 => rfl
  | n + 1 => by
    show C n n + C n (n + 1) = 1
    rw [C_self n, C_big n (n + 1) (by omega)]
theorem C_abs : ∀ (n k : Nat), (n + 1) * C n k = C (n + 1) (k + 1) * (k + 1)
  | 0, 0 => rfl
  | 0, k + 1 => by
    show 1 * 0 = (0 + 0) * _
    omega
  | n + 1, 0 => by
    have h : (n + 1) * C n 0 = C (n + 1) 1 * 1 := C_abs n 0
    show (n + 1 + 1) * C (n + 1) 0 = (C (n + 1) 0 + C (n + 1) 1) * 1
    rw [C_zero] at *
    omega
  | n + 1, k + 1 => by
    have h1 := C_abs n k
    have h2 := C_abs n (k + 1)
    show (n + 1 + 1) * C (n + 1) (k + 1) = (C (n + 1) (k + 1) + C (n + 1) (k + 1 + 1)) * (k + 1 + 1)
    have e : C (n + 1) (k + 1) = C n k + C n (k + 1) := rfl
    have a1 : (n + 1 + 1) * C (n + 1) (k + 1) = (n + 1) * C n k + (n + 1) * C n (k + 1) + C (n + 1) (k + 1) := by
      rw [Nat.succ_mul (n + 1), e, Nat.mul_add]
    have a2 : (C (n + 1) (k + 1) + C (n + 1) (k + 1 + 1)) * (k + 1 + 1) = C (n + 1) (k + 1) * (k + 1) + C (n + 1) (k + 1) + C (n + 1) (k + 1 + 1) * (k + 1 + 1) := by
      rw [Nat.add_mul, Nat.mul_succ (C (n + 1) (k + 1))]
    rw [a1, a2, h1, h2]
    omega
theorem C_step {n k : Nat} (h : k ≤ n) : C n (k + 1) * (k + 1) = C n k * (n - k) := by
  have a := C_abs n k
  have e : C (n + 1) (k + 1) = C n k + C n (k + 1) := rfl
  rw [e, Nat.add_mul (C n k) (C n (k + 1)) (k + 1)] at a
  obtain ⟨d, rfl⟩ : ∃ d, n = k + d := ⟨n - k, by omega⟩
  rw [show k + d - k = d by omega]
  have b : (k + d + 1) * C (k + d) k = C (k + d) k * (k + 1) + C (k + d) k * d := by
    rw [← Nat.mul_add, Nat.mul_comm]
    congr 1
    omega
  omega
theorem C_sym : ∀ (s a b : Nat), a + b = s → C s a = C s b
  | 0, a, b, h => by
    have h1 : a = 0 := by omega
    have h2 : b = 0 := by omega
    subst h1 h2
    rfl
  | s + 1, 0, b, h => by
    have : b = s + 1 := by omega
    subst this
    rw [C_zero, C_self]
  | s + 1, a + 1, 0, h => by
    have : a = s := by omega
    subst this
    rw [C_zero, C_self]
  | s + 1, a + 1, b + 1, h => by
    show C s a + C s (a + 1) = C s b + C s (b + 1)
    rw [C_sym s a (b + 1) (by omega), C_sym s (a + 1) b (by omega), Nat.add_comm]
theorem C_div {n k : Nat} (h : k ≤ n) : (C n k : Int) * ((n : Int) - k) / (k + 1) = C n (k + 1) := by
  have e := C_step h
  have e2 : (C n k : Int) * ((n : Int) - k) = (C n (k + 1) : Int) * (k + 1) := by
    rw [show (n : Int) - k = ((n - k : Nat) : Int) by omega]
    have := congrArg (Int.ofNat) e
    simp only [Int.ofNat_eq_natCast, Int.natCast_mul, Int.natCast_add] at this
    rw [← this]
    rfl
  rw [e2, Int.mul_ediv_cancel _ (by omega)]
theorem C_le : ∀ (n k : Nat), C n k ≤ 2 ^ n
  | n, 0 => by rw [C_zero]; exact Nat.one_le_two_pow
  | 0, k + 1 => Nat.zero_le _
  | n + 1, k + 1 => by
    have h1 := C_le n k
    have h2 := C_le n (k + 1)
    show C n k + C n (k + 1) ≤ _
    rw [Nat.pow_succ]
    omega
theorem C_bd {n k : Nat} (h : n ≤ 1002) : Bd (C n k : Int) 1003 := by
  unfold Bd
  have := C_le n k
  have p : 2 ^ n ≤ 2 ^ 1002 := Nat.pow_le_pow_right (by decide) h
  have p2 : 2 ^ 1002 < 2 ^ 1003 := Nat.pow_lt_pow_right (by decide) (by decide)
  rw [Int.natAbs_natCast]
  omega
/-- in how many ways a height comes down -/
def B (n r : Nat) : Int := (C n r : Int) - (match r with | 0 => 0 | r + 1 => (C n r : Int))
theorem B_step (n r : Nat) : B (n + 1) (r + 1) = B n (r + 1) + B n r := by
  unfold B
  cases r with
  | zero =>
    show ((C n 0 + C n 1 : Nat) : Int) - C (n + 1) 0 = (C n 1 : Int) - C n 0 + (C n 0 - 0)
    rw [C_zero, C_zero]
    omega
  | succ r =>
    show ((C n (r + 1) + C n (r + 1 + 1) : Nat) : Int) - ((C n r + C n (r + 1) : Nat) : Int) = (C n (r + 1 + 1) : Int) - C n (r + 1) + (C n (r + 1) - C n r)
    omega
theorem B_half (r : Nat) : B (2 * r + 1) (r + 1) = 0 := by
  show (C (2 * r + 1) (r + 1) : Int) - C (2 * r + 1) r = 0
  rw [C_sym (2 * r + 1) (r + 1) r (by omega)]
  omega
/-- the numbers of words -/
theorem cat_mul (m : Nat) : B (2 * m) m * (m + 1) = C (2 * m) m := by
  cases m with
  | zero => rfl
  | succ m =>
    show ((C (2 * (m + 1)) (m + 1) : Int) - C (2 * (m + 1)) m) * ((m + 1 : Nat) + 1) = _
    have e := C_step (n := 2 * (m + 1)) (k := m) (by omega)
    rw [show 2 * (m + 1) - m = m + 2 by omega] at e
    have e : (C (2 * (m + 1)) (m + 1) : Int) * (m + 1) = (C (2 * (m + 1)) m : Int) * (m + 2) := by exact_mod_cast e
    rw [Int.sub_mul, show ((m + 1 : Nat) : Int) + 1 = (m : Int) + 2 by omega, ← e, show (m : Int) + 2 = (m + 1) + 1 by omega, Int.mul_add _ ((m : Int) + 1), Int.mul_one]
    omega
/-- the completions of a height of a length -/
def F (l n : Nat) : Int := if n < l ∨ (n - l) % 2 = 1 then 0 else B n ((n - l) / 2)
theorem F_big {l n : Nat} (h : n < l) : F l n = 0 := if_pos (.inl h)
theorem F_odd {l n : Nat} (h : (n - l) % 2 = 1) : F l n = 0 := if_pos (.inr h)
theorem F_even {l n r : Nat} (h : n = l + 2 * r) : F l n = B n r := by
  unfold F
  rw [if_neg (by omega), show (n - l) / 2 = r by omega]
theorem B_zero (n : Nat) : B n 0 = 1 := by
  show (C n 0 : Int) - 0 = 1
  rw [C_zero]
  rfl
theorem F_step0 (n : Nat) : F 0 (n + 1) = F 1 n := by
  by_cases h : n % 2 = 0
  · rw [F_odd (by omega)]
    by_cases h0 : n = 0
    · subst h0; rw [F_big (by omega)]
    · rw [F_odd (by omega)]
  · obtain ⟨r, rfl⟩ : ∃ r, n = 2 * r + 1 := ⟨n / 2, by omega⟩
    rw [F_even (l := 0) (r := r + 1) (by omega), F_even (l := 1) (r := r) (by omega), B_step, B_half]
    omega
theorem F_step (l n : Nat) : F (l + 1) (n + 1) = F l n + F (l + 2) n := by
  by_cases hb : n < l
  · rw [F_big (by omega), F_big hb, F_big (by omega)]
    rfl
  · by_cases h : (n - l) % 2 = 1
    · rw [F_odd (show (n + 1 - (l + 1)) % 2 = 1 by omega), F_odd h]
      by_cases h2 : n < l + 2
      · rw [F_big h2]; rfl
      · rw [F_odd (by omega)]; rfl
    · obtain ⟨r, hr⟩ : ∃ r, n = l + 2 * r := ⟨(n - l) / 2, by omega⟩
      rw [F_even (l := l + 1) (r := r) (by omega), F_even hr]
      cases r with
      | zero => rw [F_big (by omega), B_zero, B_zero]; rfl
      | succ r => rw [F_even (l := l + 2) (r := r) (by omega), B_step]
theorem F_bd {l n : Nat} (h : n ≤ 1002) : Bd (F l n) 1005 := by
  unfold F
  split
  · decide
  · unfold B
    have a := C_bd (n := n) (k := (n - l) / 2) h
    split
    · rw [Int.sub_zero]
      exact a.mono (by decide)
    · rename_i r _
      have b := C_bd (n := n) (k := r) h
      unfold Bd at *
      have p : (2 : Nat) ^ 1005 = 2 ^ 1003 * 4 := by rw [← Nat.pow_add 2 1003 2]
      omega
theorem B_le (n r : Nat) : (B n r).natAbs ≤ 2 ^ n := by
  cases r with
  | zero =>
    rw [B_zero]
    exact Nat.one_le_two_pow
  | succ q =>
    have a := C_le n (q + 1)
    have b := C_le n q
    show ((C n (q + 1) : Int) - C n q).natAbs ≤ _
    omega
theorem F_le (l n : Nat) : (F l n).natAbs ≤ 2 ^ n := by
  unfold F
  split
  · exact Nat.zero_le _
  · exact B_le _ _
theorem F_cat (m : Nat) : F 0 (2 * m) = B (2 * m) m := F_even (by omega)
theorem cat_next (m : Nat) : B (2 * (m + 1)) (m + 1) * (m + 2) = B (2 * m) m * (4 * m + 2) := by
  have h1 := cat_mul (m + 1)
  have h2 := cat_mul m
  have a1 := C_abs (2 * m + 1) m
  have a2 := C_abs (2 * m) m
  have sy := C_sym (2 * m + 1) (m + 1) m (by omega)
  rw [sy] at a2
  have e1 : C (2 * (m + 1)) (m + 1) = 2 * C (2 * m + 1) m := by
    have : (m + 1) * (2 * C (2 * m + 1) m) = (m + 1) * C (2 * (m + 1)) (m + 1) := by
      rw [show 2 * (m + 1) = 2 * m + 1 + 1 by omega, Nat.mul_comm (m + 1) (C _ _), ← a1, ← Nat.mul_assoc]
      congr 1
      omega
    exact (Nat.eq_of_mul_eq_mul_left (by omega) this).symm
  have e2 : ((2 * m + 1 : Nat) : Int) * C (2 * m) m = (C (2 * m + 1) m : Int) * (m + 1) := by exact_mod_cast a2
  rw [← h2] at e2
  have e3 : ((m : Int) + 1) * (B (2 * m) m * (2 * m + 1)) = ((m : Int) + 1) * (C (2 * m + 1) m) := by
    rw [Int.mul_comm _ (C (2 * m + 1) m : Int), ← e2, show ((2 * m + 1 : Nat) : Int) = 2 * m + 1 by omega]
    rw [← Int.mul_assoc, Int.mul_comm ((m : Int) + 1), Int.mul_comm]
  have e4 := Int.eq_of_mul_eq_mul_left (by omega) e3
  rw [show (m : Int) + 2 = ((m + 1 : Nat) : Int) + 1 by omega, h1, e1, show (4 : Int) * m + 2 = (2 * m + 1) * 2 by omega, ← Int.mul_assoc, e4]
  rw [Int.natCast_mul, Int.mul_comm]
  rfl
theorem repr_big {i : Int} (h : Bd i 1005) : opRepr [.int i] = some (.sh (.str (toString i))) := by
  have l : i.natAbs.log2 < 1005 := log2_lt h (by decide)
  exact if_pos (by omega)
theorem eq_same (x : Str) : opEq (.str x) (.str x) = some (.sh (.bool true)) := by rw [eq_str, decide_eq_true rfl]
theorem eqi_same (x : Int) : opEq (.int x) (.int x) = some (.sh (.bool true)) := by rw [eq_int]; simp
theorem nei_same (x : Int) : opNe (.int x) (.int x) = some (.sh (.bool false)) := by rw [ne_int]; simp
theorem cut_take (xs : List D) (k : Nat) : cutD xs none (some (k : Int)) = xs.take k := by
  unfold cutD
  rw [HT.sIx_none, HT.sIx_nat, List.drop_zero, Nat.sub_zero]
  by_cases h : k ≤ xs.length
  · rw [Nat.min_eq_left h]
  · rw [Nat.min_eq_right (by omega), List.take_of_length_le (Nat.le_refl _), List.take_of_length_le (by omega)]
end Ma
/-! Ty, part 1: the typed reading of mirrors. -/
namespace Ty
open PySem Fd

/-- what a typed program gives: no word (bad), an error, a value -/
inductive Rs (α : Type) where
  | bad
  | exc (e : Exc)
  | ok (a : α)
def Rs.bind {α β : Type} : Rs α → (α → Rs β) → Rs β
  | .bad, _ => .bad
  | .exc e, _ => .exc e
  | .ok a, f => f a
/-- a partial operation, then the rest -/
def ob {α β : Type} : Option α → (α → Rs β) → Rs β
  | none, _ => .bad
  | some a, f => f a
@[simp] theorem bind_ok {α β : Type} (a : α) (f : α → Rs β) : (Rs.ok a).bind f = f a := rfl
@[simp] theorem bind_bad {α β : Type} (f : α → Rs β) : (Rs.bad).bind f = .bad := rfl
@[simp] theorem bind_exc {α β : Type} (e : Exc) (f : α → Rs β) : (Rs.exc e).bind f = .exc e := rfl
@[simp] theorem ob_some {α β : Type} (a : α) (f : α → Rs β) : ob (some a) f = f a := rfl
@[simp] theorem ob_none {α β : Type} (f : α → Rs β) : ob none f = .bad := rfl
/-- what a loop's turn gives -/
inductive Bo (σ ρ : Type) where
  | nx (s : σ)
  | bk (s : σ)
  | rt (r : ρ)
def foldR {α σ : Type} (f : α → σ → Rs σ) : List α → σ → Rs σ
  | [], s => .ok s
  | x :: xs, s => (f x s).bind (foldR f xs)
def forR {α σ ρ : Type} (f : α → σ → Rs (Bo σ ρ)) : List α → σ → Rs (Bo σ ρ)
  | [], s => .ok (.nx s)
  | x :: xs, s => (f x s).bind fun z => match z with
    | .nx s => forR f xs s
    | .bk s => .ok (.nx s)
    | .rt r => .ok (.rt r)
def whileR {σ : Type} (c : σ → Rs Bool) (f : σ → Rs σ) : Nat → σ → Rs σ
  | 0, _ => .bad
  | n + 1, s => (c s).bind fun b => if b = true then (f s).bind (whileR c f n) else .ok s
def loopR {σ ρ : Type} (c : σ → Rs Bool) (f : σ → Rs (Bo σ ρ)) : Nat → σ → Rs (Bo σ ρ)
  | 0, _ => .bad
  | n + 1, s => (c s).bind fun b => if b = true then ((f s).bind fun z => match z with
    | .nx s => loopR c f n s
    | .bk s => .ok (.nx s)
    | .rt r => .ok (.rt r)) else .ok (.nx s)
/-- a comprehension whose parts may fail -/
def mapR {α β : Type} (f : α → Rs β) : List α → Rs (List β)
  | [] => .ok []
  | x :: xs => (f x).bind fun y => (mapR f xs).bind fun ys => .ok (y :: ys)
def fmR {α β : Type} (f : α → Rs (Option β)) : List α → Rs (List β)
  | [] => .ok []
  | x :: xs => (f x).bind fun y => (fmR f xs).bind fun ys => .ok (match y with | none => ys | some y => y :: ys)
def mapS {α β σ : Type} (f : α → σ → Rs (β × σ)) : List α → σ → Rs (List β × σ)
  | [], s => .ok ([], s)
  | x :: xs, s => (f x s).bind fun y => (mapS f xs y.2).bind fun ys => .ok (y.1 :: ys.1, ys.2)
def fmS {α β σ : Type} (f : α → σ → Rs (Option β × σ)) : List α → σ → Rs (List β × σ)
  | [], s => .ok ([], s)
  | x :: xs, s => (f x s).bind fun y => (fmS f xs y.2).bind fun ys => .ok (match y.1 with | none => ys.1 | some z => z :: ys.1, ys.2)

/-! ### what is known of the slots -/
inductive Sc where
  | c (x : Cell)
  | pl
  | any
  | os (d : D)
abbrev Gm := List Sc
abbrev U : Sc := .c .un
abbrev S (d : D) : Sc := .c (.sh d)
abbrev O (d : D) : Sc := .c (.own d)
abbrev A (d : D) : Sc := .c (.arg d)
def plC : Cell → Bool
  | .un => true
  | .sh _ => true
  | _ => false
def okD : Cell → Bool
  | .arg _ => false
  | _ => true
def McC : Sc → Cell → Prop
  | .c x, y => y = x
  | .pl, y => plC y = true
  | .any, y => okD y = true
  | .os d, y => y = .own d ∨ y = .sh d
def Mt : Gm → Rho → Prop
  | [], [] => True
  | s :: Γ, x :: ρ => McC s x ∧ Mt Γ ρ
  | _, _ => False
theorem plC_ok {c : Cell} (h : plC c = true) : okD c = true := by cases c <;> first | rfl | cases h
theorem Mt.get {Γ : Gm} {ρ : Rho} (h : Mt Γ ρ) : ∀ {i : Nat} {s : Sc}, Γ[i]? = some s → ∃ x, ρ[i]? = some x ∧ McC s x := by
  induction Γ generalizing ρ with
  | nil => intro i s e; simp at e
  | cons t Γ ih =>
    cases ρ with
    | nil => exact h.elim
    | cons x ρ =>
      intro i s e
      cases i with
      | zero => simp at e; subst e; exact ⟨x, rfl, h.1⟩
      | succ i => simp at e; simpa using ih h.2 e
theorem Mt.set {Γ : Gm} {ρ : Rho} (h : Mt Γ ρ) {i : Nat} {s : Sc} {x : Cell} (hx : McC s x) : Mt (Γ.set i s) (ρ.set i x) := by
  induction Γ generalizing ρ i with
  | nil =>
    cases ρ with
    | nil => exact True.intro
    | cons => exact h.elim
  | cons t Γ ih =>
    cases ρ with
    | nil => exact h.elim
    | cons y ρ =>
      cases i with
      | zero => exact ⟨hx, h.2⟩
      | succ i => exact ⟨h.1, ih h.2⟩
theorem Mt.len {Γ : Gm} {ρ : Rho} (h : Mt Γ ρ) : Γ.length = ρ.length := by
  induction Γ generalizing ρ with
  | nil =>
    cases ρ with
    | nil => rfl
    | cons => exact h.elim
  | cons t Γ ih =>
    cases ρ with
    | nil => exact h.elim
    | cons y ρ => simp [ih h.2]
/-- less is known -/
def WkC : Sc → Sc → Prop
  | .c x, .c y => x = y
  | .c x, .pl => plC x = true
  | .c x, .any => okD x = true
  | .pl, .pl => True
  | .pl, .any => True
  | .any, .any => True
  | .c x, .os d => x = .own d ∨ x = .sh d
  | .os d, .os e => d = e
  | .os _, .any => True
  | _, _ => False
def Wk : Gm → Gm → Prop
  | [], [] => True
  | s :: Γ, t :: Δ => WkC s t ∧ Wk Γ Δ
  | _, _ => False
theorem WkC.mc {s t : Sc} {x : Cell} (h : WkC s t) (m : McC s x) : McC t x := by
  cases s <;> cases t <;> first | exact h.elim | (cases h; exact m) | (cases m; first | exact h | exact h ▸ rfl) | exact m | exact plC_ok m | (rcases m with rfl | rfl <;> rfl)
theorem Wk.mt {Γ Δ : Gm} {ρ : Rho} (h : Wk Γ Δ) (m : Mt Γ ρ) : Mt Δ ρ := by
  induction Γ generalizing Δ ρ with
  | nil => cases Δ <;> cases ρ <;> first | exact h.elim | exact m.elim | exact True.intro
  | cons s Γ ih => cases Δ <;> cases ρ <;> first | exact h.elim | exact m.elim | exact ⟨h.1.mc m.1, ih h.2 m.2⟩
theorem WkC.rfl' (s : Sc) : WkC s s := by cases s <;> trivial
theorem Wk.refl : ∀ Γ : Gm, Wk Γ Γ
  | [] => True.intro
  | s :: Γ => ⟨WkC.rfl' s, Wk.refl Γ⟩

/-! ### the judgement -/
abbrev Po (α β : Type) := α → β → Rho → Prop
def Px {β : Type} (e : Exc) (r : Option (Out β × Rho)) : Option Gm → Prop
  | none => True
  | some Δ => ∃ ρ', r = some (.exc e, ρ') ∧ Mt Δ ρ'
def Ps {α β : Type} (X : Option Gm) (Q : Po α β) (r : Option (Out β × Rho)) : Rs α → Prop
  | .bad => True
  | .exc e => Px e r X
  | .ok a => ∃ v ρ', r = some (.val v, ρ') ∧ Q a v ρ'
structure Tr {α β : Type} (X : Option Gm) (Γ : Gm) (m : M β) (t : Rs α) (Q : Po α β) : Prop where
  of ::
  run : ∀ ρ, Mt Γ ρ → Ps X Q (m ρ) t
instance {α β : Type} {X : Option Gm} {Γ : Gm} {m : M β} {t : Rs α} {Q : Po α β} : CoeFun (Tr X Γ m t Q) (fun _ => ∀ ρ, Mt Γ ρ → Ps X Q (m ρ) t) := ⟨Tr.run⟩
/-- the end that says what comes out and what the slots are -/
def J {α β : Type} (v : α → β) (G : α → Gm) : Po α β := fun a w ρ => w = v a ∧ Mt (G a) ρ
/-- the end of a turn -/
def JN {σ : Type} (G : σ → Gm) : Po σ Fl := fun s w ρ => (w = .nx ∨ w = .ct) ∧ Mt (G s) ρ
def JB {σ r : Type} (G : σ → Gm) (Q : Po r Fl) : Po (Bo σ r) Fl := fun z w ρ => match z with
  | .nx s => (w = .nx ∨ w = .ct) ∧ Mt (G s) ρ
  | .bk s => w = .bk ∧ Mt (G s) ρ
  | .rt r => (∃ v, w = .rt v) ∧ Q r w ρ
section
variable {α β γ δ : Type} {X : Option Gm} {Γ Δ : Gm} {t : Rs α}
theorem Tr.weak {m : M β} {Q : Po α β} (w : Wk Γ Δ) (h : Tr X Δ m t Q) : Tr X Γ m t Q := .of fun ρ hρ => h ρ (w.mt hρ)
theorem Tr.eq {m m' : M β} {Q : Po α β} (e : m = m') (h : Tr X Γ m' t Q) : Tr X Γ m t Q := e ▸ h
theorem Tr.imp {m : M β} {Q Q' : Po α β} (h : Tr X Γ m t Q) (i : ∀ a v ρ, Q a v ρ → Q' a v ρ) : Tr X Γ m t Q' := .of fun ρ hρ => by
  have := h ρ hρ
  cases t with
  | bad => trivial
  | exc e => exact this
  | ok a => obtain ⟨v, ρ', e, q⟩ := this; exact ⟨v, ρ', e, i _ _ _ q⟩
theorem bnd_assoc (a : M β) (k : β → M γ) (f : γ → M δ) : bnd (bnd a k) f = bnd a fun x => bnd (k x) f := by
  funext ρ
  simp only [bnd_ap]
  cases a ρ with
  | none => rfl
  | some z => obtain ⟨o, r⟩ := z; cases o <;> rfl
theorem bnd_ret (a : M β) : bnd a Fd.ret = a := by
  funext ρ
  simp only [bnd_ap]
  cases a ρ with
  | none => rfl
  | some z => obtain ⟨o, r⟩ := z; cases o <;> rfl
theorem kA {a : M β} {k : β → M γ} {f : γ → M δ} {Q : Po α δ} (h : Tr X Γ (bnd a fun x => bnd (k x) f) t Q) : Tr X Γ (bnd (bnd a k) f) t Q := .eq (bnd_assoc a k f) h
theorem kR {a : β} {f : β → M γ} {Q : Po α γ} (h : Tr X Γ (f a) t Q) : Tr X Γ (bnd (Fd.ret a) f) t Q := h
theorem kE {m : M β} {Q : Po α β} (h : Tr X Γ (bnd m Fd.ret) t Q) : Tr X Γ m t Q := .eq (bnd_ret m).symm h
/-- an end -/
theorem kJ {v : α → β} {G : α → Gm} {a : α} {w : β} (hv : w = v a) (hw : Wk Γ (G a)) : Tr X Γ (Fd.ret w) (.ok a) (J v G) := .of fun ρ hρ => ⟨w, ρ, rfl, hv, hw.mt hρ⟩
theorem kNx {σ : Type} {G : σ → Gm} {s : σ} (hw : Wk Γ (G s)) : Tr X Γ (Fd.ret .nx) (.ok s) (JN G) := .of fun ρ hρ => ⟨_, ρ, rfl, .inl rfl, hw.mt hρ⟩
theorem kCt {σ : Type} {G : σ → Gm} {s : σ} (hw : Wk Γ (G s)) : Tr X Γ (Fd.ret .ct) (.ok s) (JN G) := .of fun ρ hρ => ⟨_, ρ, rfl, .inr rfl, hw.mt hρ⟩
theorem kNxB {σ r : Type} {G : σ → Gm} {Q : Po r Fl} {s : σ} (hw : Wk Γ (G s)) : Tr X Γ (Fd.ret .nx) (.ok (.nx s)) (JB G Q) := .of fun ρ hρ => ⟨_, ρ, rfl, .inl rfl, hw.mt hρ⟩
theorem kCtB {σ r : Type} {G : σ → Gm} {Q : Po r Fl} {s : σ} (hw : Wk Γ (G s)) : Tr X Γ (Fd.ret .ct) (.ok (.nx s)) (JB G Q) := .of fun ρ hρ => ⟨_, ρ, rfl, .inr rfl, hw.mt hρ⟩
theorem kBkB {σ r : Type} {G : σ → Gm} {Q : Po r Fl} {s : σ} (hw : Wk Γ (G s)) : Tr X Γ (Fd.ret .bk) (.ok (.bk s)) (JB G Q) := .of fun ρ hρ => ⟨_, ρ, rfl, rfl, hw.mt hρ⟩
theorem kRtB {σ r : Type} {G : σ → Gm} {Q : Po r Fl} {v : RV} {a : r} (h : Tr X Γ (Fd.ret (.rt v)) (.ok a) Q) : Tr X Γ (Fd.ret (.rt v)) (.ok (.rt a)) (JB G Q) := .of fun ρ hρ => by
  obtain ⟨w, ρ', e, q⟩ := h ρ hρ
  cases e
  exact ⟨_, _, rfl, ⟨v, rfl⟩, q⟩
/-- an error -/
theorem kX {e : Exc} {Q : Po α β} (hw : ∀ Δ, X = some Δ → Wk Γ Δ) : Tr X Γ (thr e) (.exc e) Q := .of fun ρ hρ => by
  cases X with
  | none => trivial
  | some Δ => exact ⟨ρ, rfl, (hw Δ rfl).mt hρ⟩
/-- one after the other -/
theorem kBind {m : M β} {f : β → M γ} {o : Rs δ} {k : δ → Rs α} {P : Po δ β} {Q : Po α γ} (h : Tr X Γ m o P) (hk : ∀ z v ρ, P z v ρ → Ps X Q (f v ρ) (k z)) : Tr X Γ (bnd m f) (o.bind k) Q := .of fun ρ hρ => by
  have := h ρ hρ
  cases o with
  | bad => trivial
  | exc e =>
    cases X with
    | none => trivial
    | some Δ =>
      obtain ⟨ρ', e', q⟩ := this
      exact ⟨ρ', by rw [bnd_ap, e'], q⟩
  | ok z =>
    obtain ⟨v, ρ', e', q⟩ := this
    have h2 := hk z v ρ' q
    show Ps X Q (bnd m f ρ) (k z)
    rw [bnd_ap, e']
    exact h2
theorem kJoin {m : M β} {f : β → M γ} {o : Rs δ} {k : δ → Rs α} {v : δ → β} {G : δ → Gm} {Q : Po α γ} (h : Tr X Γ m o (J v G)) (hk : ∀ z, Tr X (G z) (f (v z)) (k z) Q) : Tr X Γ (bnd m f) (o.bind k) Q :=
  kBind h fun z w ρ ⟨e, q⟩ => by
    subst e
    exact hk z ρ q
/-- a step that gives what it gives, without a word in the typed program -/
theorem kDo {m : M β} {f : β → M γ} {v : β} {Q : Po α γ} (h : ∀ ρ, Mt Γ ρ → ∃ ρ', m ρ = some (.val v, ρ') ∧ Mt Δ ρ') (hk : Tr X Δ (f v) t Q) : Tr X Γ (bnd m f) t Q := .of fun ρ hρ => by
  obtain ⟨ρ', e, q⟩ := h ρ hρ
  have := hk ρ' q
  rw [bnd_ap, e]
  exact this
theorem kObind {m : M β} {f : β → M γ} {o : Option δ} {k : δ → Rs α} {v : δ → β} {G : δ → Gm} {Q : Po α γ} (h : ∀ z, o = some z → ∀ ρ, Mt Γ ρ → ∃ ρ', m ρ = some (.val (v z), ρ') ∧ Mt (G z) ρ') (hk : ∀ z, Tr X (G z) (f (v z)) (k z) Q) : Tr X Γ (bnd m f) (ob o k) Q := by
  cases o with
  | none => exact .of fun ρ hρ => True.intro
  | some z => exact kDo (h z rfl) (hk z)
end

/-- own or frozen: both ways -/
theorem Mt.os {Γ : Gm} {ρ : Rho} (m : Mt Γ ρ) : ∀ {i : Nat} {d : D}, Γ[i]? = some (.os d) → Mt (Γ.set i (O d)) ρ ∨ Mt (Γ.set i (S d)) ρ := by
  induction Γ generalizing ρ with
  | nil => intro i d h; simp at h
  | cons s Γ ih =>
    cases ρ with
    | nil => exact m.elim
    | cons x ρ =>
      intro i d h
      cases i with
      | zero =>
        simp at h
        subst h
        rcases m.1 with rfl | rfl
        · exact .inl ⟨rfl, m.2⟩
        · exact .inr ⟨rfl, m.2⟩
      | succ i =>
        simp at h
        rcases ih m.2 h with h | h
        · exact .inl ⟨m.1, h⟩
        · exact .inr ⟨m.1, h⟩
theorem kOs {α β : Type} {X : Option Gm} {Γ Δ Θ : Gm} {m : M β} {t : Rs α} {Q : Po α β} (i : Nat) {d : D} (h : Γ[i]? = some (.os d)) (e1 : Γ.set i (O d) = Δ) (e2 : Γ.set i (S d) = Θ) (h1 : Tr X Δ m t Q) (h2 : Tr X Θ m t Q) : Tr X Γ m t Q := .of fun ρ hρ => by
  subst e1 e2
  rcases hρ.os h with m1 | m1
  · exact h1 ρ m1
  · exact h2 ρ m1
/-! ### reading slots -/
def evG (Γ : Gm) (i : Nat) : Option RV := match Γ[i]? with
  | some (.c (.sh d)) => some (.sh d)
  | some (.c (.own _)) => some (.slot i)
  | some (.c (.arg _)) => some (.slot i)
  | _ => none
def rdG (Γ : Gm) : RV → Option D
  | .sh d => some d
  | .new d => some d
  | .slot i => match Γ[i]? with
    | some (.c (.sh d)) => some d
    | some (.c (.own d)) => some d
    | some (.c (.arg d)) => some d
    | _ => none
def rdsG (Γ : Gm) : List RV → Option (List D)
  | [] => some []
  | r :: rs => match rdG Γ r with
    | none => none
    | some d => match rdsG Γ rs with
      | none => none
      | some ds => some (d :: ds)
theorem evG_ok {Γ : Gm} {ρ : Rho} {i : Nat} {r : RV} (m : Mt Γ ρ) (h : evG Γ i = some r) : eV i ρ = some (.val r, ρ) := by
  unfold evG at h
  cases g : Γ[i]? with
  | none => rw [g] at h; cases h
  | some s =>
    obtain ⟨x, e, q⟩ := m.get g
    rw [g] at h
    cases s with
    | c y =>
      cases q
      unfold eV
      rw [e]
      cases x <;> first | (cases h; rfl) | cases h
    | pl => cases h
    | any => cases h
    | os d => cases h
theorem rdG_ok {Γ : Gm} {ρ : Rho} {r : RV} {d : D} (m : Mt Γ ρ) (h : rdG Γ r = some d) : rd r ρ = some d := by
  cases r with
  | sh d => exact h
  | new d => exact h
  | slot i =>
    simp only [rdG] at h
    cases g : Γ[i]? with
    | none => rw [g] at h; cases h
    | some s =>
      obtain ⟨x, e, q⟩ := m.get g
      rw [g] at h
      cases s with
      | c y =>
        cases q
        simp only [rd]
        rw [e]
        cases x <;> first | exact h | cases h
      | pl => cases h
      | any => cases h
      | os d => cases h
theorem rdsG_ok {Γ : Gm} {ρ : Rho} (m : Mt Γ ρ) : ∀ {rs : List RV} {ds : List D}, rdsG Γ rs = some ds → rds rs ρ = some ds
  | [], ds, h => h
  | r :: rs, ds, h => by
    unfold rdsG at h
    cases g : rdG Γ r with
    | none => rw [g] at h; cases h
    | some d =>
      rw [g] at h
      cases g2 : rdsG Γ rs with
      | none => rw [g2] at h; cases h
      | some es =>
        rw [g2] at h
        cases h
        unfold rds
        rw [rdG_ok m g, rdsG_ok m g2]
def nsl : RV → Bool
  | .sh _ => true
  | .new _ => true
  | _ => false
theorem fin_nsl {r : RV} (h : nsl r = true) (ρ : Rho) : fin (some r) ρ = some (.val r, ρ) := by cases r <;> first | rfl | cases h
end Ty
/-! Ty, part 2: steps. -/
namespace Ty
open PySem Fd
/-! ### frozen, stored, lent: what becomes of the slots -/
def fzG (Γ : Gm) : RV → Option (D × Gm)
  | .sh d => some (d, Γ)
  | .new d => some (d, Γ)
  | .slot i => match Γ[i]? with
    | some (.c (.own d)) => some (d, Γ.set i (S d))
    | some (.c (.sh d)) => some (d, Γ)
    | _ => none
def fzsG : Gm → List RV → Option (List D × Gm)
  | Γ, [] => some ([], Γ)
  | Γ, r :: rs => match fzG Γ r with
    | none => none
    | some (d, Δ) => match fzsG Δ rs with
      | none => none
      | some (ds, Θ) => some (d :: ds, Θ)
def fzmG : Gm → List Bool → List RV → Option (List RV × Gm)
  | Γ, [], [] => some ([], Γ)
  | Γ, true :: ms, r :: rs => match fzmG Γ ms rs with
    | none => none
    | some (qs, Θ) => some (r :: qs, Θ)
  | Γ, false :: ms, r :: rs => match fzG Γ r with
    | none => none
    | some (d, Δ) => match fzmG Δ ms rs with
      | none => none
      | some (qs, Θ) => some (.sh d :: qs, Θ)
  | _, _, _ => none
def fzlG : Gm → List RV → Option (List RV × Gm)
  | Γ, [] => some ([], Γ)
  | Γ, .slot i :: rs => match fzG Γ (.slot i) with
    | none => none
    | some (d, Δ) => match fzlG Δ rs with
      | none => none
      | some (qs, Θ) => some (.sh d :: qs, Θ)
  | Γ, .sh d :: rs => match fzlG Γ rs with
    | none => none
    | some (qs, Θ) => some (.sh d :: qs, Θ)
  | Γ, .new d :: rs => match fzlG Γ rs with
    | none => none
    | some (qs, Θ) => some (.new d :: qs, Θ)
def okG : Option Sc → Bool
  | some (.c x) => okD x
  | some .pl => true
  | some .any => true
  | some (.os _) => true
  | none => false
def asgG (i : Nat) (r : RV) (Γ : Gm) : Option Gm := match okG Γ[i]? with
  | false => none
  | true => match r with
    | .sh d => some (Γ.set i (S d))
    | .new d => some (Γ.set i (O d))
    | .slot j => match Γ[j]? with
      | some (.c (.own d)) => some ((Γ.set j (S d)).set i (S d))
      | some (.c (.sh d)) => some (Γ.set i (S d))
      | _ => none
def lend1G (Γ : Gm) : RV → Option Cell
  | .sh d => some (.sh d)
  | .new d => some (.arg d)
  | .slot i => match Γ[i]? with
    | some (.c (.own d)) => some (.arg d)
    | some (.c (.arg d)) => some (.arg d)
    | some (.c (.sh d)) => some (.sh d)
    | _ => none
def lendG (Γ : Gm) : List RV → Option (List Cell)
  | [] => some []
  | r :: rs => match lend1G Γ r with
    | none => none
    | some c => match lendG Γ rs with
      | none => none
      | some cs => some (c :: cs)
def back1G (i : Nat) (d : D) (Γ : Gm) : Gm := match Γ[i]? with
  | some (.c (.own _)) => Γ.set i (O d)
  | some (.c (.arg _)) => Γ.set i (A d)
  | some (.c (.sh _)) => Γ
  | some (.c .un) => Γ
  | _ => []
def backG : List RV → List Cell → Gm → Gm
  | .slot i :: rs, .arg d :: cs, Γ => backG rs cs (back1G i d Γ)
  | .slot _ :: rs, .sh _ :: cs, Γ => backG rs cs Γ
  | .sh _ :: rs, _ :: cs, Γ => backG rs cs Γ
  | .new _ :: rs, _ :: cs, Γ => backG rs cs Γ
  | [], [], Γ => Γ
  | _, _, _ => []
section
variable {Γ Δ : Gm} {ρ : Rho}
theorem fzG_ok {r : RV} {d : D} (m : Mt Γ ρ) (h : fzG Γ r = some (d, Δ)) : ∃ ρ', fz r ρ = some (.val d, ρ') ∧ Mt Δ ρ' := by
  cases r with
  | sh e => cases h; exact ⟨ρ, rfl, m⟩
  | new e => cases h; exact ⟨ρ, rfl, m⟩
  | slot i =>
    simp only [fzG] at h
    cases g : Γ[i]? with
    | none => rw [g] at h; cases h
    | some s =>
      obtain ⟨x, e, q⟩ := m.get g
      rw [g] at h
      cases s with
      | c y =>
        cases q
        simp only [fz]
        rw [e]
        cases x with
        | own d' => cases h; exact ⟨_, rfl, m.set (s := S _) rfl⟩
        | sh d' => cases h; exact ⟨_, rfl, m⟩
        | un => cases h
        | arg d' => cases h
      | pl => cases h
      | any => cases h
      | os d => cases h
theorem fzsG_ok : ∀ {rs : List RV} {ds : List D} {Γ Δ : Gm} {ρ : Rho}, Mt Γ ρ → fzsG Γ rs = some (ds, Δ) → ∃ ρ', fzs rs ρ = some (.val ds, ρ') ∧ Mt Δ ρ'
  | [], ds, Γ, Δ, ρ, m, h => by cases h; exact ⟨ρ, rfl, m⟩
  | r :: rs, ds, Γ, Δ, ρ, m, h => by
    simp only [fzsG] at h
    split at h
    · cases h
    · rename_i d Θ e
      obtain ⟨ρ1, e1, m1⟩ := fzG_ok m e
      split at h
      · cases h
      · rename_i es Ξ e2
        cases h
        obtain ⟨ρ2, e2, m2⟩ := fzsG_ok m1 e2
        refine ⟨ρ2, ?_, m2⟩
        rw [fzs_cons, bnd_ap, e1]
        show bnd (fzs rs) _ ρ1 = _
        rw [bnd_ap, e2]
        rfl
theorem fzmG_ok : ∀ {ms : List Bool} {rs : List RV} {qs : List RV} {Γ Δ : Gm} {ρ : Rho}, Mt Γ ρ → fzmG Γ ms rs = some (qs, Δ) → ∃ ρ', fzMask ms rs ρ = some (.val qs, ρ') ∧ Mt Δ ρ'
  | [], [], qs, Γ, Δ, ρ, m, h => by cases h; exact ⟨ρ, rfl, m⟩
  | true :: ms, r :: rs, qs, Γ, Δ, ρ, m, h => by
    simp only [fzmG] at h
    split at h
    · cases h
    · rename_i es Ξ e2
      cases h
      obtain ⟨ρ2, e2, m2⟩ := fzmG_ok m e2
      refine ⟨ρ2, ?_, m2⟩
      rw [fzMask_t, bnd_ap, e2]
      rfl
  | false :: ms, r :: rs, qs, Γ, Δ, ρ, m, h => by
    simp only [fzmG] at h
    split at h
    · cases h
    · rename_i d Θ e
      obtain ⟨ρ1, e1, m1⟩ := fzG_ok m e
      split at h
      · cases h
      · rename_i es Ξ e2
        cases h
        obtain ⟨ρ2, e2, m2⟩ := fzmG_ok m1 e2
        refine ⟨ρ2, ?_, m2⟩
        rw [fzMask_f, bnd_ap, e1]
        show bnd (fzMask ms rs) _ ρ1 = _
        rw [bnd_ap, e2]
        rfl
  | [], _ :: _, _, _, _, _, _, h => by cases h
  | true :: _, [], _, _, _, _, _, h => by cases h
  | false :: _, [], _, _, _, _, _, h => by cases h
theorem fzlG_ok : ∀ {rs : List RV} {qs : List RV} {Γ Δ : Gm} {ρ : Rho}, Mt Γ ρ → fzlG Γ rs = some (qs, Δ) → ∃ ρ', fzSlot rs ρ = some (.val qs, ρ') ∧ Mt Δ ρ'
  | [], qs, Γ, Δ, ρ, m, h => by cases h; exact ⟨ρ, rfl, m⟩
  | .slot i :: rs, qs, Γ, Δ, ρ, m, h => by
    simp only [fzlG] at h
    split at h
    · cases h
    · rename_i d Θ e
      obtain ⟨ρ1, e1, m1⟩ := fzG_ok m e
      split at h
      · cases h
      · rename_i es Ξ e2
        cases h
        obtain ⟨ρ2, e2, m2⟩ := fzlG_ok m1 e2
        refine ⟨ρ2, ?_, m2⟩
        rw [fzSlot_slot, bnd_ap, e1]
        show bnd (fzSlot rs) _ ρ1 = _
        rw [bnd_ap, e2]
        rfl
  | .sh d :: rs, qs, Γ, Δ, ρ, m, h => by
    simp only [fzlG] at h
    split at h
    · cases h
    · rename_i es Ξ e2
      cases h
      obtain ⟨ρ2, e2, m2⟩ := fzlG_ok m e2
      refine ⟨ρ2, ?_, m2⟩
      rw [fzSlot_sh, bnd_ap, e2]
      rfl
  | .new d :: rs, qs, Γ, Δ, ρ, m, h => by
    simp only [fzlG] at h
    split at h
    · cases h
    · rename_i es Ξ e2
      cases h
      obtain ⟨ρ2, e2, m2⟩ := fzlG_ok m e2
      refine ⟨ρ2, ?_, m2⟩
      rw [fzSlot_new, bnd_ap, e2]
      rfl
theorem okG_ok {i : Nat} (m : Mt Γ ρ) (h : okG Γ[i]? = true) : okC ρ[i]? = true := by
  cases g : Γ[i]? with
  | none => rw [g] at h; cases h
  | some s =>
    obtain ⟨x, e, q⟩ := m.get g
    rw [g] at h
    rw [e]
    have : okD x = true := by
      cases s with
      | c y => cases q; exact h
      | pl => exact plC_ok q
      | any => exact q
      | os d => rcases q with rfl | rfl <;> rfl
    cases x <;> first | rfl | cases this
theorem asgG_ok {i : Nat} {r : RV} (m : Mt Γ ρ) (h : asgG i r Γ = some Δ) : ∃ ρ', asg i r ρ = some (.val (), ρ') ∧ Mt Δ ρ' := by
  unfold asgG at h
  cases o : okG Γ[i]? with
  | false => rw [o] at h; cases h
  | true =>
    rw [o] at h
    rw [asg_ap, if_pos (okG_ok m o)]
    cases r with
    | sh d => cases h; exact ⟨_, rfl, m.set (s := S _) rfl⟩
    | new d => cases h; exact ⟨_, rfl, m.set (s := O _) rfl⟩
    | slot j =>
      dsimp only at h
      cases g : Γ[j]? with
      | none => rw [g] at h; cases h
      | some s =>
        obtain ⟨x, e, q⟩ := m.get g
        rw [g] at h
        rw [asg1_slot, e]
        cases s with
        | c y =>
          cases q
          cases x with
          | own d' => cases h; exact ⟨_, rfl, (m.set (s := S _) rfl).set (s := S _) rfl⟩
          | sh d' => cases h; exact ⟨_, rfl, m.set (s := S _) rfl⟩
          | un => cases h
          | arg d' => cases h
        | pl => cases h
        | any => cases h
        | os d => cases h
theorem lend1G_ok {r : RV} {c : Cell} (m : Mt Γ ρ) (h : lend1G Γ r = some c) : lend1 ρ r = some c := by
  cases r with
  | sh d => exact h
  | new d => exact h
  | slot i =>
    simp only [lend1G] at h
    cases g : Γ[i]? with
    | none => rw [g] at h; cases h
    | some s =>
      obtain ⟨x, e, q⟩ := m.get g
      rw [g] at h
      cases s with
      | c y =>
        cases q
        rw [lend1_slot, e]
        cases x <;> first | exact h | cases h
      | pl => cases h
      | any => cases h
      | os d => cases h
theorem lendG_ok (m : Mt Γ ρ) : ∀ {rs : List RV} {cs : List Cell}, lendG Γ rs = some cs → lendC ρ rs = some cs
  | [], cs, h => h
  | r :: rs, cs, h => by
    unfold lendG at h
    cases g : lend1G Γ r with
    | none => rw [g] at h; cases h
    | some d =>
      rw [g] at h
      cases g2 : lendG Γ rs with
      | none => rw [g2] at h; cases h
      | some es =>
        rw [g2] at h
        cases h
        rw [lendC_ap, lend1G_ok m g, lendG_ok m g2]
theorem back1G_ok {i : Nat} {d : D} (m : Mt Γ ρ) (h : back1G i d Γ ≠ []) : Mt (back1G i d Γ) (back1 i d ρ) := by
  unfold back1G at h ⊢
  rw [back1_ap]
  cases g : Γ[i]? with
  | none => rw [g] at h; exact (h rfl).elim
  | some s =>
    obtain ⟨x, e, q⟩ := m.get g
    rw [g] at h
    rw [e]
    cases s with
    | c y =>
      cases q
      cases x with
      | own d' => exact m.set (s := O _) rfl
      | arg d' => exact m.set (s := A _) rfl
      | sh d' => exact m
      | un => exact m
    | pl => exact (h rfl).elim
    | any => exact (h rfl).elim
    | os d => exact (h rfl).elim
theorem backG_nil : ∀ (rs : List RV) (cs : List Cell), backG rs cs [] = []
  | [], [] => rfl
  | [], _ :: _ => rfl
  | .slot i :: rs, .arg d :: cs => backG_nil rs cs
  | .slot i :: rs, .sh d :: cs => backG_nil rs cs
  | .slot i :: rs, .own d :: cs => rfl
  | .slot i :: rs, .un :: cs => rfl
  | .slot i :: rs, [] => rfl
  | .sh _ :: rs, [] => rfl
  | .new _ :: rs, [] => rfl
  | .sh _ :: rs, c :: cs => by cases c <;> exact backG_nil rs cs
  | .new _ :: rs, c :: cs => by cases c <;> exact backG_nil rs cs
theorem backG_ok : ∀ {rs : List RV} {cs : List Cell} {Γ : Gm} {ρ : Rho}, Mt Γ ρ → backG rs cs Γ ≠ [] → Mt (backG rs cs Γ) (back rs cs ρ)
  | [], [], Γ, ρ, m, _ => m
  | [], _ :: _, _, _, _, h => (h rfl).elim
  | .slot i :: rs, .arg d :: cs, Γ, ρ, m, h => by
    have n : back1G i d Γ ≠ [] := fun e => h (by show backG rs cs (back1G i d Γ) = []; rw [e]; exact backG_nil rs cs)
    exact backG_ok (rs := rs) (cs := cs) (Γ := back1G i d Γ) (ρ := back1 i d ρ) (back1G_ok m n) h
  | .slot i :: rs, .sh d :: cs, Γ, ρ, m, h => backG_ok (rs := rs) (cs := cs) m h
  | .slot i :: rs, .own d :: cs, Γ, ρ, m, h => (h rfl).elim
  | .slot i :: rs, .un :: cs, Γ, ρ, m, h => (h rfl).elim
  | .slot i :: rs, [], Γ, ρ, m, h => (h rfl).elim
  | .sh _ :: rs, [], Γ, ρ, m, h => (h rfl).elim
  | .new _ :: rs, [], Γ, ρ, m, h => (h rfl).elim
  | .sh _ :: rs, c :: cs, Γ, ρ, m, h => by
    rw [back_sh]
    cases c <;> exact backG_ok (rs := rs) (cs := cs) m h
  | .new _ :: rs, c :: cs, Γ, ρ, m, h => by
    rw [back_new]
    cases c <;> exact backG_ok (rs := rs) (cs := cs) m h
end
/-! ### what changes nothing -/
def PM {β : Type} (Γ : Gm) (m : M β) (v : β) : Prop := ∀ ρ, Mt Γ ρ → m ρ = some (.val v, ρ)
section
variable {α β γ δ : Type} {X : Option Gm} {Γ Δ : Gm} {t : Rs α} {fa fb fc fd f : M RV} {ra rb rc r o : RV} {d e : D} {rs : List RV} {ds : List D} {fs : List (M RV)}
theorem kP {m : M β} {v : β} {f : β → M γ} {Q : Po α γ} (p : PM Γ m v) (hk : Tr X Γ (f v) t Q) : Tr X Γ (bnd m f) t Q := kDo (fun ρ hρ => ⟨ρ, p ρ hρ, hρ⟩) hk
theorem kPO {m : M β} {f : β → M γ} {o : Option δ} {k : δ → Rs α} {v : δ → β} {Q : Po α γ} (p : ∀ z, o = some z → PM Γ m (v z)) (hk : ∀ z, Tr X Γ (f (v z)) (k z) Q) : Tr X Γ (bnd m f) (ob o k) Q :=
  kObind (G := fun _ => Γ) (fun z hz ρ hρ => ⟨ρ, p z hz ρ hρ, hρ⟩) hk
theorem pmR (v : β) : PM Γ (Fd.ret v) v := fun ρ _ => rfl
theorem pmC (d : D) : PM Γ (eC d) (.sh d) := fun ρ _ => rfl
theorem pmV {i : Nat} (h : evG Γ i = some r) : PM Γ (eV i) r := fun ρ m => evG_ok m h
theorem pmBnd {m : M β} {v : β} {f : β → M γ} {w : γ} (p : PM Γ m v) (q : PM Γ (f v) w) : PM Γ (bnd m f) w := fun ρ hρ => by rw [bnd_ap, p ρ hρ]; exact q ρ hρ
theorem pmAp2 {op : D → D → Option RV} (ha : rdG Γ ra = some d) (hb : rdG Γ rb = some e) (h : op d e = some r) (hn : nsl r = true) : PM Γ (ap2 op ra rb) r := fun ρ m => by
  rw [ap2_ap, rdG_ok m ha, rdG_ok m hb]
  show fin (op d e) ρ = _
  rw [h, fin_nsl hn]
theorem pmAp1 {op : D → Option RV} (ha : rdG Γ ra = some d) (h : op d = some r) (hn : nsl r = true) : PM Γ (ap1 op ra) r := fun ρ m => by
  rw [ap1_ap, rdG_ok m ha]
  show fin (op d) ρ = _
  rw [h, fin_nsl hn]
theorem pmApN {op : List D → Option RV} (ha : rdsG Γ rs = some ds) (h : op ds = some r) (hn : nsl r = true) : PM Γ (apN op rs) r := fun ρ m => by
  rw [apN_ap, rdsG_ok m ha]
  show fin (op ds) ρ = _
  rw [h, fin_nsl hn]
theorem pmAp3 {op : D → Option Int → Option Int → Option RV} {lo hi : Option Int} (ha : rdG Γ ra = some d) (h : op d lo hi = some r) (hn : nsl r = true) : PM Γ (ap3 op ra lo hi) r := fun ρ m => by
  rw [ap3_ap, rdG_ok m ha]
  show fin (op d lo hi) ρ = _
  rw [h, fin_nsl hn]
theorem pmB {op : D → D → Option RV} (pa : PM Γ fa ra) (pb : PM Γ fb rb) (ha : rdG Γ ra = some d) (hb : rdG Γ rb = some e) (h : op d e = some r) (hn : nsl r = true) : PM Γ (eB op fa fb) r := pmBnd pa (pmBnd pb (pmAp2 ha hb h hn))
theorem pmU {op : D → Option RV} (pa : PM Γ fa ra) (ha : rdG Γ ra = some d) (h : op d = some r) (hn : nsl r = true) : PM Γ (eU op fa) r := pmBnd pa (pmAp1 ha h hn)
theorem pmS0 : PM Γ (eS []) [] := fun _ _ => rfl
theorem pmS (p : PM Γ f r) (q : PM Γ (eS fs) rs) : PM Γ (eS (f :: fs)) (r :: rs) := pmBnd p (pmBnd q (pmR _))
theorem pmN {op : List D → Option RV} (p : PM Γ (eS fs) rs) (hd : rdsG Γ rs = some ds) (h : op ds = some r) (hn : nsl r = true) : PM Γ (eN op fs) r := pmBnd p (pmApN hd h hn)
def tstR (r : RV) : M Bool := fun ρ => match rd r ρ with
  | some (.bool b) => some (.val b, ρ)
  | _ => none
theorem tst_eq (f : M RV) : tst f = bnd f tstR := rfl
theorem pmTR {b : Bool} (h : rdG Γ r = some (.bool b)) : PM Γ (tstR r) b := fun ρ m => by
  unfold tstR
  rw [rdG_ok m h]
theorem pmT {b : Bool} (p : PM Γ f r) (h : rdG Γ r = some (.bool b)) : PM Γ (tst f) b := pmBnd (f := tstR) p (pmTR h)
theorem pmAnd {s t : M Bool} {x y : Bool} (p : PM Γ s x) (q : PM Γ t y) : PM Γ (tAnd s t) (x && y) := fun ρ m => by
  rw [tAnd_ap, p ρ m]
  cases x
  · rfl
  · exact q ρ m
theorem pmOr {s t : M Bool} {x y : Bool} (p : PM Γ s x) (q : PM Γ t y) : PM Γ (tOr s t) (x || y) := fun ρ m => by
  rw [tOr_ap, p ρ m]
  cases x
  · exact q ρ m
  · rfl
theorem pmNot {s : M Bool} {x : Bool} (p : PM Γ s x) : PM Γ (tNot s) (!x) := fun ρ m => by rw [tNot_ap, p ρ m]
theorem pmEAnd {x y : Bool} (p : PM Γ (tst fa) x) (q : PM Γ fb (.sh (.bool y))) : PM Γ (eAnd fa fb) (.sh (.bool (x && y))) := fun ρ m => by
  rw [eAnd_ap, p ρ m]
  cases x
  · rfl
  · exact q ρ m
theorem pmEOr {x y : Bool} (p : PM Γ (tst fa) x) (q : PM Γ fb (.sh (.bool y))) : PM Γ (eOr fa fb) (.sh (.bool (x || y))) := fun ρ m => by
  rw [eOr_ap, p ρ m]
  cases x
  · exact q ρ m
  · rfl
theorem pmENot {x : Bool} (p : PM Γ (tst fa) x) : PM Γ (eNot fa) (.sh (.bool (!x))) := fun ρ m => by rw [eNot_ap, p ρ m]
theorem pmIf {s : M Bool} {c : Bool} (R : δ → RV) {x y : δ} (p : PM Γ s c) (pa : PM Γ fa (R x)) (pb : PM Γ fb (R y)) : PM Γ (eIf s fa fb) (R (if c = true then x else y)) := fun ρ m => by
  rw [eIf_ap, p ρ m]
  cases c
  · exact pb ρ m
  · exact pa ρ m
theorem pmCh {op op' : D → D → Option RV} {d1 d2 d3 : D} {x y : Bool} (pa : PM Γ fa ra) (pb : PM Γ fb rb) (pc : PM Γ fc rc) (ha : rdG Γ ra = some d1) (hb : rdG Γ rb = some d2) (hc : rdG Γ rc = some d3) (h : op d1 d2 = some (.sh (.bool x))) (h' : op' d2 d3 = some (.sh (.bool y))) : PM Γ (eCh op op' fa fb fc) (.sh (.bool (x && y))) := fun ρ m => by
  have a := pa ρ m
  have b := pb ρ m
  have c := pc ρ m
  have u := pmAp2 ha hb h rfl ρ m
  have v := pmAp2 hb hc h' rfl ρ m
  simp only [eCh_ap, bnd_ap, a, b, u]
  cases x
  · rfl
  · simp only [bnd_ap, c, v]
    rfl
/-- the data of results that are no slots -/
def dts : List RV → Option (List D)
  | [] => some []
  | .sh d :: rs => match dts rs with
    | none => none
    | some ds => some (d :: ds)
  | .new d :: rs => match dts rs with
    | none => none
    | some ds => some (d :: ds)
  | .slot _ :: _ => none
theorem fzs_dts {ρ : Rho} : ∀ {rs : List RV} {ds : List D}, dts rs = some ds → fzs rs ρ = some (.val ds, ρ)
  | [], ds, h => by cases h; rfl
  | .sh d :: rs, ds, h => by
    simp only [dts] at h
    split at h
    · cases h
    · rename_i es e
      cases h
      rw [fzs_cons, bnd_ap, fz_sh]
      show bnd (fzs rs) _ ρ = _
      rw [bnd_ap, fzs_dts e]
      rfl
  | .new d :: rs, ds, h => by
    simp only [dts] at h
    split at h
    · cases h
    · rename_i es e
      cases h
      rw [fzs_cons, bnd_ap, fz_new]
      show bnd (fzs rs) _ ρ = _
      rw [bnd_ap, fzs_dts e]
      rfl
theorem pmFzs (h : dts rs = some ds) : PM Γ (fzs rs) ds := fun _ _ => fzs_dts h
theorem pmCh3 {op op' op2 : D → D → Option RV} {d1 d2 d3 d4 : D} {rd' : RV} {x y z : Bool} (pa : PM Γ fa ra) (pb : PM Γ fb rb) (pc : PM Γ fc rc) (pd : PM Γ fd rd') (ha : rdG Γ ra = some d1) (hb : rdG Γ rb = some d2) (hc : rdG Γ rc = some d3) (hd : rdG Γ rd' = some d4) (h : op d1 d2 = some (.sh (.bool x))) (h' : op' d2 d3 = some (.sh (.bool y))) (h2 : op2 d3 d4 = some (.sh (.bool z))) : PM Γ (eCh3 op op' op2 fa fb fc fd) (.sh (.bool (x && (y && z)))) := fun ρ m => by
  have a := pa ρ m
  have b := pb ρ m
  have c := pc ρ m
  have d := pd ρ m
  have u := pmAp2 ha hb h rfl ρ m
  have v := pmAp2 hb hc h' rfl ρ m
  have w := pmAp2 hc hd h2 rfl ρ m
  simp only [eCh3_ap, lnk_ap, bnd_ap, a, b, u]
  cases x
  · rfl
  · simp only [bnd_ap, c, lnk_ap, v]
    cases y
    · rfl
    · simp only [bnd_ap, d, w]
      rfl
theorem pmTup (p : PM Γ (eS fs) rs) (h : dts rs = some ds) : PM Γ (eTup fs) (.sh (.tuple ds)) := pmBnd p (pmBnd (pmFzs h) (pmR _))
theorem pmLst (p : PM Γ (eS fs) rs) (h : dts rs = some ds) : PM Γ (eLst fs) (.new (.list ds)) := pmBnd p (pmBnd (pmFzs h) (pmR _))
theorem pmDct0 : PM Γ eDct0 (.new (.dict [])) := pmR _
theorem pmDct {ps : List (M RV × M RV)} {kvs : List (D × D)} (p : PM Γ (eS (flat2 ps)) rs) (h : dts rs = some ds) (hd : toD ds = some (.new (.dict kvs))) : PM Γ (eDct ps) (.new (.dict kvs)) := pmBnd p (pmBnd (pmFzs h) fun ρ _ => by rw [hd]; rfl)
def partR (r : RV) : M (Option Int) := fun ρ => match rd r ρ with
  | some (.int i) => some (.val (some i), ρ)
  | _ => none
theorem ePart_eq (f : M RV) : ePart (some f) = bnd f partR := rfl
theorem pmPR {i : Int} (h : rdG Γ r = some (.int i)) : PM Γ (partR r) (some i) := fun ρ m => by
  unfold partR
  rw [rdG_ok m h]
theorem pmPart0 : PM Γ (ePart none) none := fun _ _ => rfl
theorem pmPart {i : Int} (p : PM Γ f r) (h : rdG Γ r = some (.int i)) : PM Γ (ePart (some f)) (some i) := pmBnd (f := partR) p (pmPR h)
theorem pmSl {op : D → Option Int → Option Int → Option RV} {lo hi : Option (M RV)} {i j : Option Int} (pa : PM Γ fa ra) (pl : PM Γ (ePart lo) i) (ph : PM Γ (ePart hi) j) (ha : rdG Γ ra = some d) (h : op d i j = some r) (hn : nsl r = true) : PM Γ (eSl op fa lo hi) r := pmBnd pa (pmBnd pl (pmBnd ph (pmAp3 ha h hn)))
theorem pmChk {k : Nat} (h : rdG Γ o = some d) (hk : kind d = k) : PM Γ (chk k o) () := fun ρ m => by
  rw [chk_ap, rdG_ok m h]
  exact if_pos hk
theorem pmMth {k : Nat} {op : List D → Option RV} {fo : M RV} (po : PM Γ fo o) (ho : rdG Γ o = some d) (hk : kind d = k) (p : PM Γ (eS fs) rs) (hd : rdsG Γ (o :: rs) = some ds) (h : op ds = some r) (hn : nsl r = true) : PM Γ (eMth k op fo fs) r := pmBnd po (pmBnd (pmChk ho hk) (pmBnd p (pmApN hd h hn)))
theorem pmRep (pa : PM Γ fa (.new d)) (pb : PM Γ fb rb) (hb : rdG Γ rb = some e) (h : opRep d e = some r) (hn : nsl r = true) : PM Γ (eRep fa fb) r := pmBnd pa (pmBnd pb (pmBnd (v := ()) (fun _ _ => rfl) (pmAp2 rfl hb h hn)))
/-! partial ones, their parts being plain -/
theorem qB {op : D → D → Option RV} {z : Option δ} {R : δ → RV} (pa : PM Γ fa ra) (pb : PM Γ fb rb) (ha : rdG Γ ra = some d) (hb : rdG Γ rb = some e) (h : ∀ a, z = some a → op d e = some (R a)) (hn : ∀ a, nsl (R a) = true) : ∀ a, z = some a → PM Γ (eB op fa fb) (R a) := fun a e' => pmB pa pb ha hb (h a e') (hn a)
theorem qU {op : D → Option RV} {z : Option δ} {R : δ → RV} (pa : PM Γ fa ra) (ha : rdG Γ ra = some d) (h : ∀ a, z = some a → op d = some (R a)) (hn : ∀ a, nsl (R a) = true) : ∀ a, z = some a → PM Γ (eU op fa) (R a) := fun a e' => pmU pa ha (h a e') (hn a)
theorem qN {op : List D → Option RV} {z : Option δ} {R : δ → RV} (p : PM Γ (eS fs) rs) (hd : rdsG Γ rs = some ds) (h : ∀ a, z = some a → op ds = some (R a)) (hn : ∀ a, nsl (R a) = true) : ∀ a, z = some a → PM Γ (eN op fs) (R a) := fun a e' => pmN p hd (h a e') (hn a)
theorem qSl {op : D → Option Int → Option Int → Option RV} {lo hi : Option (M RV)} {i j : Option Int} {z : Option δ} {R : δ → RV} (pa : PM Γ fa ra) (pl : PM Γ (ePart lo) i) (ph : PM Γ (ePart hi) j) (ha : rdG Γ ra = some d) (h : ∀ a, z = some a → op d i j = some (R a)) (hn : ∀ a, nsl (R a) = true) : ∀ a, z = some a → PM Γ (eSl op fa lo hi) (R a) := fun a e' => pmSl pa pl ph ha (h a e') (hn a)
theorem qMth {k : Nat} {op : List D → Option RV} {fo : M RV} {z : Option δ} {R : δ → RV} (po : PM Γ fo o) (ho : rdG Γ o = some d) (hk : kind d = k) (p : PM Γ (eS fs) rs) (hd : rdsG Γ (o :: rs) = some ds) (h : ∀ a, z = some a → op ds = some (R a)) (hn : ∀ a, nsl (R a) = true) : ∀ a, z = some a → PM Γ (eMth k op fo fs) (R a) := fun a e' => pmMth po ho hk p hd (h a e') (hn a)
theorem qRep {z : Option δ} {R : δ → RV} (pa : PM Γ fa (.new d)) (pb : PM Γ fb rb) (hb : rdG Γ rb = some e) (h : ∀ a, z = some a → opRep d e = some (R a)) (hn : ∀ a, nsl (R a) = true) : ∀ a, z = some a → PM Γ (eRep fa fb) (R a) := fun a e' => pmRep pa pb hb (h a e') (hn a)
/-! ### steps of parts that are not plain -/
theorem kT {k : Bool → M γ} {Q : Po α γ} (h : Tr X Γ (bnd f fun r => bnd (tstR r) k) t Q) : Tr X Γ (bnd (tst f) k) t Q := kA (a := f) (k := tstR) h
theorem kFz {k : D → M γ} {Q : Po α γ} (h : fzG Γ r = some (d, Δ)) (hk : Tr X Δ (k d) t Q) : Tr X Γ (bnd (fz r) k) t Q := kDo (fun _ m => fzG_ok m h) hk
theorem kFzs {k : List D → M γ} {Q : Po α γ} (h : fzsG Γ rs = some (ds, Δ)) (hk : Tr X Δ (k ds) t Q) : Tr X Γ (bnd (fzs rs) k) t Q := kDo (fun _ m => fzsG_ok m h) hk
theorem kFzm {ms : List Bool} {qs : List RV} {k : List RV → M γ} {Q : Po α γ} (h : fzmG Γ ms rs = some (qs, Δ)) (hk : Tr X Δ (k qs) t Q) : Tr X Γ (bnd (fzMask ms rs) k) t Q := kDo (fun _ m => fzmG_ok m h) hk
theorem kFzl {qs : List RV} {k : List RV → M γ} {Q : Po α γ} (h : fzlG Γ rs = some (qs, Δ)) (hk : Tr X Δ (k qs) t Q) : Tr X Γ (bnd (fzSlot rs) k) t Q := kDo (fun _ m => fzlG_ok m h) hk
theorem kAsg {i : Nat} {k : Unit → M γ} {Q : Po α γ} (h : asgG i r Γ = some Δ) (hk : Tr X Δ (k ()) t Q) : Tr X Γ (bnd (asg i r) k) t Q := kDo (fun _ m => asgG_ok m h) hk
/-- stored under a name of the typed program -/
theorem kAsgL {i : Nat} {k : Unit → M γ} {Q : Po α γ} {a : δ} {R : δ → RV} {G : δ → Gm} {j : δ → Rs α} (h : ∀ a, asgG i (R a) Γ = some (G a)) (hk : ∀ a, Tr X (G a) (k ()) (j a) Q) : Tr X Γ (bnd (asg i (R a)) k) ((Rs.ok a).bind j) Q := kAsg (h a) (hk a)
theorem kSh {k : Unit → M γ} {Q : Po α γ} (hk : Tr X Γ (k ()) t Q) : Tr X Γ (bnd (shOnly (.sh d)) k) t Q := kP (v := ()) (fun _ _ => rfl) hk
/-- a choice -/
theorem kIte {c : Bool} {a b : M β} {k : β → M γ} {Q : Po α γ} {ta tb : Rs δ} {j : δ → Rs α} {v : δ → β} {G : δ → Gm} (ha : Tr X Γ a ta (J v G)) (hb : Tr X Γ b tb (J v G)) (hk : ∀ z, Tr X (G z) (k (v z)) (j z) Q) : Tr X Γ (bnd (if c = true then a else b) k) ((if c = true then ta else tb).bind j) Q := by
  cases c
  · exact kJoin hb hk
  · exact kJoin ha hk
/-- a choice whose ways go on by themselves -/
theorem kIteD {c : Bool} {a b : M β} {k : β → M γ} {Q : Po α γ} {ta tb : Rs α} (ha : Tr X Γ (bnd a k) ta Q) (hb : Tr X Γ (bnd b k) tb Q) : Tr X Γ (bnd (if c = true then a else b) k) (if c = true then ta else tb) Q := by
  cases c
  · exact hb
  · exact ha
/-! ### statements -/
def thn (g : M Fl) (x : Fl) : M Fl := match x with
  | .nx => g
  | r => Fd.ret r
theorem kSeq {s g : M Fl} {Q : Po α Fl} (h : Tr X Γ (bnd s (thn g)) t Q) : Tr X Γ (sSeq s g) t Q := h
theorem kLast {s : M Fl} {Q : Po α Fl} (h : Tr X Γ (bnd s (thn sNop)) t Q) : Tr X Γ s t Q := by
  have e : bnd s (thn sNop) = s := by
    funext ρ
    rw [bnd_ap]
    cases s ρ with
    | none => rfl
    | some z => obtain ⟨o, r⟩ := z; cases o with
      | exc x => rfl
      | val x => cases x <;> rfl
  exact .eq e.symm h
theorem kSet {g : RV → M Unit} {k : Fl → M γ} {Q : Po α γ} (h : Tr X Γ (bnd f fun r => bnd (g r) fun _ => k .nx) t Q) : Tr X Γ (bnd (sSet g f) k) t Q := by
  refine .eq (m' := bnd f fun r => bnd (g r) fun _ => k .nx) ?_ h
  unfold sSet
  rw [bnd_assoc]
  congr 1
  funext r
  rw [bnd_assoc]
  rfl
theorem kEx {k : Fl → M γ} {Q : Po α γ} (h : Tr X Γ (bnd f fun _ => k .nx) t Q) : Tr X Γ (bnd (sEx f) k) t Q := by
  refine .eq (m' := bnd f fun _ => k .nx) ?_ h
  unfold sEx
  rw [bnd_assoc]
  rfl
theorem kIf {s : M Bool} {a b : M Fl} {k : Fl → M γ} {Q : Po α γ} (h : Tr X Γ (bnd s fun x => bnd (if x = true then a else b) k) t Q) : Tr X Γ (bnd (sIf s a b) k) t Q := kA (a := s) (k := fun x => if x = true then a else b) h
theorem kEIf {s : M Bool} {k : RV → M γ} {Q : Po α γ} (h : Tr X Γ (bnd s fun x => bnd (if x = true then fa else fb) k) t Q) : Tr X Γ (bnd (eIf s fa fb) k) t Q := kA (a := s) (k := fun x => if x = true then fa else fb) h
theorem kTAnd {a b : M Bool} {k : Bool → M γ} {Q : Po α γ} (h : Tr X Γ (bnd a fun x => bnd (if x = true then b else Fd.ret false) k) t Q) : Tr X Γ (bnd (tAnd a b) k) t Q := kA (a := a) (k := fun x => if x = true then b else Fd.ret false) h
theorem kTOr {a b : M Bool} {k : Bool → M γ} {Q : Po α γ} (h : Tr X Γ (bnd a fun x => bnd (if x = true then Fd.ret true else b) k) t Q) : Tr X Γ (bnd (tOr a b) k) t Q := kA (a := a) (k := fun x => if x = true then Fd.ret true else b) h
theorem kTNot {a : M Bool} {k : Bool → M γ} {Q : Po α γ} (h : Tr X Γ (bnd a fun x => k (!x)) t Q) : Tr X Γ (bnd (tNot a) k) t Q := kA (a := a) (k := fun x => Fd.ret (!x)) h
theorem kEAnd {k : RV → M γ} {Q : Po α γ} (h : Tr X Γ (bnd (tst fa) fun x => bnd (if x = true then fb else Fd.ret (.sh (.bool false))) k) t Q) : Tr X Γ (bnd (eAnd fa fb) k) t Q := kA (a := tst fa) (k := fun x => if x = true then fb else Fd.ret (.sh (.bool false))) h
theorem kEOr {k : RV → M γ} {Q : Po α γ} (h : Tr X Γ (bnd (tst fa) fun x => bnd (if x = true then Fd.ret (.sh (.bool true)) else fb) k) t Q) : Tr X Γ (bnd (eOr fa fb) k) t Q := kA (a := tst fa) (k := fun x => if x = true then Fd.ret (.sh (.bool true)) else fb) h
theorem kENot {k : RV → M γ} {Q : Po α γ} (h : Tr X Γ (bnd (tst fa) fun x => k (.sh (.bool (!x)))) t Q) : Tr X Γ (bnd (eNot fa) k) t Q := kA (a := tst fa) (k := fun x => Fd.ret (RV.sh (.bool (!x)))) h
theorem kRet {k : Fl → M γ} {Q : Po α γ} (h : Tr X Γ (bnd f fun r => k (.rt r)) t Q) : Tr X Γ (bnd (sRet f) k) t Q := kA (a := f) (k := fun r => Fd.ret (Fl.rt r)) h
theorem kB {op : D → D → Option RV} {k : RV → M γ} {Q : Po α γ} (h : Tr X Γ (bnd fa fun a => bnd fb fun b => bnd (ap2 op a b) k) t Q) : Tr X Γ (bnd (eB op fa fb) k) t Q := by
  refine .eq (m' := bnd fa fun a => bnd fb fun b => bnd (ap2 op a b) k) ?_ h
  unfold eB
  rw [bnd_assoc]
  congr 1
  funext r
  rw [bnd_assoc]
theorem kU {op : D → Option RV} {k : RV → M γ} {Q : Po α γ} (h : Tr X Γ (bnd fa fun a => bnd (ap1 op a) k) t Q) : Tr X Γ (bnd (eU op fa) k) t Q := kA (a := fa) (k := fun a => ap1 op a) h
theorem kN {op : List D → Option RV} {k : RV → M γ} {Q : Po α γ} (h : Tr X Γ (bnd (eS fs) fun a => bnd (apN op a) k) t Q) : Tr X Γ (bnd (eN op fs) k) t Q := kA (a := eS fs) (k := fun a => apN op a) h
theorem kS0 {k : List RV → M γ} {Q : Po α γ} (h : Tr X Γ (k []) t Q) : Tr X Γ (bnd (eS []) k) t Q := h
theorem kS {k : List RV → M γ} {Q : Po α γ} (h : Tr X Γ (bnd f fun r => bnd (eS fs) fun rs => k (r :: rs)) t Q) : Tr X Γ (bnd (eS (f :: fs)) k) t Q := by
  refine .eq (m' := bnd f fun r => bnd (eS fs) fun rs => k (r :: rs)) ?_ h
  show bnd (bnd f fun r => bnd (eS fs) fun rs => Fd.ret (r :: rs)) k = _
  rw [bnd_assoc]
  congr 1
  funext r
  rw [bnd_assoc]
  rfl
theorem kTup {k : RV → M γ} {Q : Po α γ} (h : Tr X Γ (bnd (eS fs) fun rs => bnd (fzs rs) fun ds => k (.sh (.tuple ds))) t Q) : Tr X Γ (bnd (eTup fs) k) t Q := by
  refine .eq (m' := bnd (eS fs) fun rs => bnd (fzs rs) fun ds => k (.sh (.tuple ds))) ?_ h
  unfold eTup
  rw [bnd_assoc]
  congr 1
  funext r
  rw [bnd_assoc]
  rfl
theorem kLst {k : RV → M γ} {Q : Po α γ} (h : Tr X Γ (bnd (eS fs) fun rs => bnd (fzs rs) fun ds => k (.new (.list ds))) t Q) : Tr X Γ (bnd (eLst fs) k) t Q := by
  refine .eq (m' := bnd (eS fs) fun rs => bnd (fzs rs) fun ds => k (.new (.list ds))) ?_ h
  unfold eLst
  rw [bnd_assoc]
  congr 1
  funext r
  rw [bnd_assoc]
  rfl
theorem kDct {ps : List (M RV × M RV)} {k : RV → M γ} {Q : Po α γ} (h : Tr X Γ (bnd (eS (flat2 ps)) fun rs => bnd (fzs rs) fun ds => bnd (fin (toD ds)) k) t Q) : Tr X Γ (bnd (eDct ps) k) t Q := by
  refine .eq (m' := bnd (eS (flat2 ps)) fun rs => bnd (fzs rs) fun ds => bnd (fin (toD ds)) k) ?_ h
  unfold eDct
  rw [bnd_assoc]
  congr 1
  funext r
  rw [bnd_assoc]
theorem kFin {k : RV → M γ} {Q : Po α γ} {x : Option RV} (e : x = some r) (hn : nsl r = true) (h : Tr X Γ (k r) t Q) : Tr X Γ (bnd (fin x) k) t Q := kP (fun ρ _ => by rw [e, fin_nsl hn]) h
theorem kMth {n : Nat} {op : List D → Option RV} {fo : M RV} {k : RV → M γ} {Q : Po α γ} (h : Tr X Γ (bnd fo fun o => bnd (chk n o) fun _ => bnd (eS fs) fun rs => bnd (apN op (o :: rs)) k) t Q) : Tr X Γ (bnd (eMth n op fo fs) k) t Q := by
  refine .eq (m' := bnd fo fun o => bnd (chk n o) fun _ => bnd (eS fs) fun rs => bnd (apN op (o :: rs)) k) ?_ h
  unfold eMth
  rw [bnd_assoc]
  congr 1
  funext r
  rw [bnd_assoc]
  congr 1
  funext r
  rw [bnd_assoc]
/-! changes of a slot -/
theorem kChg {n i : Nat} {ch : List D → D → Option (D × D)} {fo : M RV} {k : RV → M γ} {Q : Po α γ} (po : PM Γ fo (.slot i)) (hc : rdG Γ (.slot i) = some d) (hk : kind d = n) (ho : (∃ e, Γ[i]? = some (O e)) ∨ ∃ e, Γ[i]? = some (A e))
    (h : Tr X Γ (bnd (eS fs) fun rs => bnd (fzs rs) fun ds => bnd (chg (ch ds) (.slot i)) k) t Q) : Tr X Γ (bnd (eChg n ch fo fs) k) t Q := by
  have c1 : PM Γ (chkO n (.slot i)) () := fun ρ m => by
    rw [chkO_ap]
    rcases ho with ⟨e, g⟩ | ⟨e, g⟩
    · obtain ⟨x, ex, q⟩ := m.get g
      cases q
      simp only [rdG, g] at hc
      cases hc
      rw [ex]
      exact if_pos hk
    · obtain ⟨x, ex, q⟩ := m.get g
      cases q
      simp only [rdG, g] at hc
      cases hc
      rw [ex]
      exact if_pos hk
  have e1 : bnd (eChg n ch fo fs) k = bnd fo fun o => bnd (chkO n o) fun _ => bnd (eS fs) fun rs => bnd (fzs rs) fun ds => bnd (chg (ch ds) o) k := by
    unfold eChg
    rw [bnd_assoc]
    congr 1
    funext r
    rw [bnd_assoc]
    congr 1
    funext r
    rw [bnd_assoc]
    congr 1
    funext r
    rw [bnd_assoc]
  exact .eq e1 (kP po (kP c1 h))
theorem kChO {i : Nat} {ch : D → Option (D × D)} {k : RV → M γ} {Q : Po α γ} {z : Option δ} {D' V : δ → D} {j : δ → Rs α} (g : Γ[i]? = some (O d)) (h : ∀ a, z = some a → ch d = some (D' a, V a)) (hk : ∀ a, Tr X (Γ.set i (O (D' a))) (k (.sh (V a))) (j a) Q) : Tr X Γ (bnd (chg ch (.slot i)) k) (ob z j) Q :=
  kObind (G := fun a => Γ.set i (O (D' a))) (v := fun a => .sh (V a)) (fun a ha ρ m => by
    obtain ⟨x, ex, q⟩ := m.get g
    cases q
    refine ⟨ρ.set i (.own (D' a)), ?_, m.set (s := O _) rfl⟩
    rw [chg_ap, ex]
    dsimp only
    rw [h a ha]) hk
theorem kChA {i : Nat} {ch : D → Option (D × D)} {k : RV → M γ} {Q : Po α γ} {z : Option δ} {D' V : δ → D} {j : δ → Rs α} (g : Γ[i]? = some (A d)) (h : ∀ a, z = some a → ch d = some (D' a, V a)) (hk : ∀ a, Tr X (Γ.set i (A (D' a))) (k (.sh (V a))) (j a) Q) : Tr X Γ (bnd (chg ch (.slot i)) k) (ob z j) Q :=
  kObind (G := fun a => Γ.set i (A (D' a))) (v := fun a => .sh (V a)) (fun a ha ρ m => by
    obtain ⟨x, ex, q⟩ := m.get g
    cases q
    refine ⟨ρ.set i (.arg (D' a)), ?_, m.set (s := A _) rfl⟩
    rw [chg_ap, ex]
    dsimp only
    rw [h a ha]) hk
theorem kPutO {i : Nat} {ch : D → D → D → Option D} {v e : D} {k : Unit → M γ} {Q : Po α γ} {z : Option δ} {D' : δ → D} {j : δ → Rs α} (g : Γ[i]? = some (O d)) (h : ∀ a, z = some a → ch e v d = some (D' a)) (hk : ∀ a, Tr X (Γ.set i (O (D' a))) (k ()) (j a) Q) : Tr X Γ (bnd (put2 ch (.slot i) [v, e]) k) (ob z j) Q :=
  kObind (G := fun a => Γ.set i (O (D' a))) (v := fun _ => ()) (fun a ha ρ m => by
    obtain ⟨x, ex, q⟩ := m.get g
    cases q
    refine ⟨ρ.set i (.own (D' a)), ?_, m.set (s := O _) rfl⟩
    rw [put2_ap, ex]
    dsimp only
    rw [h a ha]) hk
theorem kPutA {i : Nat} {ch : D → D → D → Option D} {v e : D} {k : Unit → M γ} {Q : Po α γ} {z : Option δ} {D' : δ → D} {j : δ → Rs α} (g : Γ[i]? = some (A d)) (h : ∀ a, z = some a → ch e v d = some (D' a)) (hk : ∀ a, Tr X (Γ.set i (A (D' a))) (k ()) (j a) Q) : Tr X Γ (bnd (put2 ch (.slot i) [v, e]) k) (ob z j) Q :=
  kObind (G := fun a => Γ.set i (A (D' a))) (v := fun _ => ()) (fun a ha ρ m => by
    obtain ⟨x, ex, q⟩ := m.get g
    cases q
    refine ⟨ρ.set i (.arg (D' a)), ?_, m.set (s := A _) rfl⟩
    rw [put2_ap, ex]
    dsimp only
    rw [h a ha]) hk
theorem kGPut {ch : D → D → D → Option D} {fo fi : M RV} {k : Unit → M γ} {Q : Po α γ} (h : Tr X Γ (bnd fo fun o => bnd fi fun ix => bnd (fzs [r, ix]) fun ds => bnd (put2 ch o ds) k) t Q) : Tr X Γ (bnd (gPut ch fo fi r) k) t Q := by
  refine .eq (m' := bnd fo fun o => bnd fi fun ix => bnd (fzs [r, ix]) fun ds => bnd (put2 ch o ds) k) ?_ h
  unfold gPut
  rw [bnd_assoc]
  congr 1
  funext r
  rw [bnd_assoc]
  congr 1
  funext r
  rw [bnd_assoc]
theorem kAug {i : Nat} {op : D → D → Option RV} {k : Fl → M γ} {Q : Po α γ} (hv : evG Γ i = some (.sh d)) (h : Tr X Γ (bnd f fun b => bnd (ap2 op (.sh d) b) fun r => bnd (asg i r) fun _ => k .nx) t Q) : Tr X Γ (bnd (sAug i op f) k) t Q := by
  have e : bnd (sAug i op f) k = bnd (eV i) fun a => bnd (shOnly a) fun _ => bnd f fun b => bnd (ap2 op a b) fun r => bnd (asg i r) fun _ => k .nx := by
    unfold sAug
    rw [bnd_assoc]
    congr 1
    funext r
    rw [bnd_assoc]
    congr 1
    funext r
    rw [bnd_assoc]
    congr 1
    funext r
    rw [bnd_assoc]
    congr 1
    funext r
    rw [bnd_assoc]
    rfl
  exact .eq e (kP (pmV hv) (kSh h))
theorem kUnp {gs : List (RV → M Unit)} {k : Fl → M γ} {Q : Po α γ} (h : Tr X Γ (bnd (eS fs) fun rs => bnd (fzSlot rs) fun qs => bnd (gSeq gs qs) fun _ => k .nx) t Q) : Tr X Γ (bnd (sUnp gs fs) k) t Q := by
  refine .eq (m' := bnd (eS fs) fun rs => bnd (fzSlot rs) fun qs => bnd (gSeq gs qs) fun _ => k .nx) ?_ h
  unfold sUnp
  rw [bnd_assoc]
  congr 1
  funext r
  rw [bnd_assoc]
  congr 1
  funext r
  rw [bnd_assoc]
  rfl
theorem kUnpR {gs : List (RV → M Unit)} {k : Fl → M γ} {Q : Po α γ} (h : Tr X Γ (bnd (eS fs) fun rs => bnd (fzSlot rs) fun qs => bnd (gSeq gs.reverse qs.reverse) fun _ => k .nx) t Q) : Tr X Γ (bnd (sUnpR gs fs) k) t Q := by
  refine .eq (m' := bnd (eS fs) fun rs => bnd (fzSlot rs) fun qs => bnd (gSeq gs.reverse qs.reverse) fun _ => k .nx) ?_ h
  unfold sUnpR
  rw [bnd_assoc]
  congr 1
  funext r
  rw [bnd_assoc]
  congr 1
  funext r
  rw [bnd_assoc]
  rfl
theorem kG0 {k : Unit → M γ} {Q : Po α γ} (h : Tr X Γ (k ()) t Q) : Tr X Γ (bnd (gSeq [] []) k) t Q := h
theorem kG {g : RV → M Unit} {gs : List (RV → M Unit)} {k : Unit → M γ} {Q : Po α γ} (h : Tr X Γ (bnd (g r) fun _ => bnd (gSeq gs rs) k) t Q) : Tr X Γ (bnd (gSeq (g :: gs) (r :: rs)) k) t Q := kA (a := g r) (k := fun _ => gSeq gs rs) h
theorem kGTup {gs : List (RV → M Unit)} {k : Unit → M γ} {Q : Po α γ} (hr : rdG Γ r = some (.tuple ds)) (hl : ds.length = gs.length) (h : Tr X Γ (bnd (gSeq gs (ds.map .sh)) k) t Q) : Tr X Γ (bnd (Fd.gTup gs r) k) t Q := .of fun ρ m => by
  have e : bnd (Fd.gTup gs r) k ρ = bnd (gSeq gs (ds.map .sh)) k ρ := by
    rw [bnd_ap, bnd_ap, gTup_ap, rdG_ok m hr]
    dsimp only
    rw [if_pos hl]
  rw [e]
  exact h ρ m
theorem kGLs {gs : List (RV → M Unit)} {k : Unit → M γ} {Q : Po α γ} (hr : fzG Γ r = some (.list ds, Δ)) (hl : ds.length = gs.length) (h : Tr X Δ (bnd (gSeq gs (ds.map .sh)) k) t Q) : Tr X Γ (bnd (Fd.gLs gs r) k) t Q := by
  refine kA (a := fz r) ?_
  refine kFz hr ?_
  refine .of fun ρ m => ?_
  have e : bnd (fun ρ => if ds.length = gs.length then gSeq gs (ds.map .sh) ρ else none) k ρ = bnd (gSeq gs (ds.map .sh)) k ρ := by
    rw [bnd_ap, bnd_ap, if_pos hl]
  exact e ▸ h ρ m
end
end Ty
/-! Ty, part 3: calls, loops, comprehensions. -/
namespace Ty
open PySem Fd
/-! ### calls -/
/-- what a def does: arguments, the typed program, the result and the arguments afterwards -/
def TFr {α : Type} (x : Bool) (sem : Fn) (as : List Cell) (t : Rs α) (g : α → RV × List Cell) : Prop := match t with
  | .bad => True
  | .exc e => x = true → sem as = some (.exc e, as)
  | .ok a => sem as = some (.val (g a).1, (g a).2)
structure TF {α : Type} (x : Bool) (sem : Fn) (as : List Cell) (t : Rs α) (g : α → RV × List Cell) : Prop where
  of ::
  run : TFr x sem as t g
section
variable {α β γ δ : Type} {X : Option Gm} {Γ Δ : Gm} {t : Rs α} {r o : RV} {d e : D} {rs qs : List RV} {ds : List D} {fs : List (M RV)}
theorem lend_nd {l : List Nat} (h : decide l.Nodup = true) : l.Nodup := of_decide_eq_true h
/-- a call; its errors are no matter here -/
theorem kCall {sem : Fn} {cs : List Cell} {k : RV → M γ} {Q : Po α γ} {z : Rs δ} {g : δ → RV × List Cell} {j : δ → Rs α} {G : δ → Gm} (F : TF false sem cs z g) (hx : X = none) (nd : (qs.filterMap slotIx).Nodup) (hl : lendG Γ qs = some cs) (hb : ∀ a, backG qs (g a).2 Γ = G a) (hn : ∀ a, G a ≠ []) (hk : ∀ a, Tr X (G a) (k (g a).1) (j a) Q) : Tr X Γ (bnd (callD sem qs) k) (z.bind j) Q := .of fun ρ m => by
  subst hx
  rw [bnd_ap, callD_ap, if_pos nd, lendG_ok m hl]
  cases z with
  | bad => trivial
  | exc x => trivial
  | ok a =>
    have F : sem cs = some (.val (g a).1, (g a).2) := F.run
    dsimp only
    rw [F]
    dsimp only
    have w := hb a
    have n := hn a
    rw [← w] at n
    have b := backG_ok m n
    rw [w] at b
    exact hk a _ b
/-- a call whose arguments are frozen; its errors go on -/
theorem kCallX {sem : Fn} {cs : List Cell} {k : RV → M γ} {Q : Po α γ} {z : Rs δ} {v : δ → RV} {j : δ → Rs α} (F : TF true sem cs z (fun a => (v a, cs))) (hw : ∀ Δ, X = some Δ → Wk Γ Δ) (nd : (qs.filterMap slotIx).Nodup) (hl : lendG Γ qs = some cs) (hb : backG qs cs Γ = Γ) (hn : Γ ≠ []) (hk : ∀ a, Tr X Γ (k (v a)) (j a) Q) : Tr X Γ (bnd (callD sem qs) k) (z.bind j) Q := .of fun ρ m => by
  rw [bnd_ap, callD_ap, if_pos nd, lendG_ok m hl]
  have n := hn
  rw [← hb] at n
  have b := backG_ok m n
  rw [hb] at b
  cases z with
  | bad => trivial
  | exc x =>
    have F : sem cs = some (.exc x, cs) := F.run rfl
    cases X with
    | none => trivial
    | some Δ =>
      dsimp only
      rw [F]
      exact ⟨_, rfl, (hw Δ rfl).mt b⟩
  | ok a =>
    have F : sem cs = some (.val (v a), cs) := F.run
    dsimp only
    rw [F]
    dsimp only
    exact hk a _ b
theorem kF {sem : Fn} {ms : List Bool} {k : RV → M γ} {Q : Po α γ} (h : Tr X Γ (bnd (eS fs) fun rs => bnd (fzMask ms rs) fun qs => bnd (callD sem qs) k) t Q) : Tr X Γ (bnd (eF sem ms fs) k) t Q := by
  refine .eq (m' := bnd (eS fs) fun rs => bnd (fzMask ms rs) fun qs => bnd (callD sem qs) k) ?_ h
  unfold eF
  rw [bnd_assoc]
  congr 1
  funext r
  rw [bnd_assoc]
theorem kFK {sem : Fn} {ms : List Bool} {perm : List Nat} {k : RV → M γ} {Q : Po α γ} (h : Tr X Γ (bnd (eS fs) fun rs => bnd (fzMask ms (permL perm rs)) fun qs => bnd (callD sem qs) k) t Q) : Tr X Γ (bnd (eFK sem ms perm fs) k) t Q := by
  refine .eq (m' := bnd (eS fs) fun rs => bnd (fzMask ms (permL perm rs)) fun qs => bnd (callD sem qs) k) ?_ h
  unfold eFK
  rw [bnd_assoc]
  congr 1
  funext r
  rw [bnd_assoc]
/-- the end of a def -/
def keepG : List Cell → Gm → Option (List Cell)
  | [], _ => some []
  | .arg _ :: as, .c (.arg d) :: Γ => (keepG as Γ).map (.arg d :: ·)
  | .sh d :: as, _ :: Γ => (keepG as Γ).map (.sh d :: ·)
  | _, _ => none
theorem keepG_ok : ∀ {as : List Cell} {Γ : Gm} {ρ : Rho} {cs : List Cell}, Mt Γ ρ → keepG as Γ = some cs → keepArg as ρ = some cs
  | [], _, _, _, _, h => by cases h; exact keepArg_nil _
  | .arg _ :: as, .c (.arg d) :: Γ, x :: ρ, cs, m, h => by
    have q : x = .arg d := m.1
    subst q
    rw [keepArg_arg]
    unfold keepG at h
    cases g : keepG as Γ with
    | none => rw [g] at h; cases h
    | some es => rw [g] at h; rw [keepG_ok m.2 g]; exact h
  | .sh d :: as, s :: Γ, x :: ρ, cs, m, h => by
    rw [keepArg_sh]
    unfold keepG at h
    cases g : keepG as Γ with
    | none => rw [g] at h; cases h
    | some es => rw [g] at h; rw [keepG_ok m.2 g]; exact h
  | .sh _ :: as, _ :: _, [], _, m, _ => m.elim
  | .arg _ :: as, .c (.arg _) :: _, [], _, m, _ => m.elim
  | .sh _ :: _, [], _, _, _, h => by cases h
  | .arg _ :: _, [], _, _, _, h => by cases h
  | .arg _ :: _, .c .un :: _, _, _, _, h => by cases h
  | .arg _ :: _, .c (.sh _) :: _, _, _, _, h => by cases h
  | .arg _ :: _, .c (.own _) :: _, _, _, _, h => by cases h
  | .arg _ :: _, .pl :: _, _, _, _, h => by cases h
  | .arg _ :: _, .any :: _, _, _, _, h => by cases h
  | .arg _ :: _, .os _ :: _, _, _, _, h => by cases h
  | .un :: _, _, _, _, _, h => by cases h
  | .own _ :: _, _, _, _, _, h => by cases h
/-- the result of a def -/
def outR (ρ : Rho) : Fl → Option RV
  | .nx => some (.sh .none)
  | .rt (.sh d) => some (.sh d)
  | .rt (.new d) => some (.new d)
  | .rt (.slot i) => match ρ[i]? with
    | some (.own d) => some (.new d)
    | some (.sh d) => some (.sh d)
    | _ => none
  | _ => none
def FE (as : List Cell) (g : α → RV × List Cell) : Po α Fl := fun a w ρ => outR ρ w = some (g a).1 ∧ keepArg as ρ = some (g a).2
def outG (Γ : Gm) : Fl → Option RV
  | .nx => some (.sh .none)
  | .rt (.sh d) => some (.sh d)
  | .rt (.new d) => some (.new d)
  | .rt (.slot i) => match Γ[i]? with
    | some (.c (.own d)) => some (.new d)
    | some (.c (.sh d)) => some (.sh d)
    | _ => none
  | _ => none
theorem outG_ok {ρ : Rho} {w : Fl} (m : Mt Γ ρ) (h : outG Γ w = some r) : outR ρ w = some r := by
  cases w with
  | nx => exact h
  | bk => cases h
  | ct => cases h
  | rt v =>
    cases v with
    | sh d => exact h
    | new d => exact h
    | slot i =>
      simp only [outG] at h
      cases g : Γ[i]? with
      | none => rw [g] at h; cases h
      | some s =>
        obtain ⟨x, ex, q⟩ := m.get g
        rw [g] at h
        cases s with
        | c y =>
          cases q
          simp only [outR]
          rw [ex]
          cases x <;> first | exact h | cases h
        | pl => cases h
        | any => cases h
        | os d => cases h
theorem kFE {as : List Cell} {g : α → RV × List Cell} {a : α} {w : Fl} (h : outG Γ w = some (g a).1) (hk : keepG as Γ = some (g a).2) : Tr X Γ (Fd.ret w) (.ok a) (FE as g) := .of fun ρ m => ⟨w, ρ, rfl, outG_ok m h, keepG_ok m hk⟩
theorem tf_run {n : Nat} {body : M Fl} {as : List Cell} {g : α → RV × List Cell} {x : Bool} {Θ : Rho} (h : Tr (if x = true then some Δ else none) Δ body t (FE as g)) (e : as ++ List.replicate (n - as.length) .un = Θ) (hm : Mt Δ Θ) (hk : x = true → keepG as Δ = some as) : TF x (Fd.run n body) as t g := by
  subst e
  have b := h _ hm
  refine .of ?_
  cases t with
  | bad => trivial
  | exc ex =>
    intro hx
    subst hx
    obtain ⟨ρ', e1, m1⟩ := b
    show Fd.run n body as = _
    rw [run_ap, e1]
    dsimp only
    rw [keepG_ok m1 (hk rfl)]
  | ok a =>
    obtain ⟨w, ρ', e1, q1, q2⟩ := b
    show Fd.run n body as = _
    rw [run_ap, e1]
    dsimp only
    rw [q2]
    dsimp only
    cases w with
    | nx => simp only [outR, Option.some.injEq] at q1; rw [← q1]
    | bk => cases q1
    | ct => cases q1
    | rt v =>
      cases v with
      | sh d => simp only [outR, Option.some.injEq] at q1; rw [← q1]
      | new d => simp only [outR, Option.some.injEq] at q1; rw [← q1]
      | slot i =>
        simp only [outR] at q1
        cases g' : ρ'[i]? with
        | none => rw [g'] at q1; cases q1
        | some c =>
          rw [g'] at q1
          simp only [g']
          cases c <;> first | cases q1 | (simp only [Option.some.injEq] at q1; rw [← q1])
/-! ### loops -/
theorem loopD_eq (p : Pat) (b : M Fl) (x : D) (xs : List D) : loopD p b (x :: xs) = bnd (bnd (patM p x) fun _ => b) fun z => match z with
    | .nx => loopD p b xs
    | .ct => loopD p b xs
    | .bk => Fd.ret .nx
    | .rt r => Fd.ret (.rt r) := by
  rw [bnd_assoc]
  rfl
theorem tr_fold {σ : Type} {p : Pat} {b : M Fl} {en : δ → D} {f : δ → σ → Rs σ} {G : σ → Gm} (step : ∀ x s, Tr X (G s) (bnd (patM p (en x)) fun _ => b) (f x s) (JN G)) : ∀ (xs : List δ) (s : σ), Tr X (G s) (loopD p b (xs.map en)) (foldR f xs s) (J (fun _ => .nx) G)
  | [], s => .of fun ρ m => ⟨.nx, ρ, rfl, rfl, m⟩
  | x :: xs, s => by
    rw [List.map_cons, loopD_eq]
    refine kBind (step x s) fun z v ρ ⟨hv, m⟩ => ?_
    have ih := tr_fold step xs z ρ m
    rcases hv with rfl | rfl <;> exact ih
theorem kFor {σ : Type} {p : Pat} {b : M Fl} {en : δ → D} {f : δ → σ → Rs σ} {G : σ → Gm} {xs : List δ} {s : σ} {k : Fl → M γ} {j : σ → Rs α} {Q : Po α γ} (w : Wk Γ (G s)) (step : ∀ x s, Tr X (G s) (bnd (patM p (en x)) fun _ => b) (f x s) (JN G)) (hk : ∀ s, Tr X (G s) (k .nx) (j s) Q) : Tr X Γ (bnd (loopD p b (xs.map en)) k) ((foldR f xs s).bind j) Q := .weak w (kJoin (tr_fold step xs s) hk)
/-- a loop that may return -/
def JL {σ r : Type} (G : σ → Gm) (Q : Po r Fl) : Po (Bo σ r) Fl := fun z w ρ => match z with
  | .nx s => w = .nx ∧ Mt (G s) ρ
  | .bk s => False
  | .rt a => (∃ v, w = .rt v) ∧ Q a w ρ
theorem tr_for {σ ρ' : Type} {p : Pat} {b : M Fl} {en : δ → D} {f : δ → σ → Rs (Bo σ ρ')} {G : σ → Gm} {Q : Po ρ' Fl} (step : ∀ x s, Tr X (G s) (bnd (patM p (en x)) fun _ => b) (f x s) (JB G Q)) : ∀ (xs : List δ) (s : σ), Tr X (G s) (loopD p b (xs.map en)) (forR f xs s) (JL G Q)
  | [], s => .of fun ρ m => ⟨.nx, ρ, rfl, rfl, m⟩
  | x :: xs, s => by
    rw [List.map_cons, loopD_eq]
    refine kBind (step x s) fun z v ρ hz => ?_
    cases z with
    | nx s' =>
      obtain ⟨hv, m⟩ := hz
      have ih := tr_for step xs s' ρ m
      rcases hv with rfl | rfl <;> exact ih
    | bk s' =>
      obtain ⟨rfl, m⟩ := hz
      exact ⟨.nx, ρ, rfl, rfl, m⟩
    | rt a =>
      obtain ⟨⟨v, rfl⟩, q⟩ := hz
      exact ⟨.rt v, ρ, rfl, ⟨v, rfl⟩, q⟩
/-- behind a loop that may return -/
def aft {σ r : Type} (j : σ → Rs α) (h : r → α) : Bo σ r → Rs α
  | .nx s => j s
  | .bk s => j s
  | .rt a => .ok (h a)
@[simp] theorem aft_nx {σ r : Type} (j : σ → Rs α) (h : r → α) (s : σ) : aft j h (.nx s) = j s := rfl
@[simp] theorem aft_rt {σ r : Type} (j : σ → Rs α) (h : r → α) (a : r) : aft j h (.rt a) = .ok (h a) := rfl
theorem kAft {σ r : Type} {m : M Fl} {z : Rs (Bo σ r)} {G : σ → Gm} {R : Po r Fl} {g : M Fl} {j : σ → Rs α} {h : r → α} {Q : Po α Fl} (hl : Tr X Γ m z (JL G R)) (hR : ∀ a v ρ, R a (.rt v) ρ → Q (h a) (.rt v) ρ) (hk : ∀ s, Tr X (G s) g (j s) Q) : Tr X Γ (bnd m (thn g)) (z.bind (aft j h)) Q :=
  kBind hl fun z v ρ hz => by
    cases z with
    | nx s =>
      obtain ⟨rfl, m⟩ := hz
      exact hk s ρ m
    | bk s => exact hz.elim
    | rt a =>
      obtain ⟨⟨v, rfl⟩, q⟩ := hz
      exact ⟨.rt v, ρ, rfl, hR a v ρ q⟩
/-- a loop that may return, in a def's own row -/
theorem kForR {σ : Type} {p : Pat} {b g : M Fl} {en : δ → D} {f : δ → σ → Rs (Bo σ α)} {G : σ → Gm} {xs : List δ} {s : σ} {j : σ → Rs α} {Q : Po α Fl} (w : Wk Γ (G s)) (step : ∀ x s, Tr X (G s) (bnd (patM p (en x)) fun _ => b) (f x s) (JB G Q)) (hk : ∀ s, Tr X (G s) g (j s) Q) : Tr X Γ (bnd (loopD p b (xs.map en)) (thn g)) ((forR f xs s).bind (aft j id)) Q := .weak w (kAft (tr_for step xs s) (fun _ _ _ q => q) hk)
/-- a loop that may return, in another loop's turn -/
theorem kForB {σ τ r : Type} {p : Pat} {b g : M Fl} {en : δ → D} {f : δ → σ → Rs (Bo σ r)} {G : σ → Gm} {Gt : τ → Gm} {xs : List δ} {s : σ} {j : σ → Rs (Bo τ r)} {Q : Po r Fl} (w : Wk Γ (G s)) (step : ∀ x s, Tr X (G s) (bnd (patM p (en x)) fun _ => b) (f x s) (JB G Q)) (hk : ∀ s, Tr X (G s) g (j s) (JB Gt Q)) : Tr X Γ (bnd (loopD p b (xs.map en)) (thn g)) ((forR f xs s).bind (aft j .rt)) (JB Gt Q) := .weak w (kAft (tr_for step xs s) (fun _ v _ q => ⟨⟨v, rfl⟩, q⟩) hk)
/-! while -/
theorem tr_while {σ : Type} {c : M Bool} {b : M Fl} {tc : σ → Rs Bool} {f : σ → Rs σ} {G : σ → Gm} (hc : ∀ s, Tr X (G s) c (tc s) (J (fun z => z) fun _ => G s)) (step : ∀ s, Tr X (G s) b (f s) (JN G)) : ∀ (n : Nat) (s : σ), Tr X (G s) (whileN c b n) (whileR tc f n s) (J (fun _ => .nx) G)
  | 0, s => .of fun ρ m => True.intro
  | n + 1, s => by
    refine kJoin (hc s) fun z => ?_
    cases z with
    | false => exact .of fun ρ m => ⟨.nx, ρ, rfl, rfl, m⟩
    | true =>
      refine kBind (step s) fun z v ρ ⟨hv, m⟩ => ?_
      have ih := tr_while hc step n z ρ m
      rcases hv with rfl | rfl <;> exact ih
theorem tr_loop {σ r : Type} {c : M Bool} {b : M Fl} {tc : σ → Rs Bool} {f : σ → Rs (Bo σ r)} {G : σ → Gm} {Q : Po r Fl} (hc : ∀ s, Tr X (G s) c (tc s) (J (fun z => z) fun _ => G s)) (step : ∀ s, Tr X (G s) b (f s) (JB G Q)) : ∀ (n : Nat) (s : σ), Tr X (G s) (whileN c b n) (loopR tc f n s) (JL G Q)
  | 0, s => .of fun ρ m => True.intro
  | n + 1, s => by
    refine kJoin (hc s) fun z => ?_
    cases z with
    | false => exact .of fun ρ m => ⟨.nx, ρ, rfl, rfl, m⟩
    | true =>
      refine kBind (step s) fun z v ρ hz => ?_
      cases z with
      | nx s' =>
        obtain ⟨hv, m⟩ := hz
        have ih := tr_loop hc step n s' ρ m
        rcases hv with rfl | rfl <;> exact ih
      | bk s' =>
        obtain ⟨rfl, m⟩ := hz
        exact ⟨.nx, ρ, rfl, rfl, m⟩
      | rt a =>
        obtain ⟨⟨v, rfl⟩, q⟩ := hz
        exact ⟨.rt v, ρ, rfl, ⟨v, rfl⟩, q⟩
theorem tr_sw {c : M Bool} {b : M Fl} {n : Nat} {z : Rs δ} {Q : Po δ Fl} (h : Tr X Γ (whileN c b n) z Q) : Tr X Γ (sWhile c b) z Q := .of fun ρ m => by
  have h := h ρ m
  cases z with
  | bad => trivial
  | exc e =>
    cases X with
    | none => trivial
    | some Δ =>
      obtain ⟨ρ', e1, q⟩ := h
      exact ⟨ρ', sWhile_of e1, q⟩
  | ok a =>
    obtain ⟨v, ρ', e1, q⟩ := h
    exact ⟨v, ρ', sWhile_of e1, q⟩
def fuel : Nat := 1000000
theorem kWhile {σ : Type} {c : M Bool} {b : M Fl} {tc : σ → Rs Bool} {f : σ → Rs σ} {G : σ → Gm} {s : σ} {k : Fl → M γ} {j : σ → Rs α} {Q : Po α γ} (w : Wk Γ (G s)) (hc : ∀ s, Tr X (G s) c (tc s) (J (fun z => z) fun _ => G s)) (step : ∀ s, Tr X (G s) b (f s) (JN G)) (hk : ∀ s, Tr X (G s) (k .nx) (j s) Q) : Tr X Γ (bnd (sWhile c b) k) ((whileR tc f fuel s).bind j) Q := .weak w (kJoin (tr_sw (tr_while hc step fuel s)) hk)
theorem kWhileR {σ : Type} {c : M Bool} {b g : M Fl} {tc : σ → Rs Bool} {f : σ → Rs (Bo σ α)} {G : σ → Gm} {s : σ} {j : σ → Rs α} {Q : Po α Fl} (w : Wk Γ (G s)) (hc : ∀ s, Tr X (G s) c (tc s) (J (fun z => z) fun _ => G s)) (step : ∀ s, Tr X (G s) b (f s) (JB G Q)) (hk : ∀ s, Tr X (G s) g (j s) Q) : Tr X Γ (bnd (sWhile c b) (thn g)) ((loopR tc f fuel s).bind (aft j id)) Q := .weak w (kAft (tr_sw (tr_loop hc step fuel s)) (fun _ _ _ q => q) hk)
/-! ### comprehensions -/
def wipeG (Γ : Gm) : List Nat → Gm
  | [] => Γ
  | i :: is => (wipeG Γ is).set i U
def plG (Γ : Gm) (i : Nat) : Bool := match Γ[i]? with
  | some (.c x) => plC x
  | some .pl => true
  | _ => false
theorem plC_at {ρ : Rho} {i : Nat} {x : Cell} (e : ρ[i]? = some x) (h : plC x = true) : plainAt ρ i = true := by
  unfold plainAt
  rw [e]
  cases x <;> first | rfl | cases h
theorem plG_ok {ρ : Rho} {i : Nat} (m : Mt Γ ρ) (h : plG Γ i = true) : plainAt ρ i = true := by
  unfold plG at h
  cases g : Γ[i]? with
  | none => rw [g] at h; cases h
  | some s =>
    obtain ⟨x, e, q⟩ := m.get g
    rw [g] at h
    refine plC_at e ?_
    cases s with
    | c y => cases q; exact h
    | pl => exact q
    | any => cases h
    | os d => cases h
theorem wipeG_ok {ρ : Rho} (m : Mt Γ ρ) : ∀ own : List Nat, Mt (wipeG Γ own) (wipeR ρ own)
  | [] => m
  | i :: is => (wipeG_ok m is).set (s := U) rfl
theorem wipeM_ok {ρ : Rho} {own : List Nat} (m : Mt Γ ρ) (h : own.all (plG Γ) = true) : ∃ ρ', wipeM own ρ = some (.val (), ρ') ∧ Mt (wipeG Γ own) ρ' := by
  refine ⟨wipeR ρ own, ?_, wipeG_ok m own⟩
  unfold wipeM
  rw [if_pos]
  rw [List.all_eq_true] at h ⊢
  exact fun i hi => plG_ok m (h i hi)
def restG (Γ0 Γ : Gm) : List Nat → Gm
  | [] => Γ
  | i :: is => (restG Γ0 Γ is).set i ((Γ0[i]?).getD U)
theorem restG_ok {Γ0 : Gm} {ρ0 ρ : Rho} (m0 : Mt Γ0 ρ0) (m : Mt Γ ρ) : ∀ own : List Nat, Mt (restG Γ0 Γ own) (restR ρ0 ρ own)
  | [] => m
  | i :: is => by
    refine (restG_ok m0 m is).set ?_
    cases g : Γ0[i]? with
    | none =>
      have : ρ0[i]? = none := by
        rw [List.getElem?_eq_none_iff] at g ⊢
        have := m0.len
        omega
      rw [this]
      rfl
    | some s =>
      obtain ⟨x, e, q⟩ := m0.get g
      rw [e]
      exact q
/-- one turn of a comprehension -/
def turnM (own : List Nat) (p : Pat) (t : M Bool) (f : M RV) (d : D) : M (Option D) := bnd (patM p d) fun _ => bnd t fun b => if b = true then bnd f fun r => bnd (fz r) fun x => bnd (wipeM own) fun _ => Fd.ret (some x) else bnd (wipeM own) fun _ => Fd.ret none
theorem lcD_eq (own : List Nat) (p : Pat) (c : M Bool) (f : M RV) (x : D) (xs acc : List D) : lcD own p c f (x :: xs) acc = bnd (turnM own p c f x) fun z => lcD own p c f xs (match z with | none => acc | some y => acc ++ [y]) := by
  unfold turnM
  rw [bnd_assoc]
  show bnd (patM p x) _ = _
  congr 1
  funext u
  rw [bnd_assoc]
  congr 1
  funext b
  cases b with
  | false =>
    show bnd (wipeM own) _ = bnd (bnd (wipeM own) _) _
    rw [bnd_assoc]
    rfl
  | true =>
    show bnd f _ = bnd (bnd f _) _
    rw [bnd_assoc]
    congr 1
    funext r
    rw [bnd_assoc]
    congr 1
    funext y
    rw [bnd_assoc]
    rfl
theorem tr_lcS {σ ε : Type} {own : List Nat} {p : Pat} {c : M Bool} {f : M RV} {en : δ → D} {em : ε → D} {g : δ → σ → Rs (Option ε × σ)} {G : σ → Gm} (step : ∀ x s, Tr none (G s) (turnM own p c f (en x)) (g x s) (J (fun z => z.1.map em) fun z => G z.2)) : ∀ (xs : List δ) (s : σ) (acc : List ε), Tr none (G s) (lcD own p c f (xs.map en) (acc.map em)) (fmS g xs s) (J (fun z => (acc ++ z.1).map em) fun z => G z.2)
  | [], s, acc => .of fun ρ m => ⟨_, ρ, rfl, by simp, m⟩
  | x :: xs, s, acc => by
    rw [List.map_cons, lcD_eq]
    refine kJoin (step x s) fun z => ?_
    obtain ⟨y, s'⟩ := z
    cases y with
    | none =>
      have ih := tr_lcS step xs s' acc
      refine .eq (bnd_ret _).symm (kJoin ih fun z => ?_)
      exact kJ rfl (Wk.refl _)
    | some y =>
      have ih := tr_lcS step xs s' (acc ++ [y])
      rw [List.map_append] at ih
      refine .eq (bnd_ret _).symm (kJoin ih fun z => ?_)
      refine kJ ?_ (Wk.refl _)
      simp
def few (n : Nat) : Option Unit := if n ≤ 16777216 then some () else none
/-- a comprehension, state and all -/
theorem kLcS {σ ε : Type} {own : List Nat} {p : Pat} {c : M Bool} {f : M RV} {en : δ → D} {em : ε → D} {g : δ → σ → Rs (Option ε × σ)} {G : σ → Gm} {fi : M (List D)} {xs : List δ} {s : σ} {k : RV → M γ} {j : List ε × σ → Rs α} {Q : Po α γ}
    (hX : X = none) (src : PM Γ fi (xs.map en)) (hp : own.all (plG Γ) = true) (w : Wk (wipeG Γ own) (G s)) (step : ∀ x s, Tr none (G s) (turnM own p c f (en x)) (g x s) (J (fun z => z.1.map em) fun z => G z.2)) (hk : ∀ z, Tr X (restG Γ (G z.2) own) (k (.new (.list (z.1.map em)))) (j z) Q) : Tr X Γ (bnd (eLc own fi p c f) k) (ob (few xs.length) fun _ => (fmS g xs s).bind j) Q := .of fun ρ m => by
  unfold few
  by_cases hl : xs.length ≤ 16777216
  · rw [if_pos hl]
    subst hX
    obtain ⟨ρ1, e1, m1⟩ := wipeM_ok m hp
    have key := tr_lcS step xs s [] ρ1 (w.mt m1)
    show Ps none Q (bnd (eLc own fi p c f) k ρ) ((fmS g xs s).bind j)
    cases h : fmS g xs s with
    | bad => trivial
    | exc x => trivial
    | ok z =>
      rw [h] at key
      obtain ⟨v, ρ2, e2, hv, m2⟩ := key
      rw [List.map_nil] at e2
      have w2 : bnd (wipeM own) (fun _ => noX (lcD own p c f (xs.map en) [])) ρ = some (.val v, ρ2) := by
        rw [bnd_ap, e1]
        show noX _ _ = _
        unfold noX
        rw [e2]
      have e3 : eLc own fi p c f ρ = some (.val (.new (.list v)), restR ρ ρ2 own) := by
        unfold eLc
        rw [bnd_ap, src ρ m]
        show (if (xs.map en).length ≤ 16777216 then _ else none) = _
        rw [if_pos (by rw [List.length_map]; exact hl), w2]
      rw [bnd_ap, e3]
      subst hv
      exact hk z _ (restG_ok m m2 own)
  · rw [if_neg hl]
    trivial
/-- without a state -/
def lcR {ε : Type} (g : δ → Rs (Option ε)) (xs : List δ) : Rs (List ε) := ob (few xs.length) fun _ => fmR g xs
def mpR {ε : Type} (g : δ → Rs ε) (xs : List δ) : Rs (List ε) := ob (few xs.length) fun _ => mapR g xs
theorem fmS_fmR {ε σ : Type} (g : δ → Rs (Option ε)) (s : σ) : ∀ xs : List δ, fmS (fun x s => (g x).bind fun y => .ok (y, s)) xs s = (fmR g xs).bind fun ys => .ok (ys, s)
  | [] => rfl
  | x :: xs => by
    unfold fmS fmR
    cases g x with
    | bad => rfl
    | exc e => rfl
    | ok y =>
      simp only [bind_ok]
      rw [fmS_fmR g s xs]
      cases fmR g xs <;> rfl
theorem fmR_mapR {ε : Type} (g : δ → Rs ε) : ∀ xs : List δ, fmR (fun x => (g x).bind fun y => .ok (some y)) xs = mapR g xs
  | [] => rfl
  | x :: xs => by
    unfold fmR mapR
    cases g x with
    | bad => rfl
    | exc e => rfl
    | ok y =>
      simp only [bind_ok]
      rw [fmR_mapR g xs]
theorem bind_assoc {α β γ : Type} (x : Rs α) (f : α → Rs β) (g : β → Rs γ) : (x.bind f).bind g = x.bind fun a => (f a).bind g := by cases x <;> rfl
theorem kLcR {ε : Type} {own : List Nat} {p : Pat} {c : M Bool} {f : M RV} {en : δ → D} {em : ε → D} {g : δ → Rs (Option ε)} {fi : M (List D)} {xs : List δ} {k : RV → M γ} {j : List ε → Rs α} {Q : Po α γ}
    (hX : X = none) (src : PM Γ fi (xs.map en)) (hp : own.all (plG Γ) = true) (step : ∀ x, Tr none (wipeG Γ own) (turnM own p c f (en x)) (g x) (J (fun z => z.map em) fun _ => wipeG Γ own)) (hr : restG Γ (wipeG Γ own) own = Γ) (hk : ∀ z, Tr X Γ (k (.new (.list (z.map em)))) (j z) Q) : Tr X Γ (bnd (eLc own fi p c f) k) ((lcR g xs).bind j) Q := by
  have h := kLcS (X := X) (Γ := Γ) (σ := Unit) (own := own) (p := p) (c := c) (f := f) (en := en) (em := em) (g := fun x s => (g x).bind fun y => .ok (y, s)) (G := fun _ => wipeG Γ own) (fi := fi) (xs := xs) (s := ()) (k := k) (j := fun z => j z.1) (Q := Q) hX src hp (Wk.refl _)
    (fun x s => by
      refine .eq (bnd_ret _).symm (kJoin (step x) fun z => ?_)
      exact kJ rfl (Wk.refl _)) (fun z => by
      show Tr X (restG Γ (wipeG Γ own) own) _ _ _
      rw [hr]
      exact hk z.1)
  have e : (ob (few xs.length) fun _ => (fmS (fun x s => (g x).bind fun y => .ok (y, s)) xs ()).bind fun z => j z.1) = (lcR g xs).bind j := by
    unfold lcR
    cases few xs.length with
    | none => rfl
    | some u =>
      show (fmS _ xs ()).bind _ = (fmR g xs).bind j
      rw [fmS_fmR, bind_assoc]
      rfl
  rw [e] at h
  exact h
theorem kMpR {ε : Type} {own : List Nat} {p : Pat} {c : M Bool} {f : M RV} {en : δ → D} {em : ε → D} {g : δ → Rs ε} {fi : M (List D)} {xs : List δ} {k : RV → M γ} {j : List ε → Rs α} {Q : Po α γ}
    (hX : X = none) (src : PM Γ fi (xs.map en)) (hp : own.all (plG Γ) = true) (step : ∀ x, Tr none (wipeG Γ own) (turnM own p c f (en x)) (g x) (J (fun z => some (em z)) fun _ => wipeG Γ own)) (hr : restG Γ (wipeG Γ own) own = Γ) (hk : ∀ z, Tr X Γ (k (.new (.list (z.map em)))) (j z) Q) : Tr X Γ (bnd (eLc own fi p c f) k) ((mpR g xs).bind j) Q := by
  have h := kLcR (X := X) (Γ := Γ) (own := own) (p := p) (c := c) (f := f) (en := en) (em := em) (g := fun x => (g x).bind fun y => .ok (some y)) (fi := fi) (xs := xs) (k := k) (j := j) (Q := Q) hX src hp
    (fun x => by
      refine .eq (bnd_ret _).symm (kJoin (step x) fun z => ?_)
      exact kJ rfl (Wk.refl _)) hr hk
  have e : lcR (fun x => (g x).bind fun y => .ok (some y)) xs = mpR g xs := by
    unfold lcR mpR
    rw [fmR_mapR]
  rw [e] at h
  exact h
/-! plain comprehensions -/
def mapP {ε : Type} (h : δ → ε) (xs : List δ) : Option (List ε) := if xs.length ≤ 16777216 then some (xs.map h) else none
def filP {ε : Type} (c : δ → Bool) (h : δ → ε) (xs : List δ) : Option (List ε) := if xs.length ≤ 16777216 then some ((xs.filter c).map h) else none
theorem fmR_ok {ε : Type} (g : δ → Option ε) : ∀ xs : List δ, fmR (fun x => .ok (g x)) xs = .ok (xs.filterMap g)
  | [] => rfl
  | x :: xs => by
    show (Rs.ok (g x)).bind _ = _
    rw [bind_ok, fmR_ok g xs, bind_ok, List.filterMap_cons]
    cases g x <;> rfl
theorem fm_fil {ε : Type} (c : δ → Bool) (g : δ → ε) : ∀ xs : List δ, xs.filterMap (fun x => if c x = true then some (g x) else none) = (xs.filter c).map g
  | [] => rfl
  | x :: xs => by
    rw [List.filterMap_cons, List.filter_cons]
    cases h : c x
    · simpa [h] using fm_fil c g xs
    · simpa [h] using fm_fil c g xs
theorem kFil {ε : Type} {own : List Nat} {p : Pat} {c : M Bool} {f : M RV} {en : δ → D} {em : ε → D} {tc : δ → Bool} {g : δ → ε} {fi : M (List D)} {xs : List δ} {k : RV → M γ} {j : List ε → Rs α} {Q : Po α γ}
    (hX : X = none) (src : PM Γ fi (xs.map en)) (hp : own.all (plG Γ) = true) (step : ∀ x, Tr none (wipeG Γ own) (turnM own p c f (en x)) (if tc x = true then .ok (some (g x)) else .ok none) (J (fun z => z.map em) fun _ => wipeG Γ own)) (hr : restG Γ (wipeG Γ own) own = Γ) (hk : ∀ z, Tr X Γ (k (.new (.list (z.map em)))) (j z) Q) : Tr X Γ (bnd (eLc own fi p c f) k) (ob (filP tc g xs) j) Q := by
  have e0 : ∀ x, (if tc x = true then Rs.ok (some (g x)) else .ok none) = Rs.ok (if tc x = true then some (g x) else none) := fun x => by cases tc x <;> rfl
  have h := kLcR (X := X) (Γ := Γ) (own := own) (p := p) (c := c) (f := f) (en := en) (em := em) (g := fun x => .ok (if tc x = true then some (g x) else none)) (fi := fi) (xs := xs) (k := k) (j := j) (Q := Q) hX src hp (fun x => e0 x ▸ step x) hr hk
  have e : (lcR (fun x => Rs.ok (if tc x = true then some (g x) else none)) xs).bind j = ob (filP tc g xs) j := by
    unfold lcR filP few
    by_cases hl : xs.length ≤ 16777216
    · rw [if_pos hl, if_pos hl]
      show (fmR _ xs).bind j = j _
      rw [fmR_ok, bind_ok]
      rw [fm_fil]
    · rw [if_neg hl, if_neg hl]
      rfl
  rw [e] at h
  exact h
end
end Ty
/-! Ty, part 4: typed data and what the operations do upon it. -/
namespace Ty
open PySem Fd
/-! ### how typed data is laid -/
abbrev eI : Int → D := PyData.int
abbrev eS' : Str → D := PyData.str
abbrev eB' : Bool → D := PyData.bool
abbrev eN' : Unit → D := fun _ => PyData.none
abbrev eL {α : Type} (e : α → D) (xs : List α) : D := .list (xs.map e)
abbrev eT {α : Type} (e : α → D) (xs : List α) : D := .tuple (xs.map e)
def e2 {α β : Type} (e : α → D) (f : β → D) : α × β → D := fun p => .tuple [e p.1, f p.2]
def e3 {α β γ : Type} (e : α → D) (f : β → D) (g : γ → D) : α × β × γ → D := fun p => .tuple [e p.1, f p.2.1, g p.2.2]
def e4 {α β γ δ : Type} (e : α → D) (f : β → D) (g : γ → D) (h : δ → D) : α × β × γ × δ → D := fun p => .tuple [e p.1, f p.2.1, g p.2.2.1, h p.2.2.2]
def eO {α : Type} (e : α → D) : Option α → D
  | none => .none
  | some a => e a
abbrev eK {α β : Type} (e : α → D) (f : β → D) (kvs : List (α × β)) : D := .dict (kvs.map fun p => (e p.1, f p.2))
abbrev eD : D → D := fun d => d
section
variable {α β γ δ : Type} {e : α → D} {f : β → D}
/-! ### ints -/
def mulI (i j : Int) : Option Int := if i.natAbs.log2 + j.natAbs.log2 < 1000000 then some (i * j) else none
def fdivI (i j : Int) : Option Int := if 0 < j ∧ j.natAbs.log2 < 9000 then some (i / j) else none
def modI (i j : Int) : Option Int := if 0 < j then some (i % j) else none
def powI (i j : Int) : Option Int := if 0 ≤ j ∧ j ≤ 1000 ∧ i.natAbs ≤ 4294967296 then some (i ^ j.toNat) else none
theorem mulI_ok {i j : Int} : ∀ z, mulI i j = some z → opMul (.int i) (.int j) = some (.sh (.int z)) := fun z h => by
  unfold mulI at h
  split at h
  · cases h; exact if_pos ‹_›
  · cases h
theorem fdivI_ok {i j : Int} : ∀ z, fdivI i j = some z → opFdiv (.int i) (.int j) = some (.sh (.int z)) := fun z h => by
  unfold fdivI at h
  split at h
  · cases h; exact if_pos ‹_›
  · cases h
theorem modI_ok {i j : Int} : ∀ z, modI i j = some z → opMod (.int i) (.int j) = some (.sh (.int z)) := fun z h => by
  unfold modI at h
  split at h
  · cases h; exact if_pos ‹_›
  · cases h
theorem powI_ok {i j : Int} : ∀ z, powI i j = some z → opPow (.int i) (.int j) = some (.sh (.int z)) := fun z h => by
  unfold powI at h
  split at h
  · cases h; exact if_pos ‹_›
  · cases h
def mulS (x : Str) (k : Int) : Option Str := if x.length ≤ 16 ∧ -1000 ≤ k ∧ k ≤ 1000 then some (Txt.mul x k) else none
theorem mulS_ok {x : Str} {k : Int} : ∀ z, mulS x k = some z → opMul (.str x) (.int k) = some (.sh (.str z)) := fun z h => by
  unfold mulS at h
  split at h
  · cases h; exact if_pos ‹_›
  · cases h
def mulT (xs : List α) (k : Int) : Option (List α) := if 1 ≤ xs.length ∧ xs.length ≤ 1000 ∧ 2 ≤ k ∧ k ≤ 1000 then some (List.replicate k.toNat xs).flatten else none
theorem mulT_ok {xs : List α} {k : Int} : ∀ z, mulT xs k = some z → opMul (eT e xs) (.int k) = some (.sh (eT e z)) := fun z h => by
  unfold mulT at h
  split at h
  · cases h
    show (if 1 ≤ (xs.map e).length ∧ (xs.map e).length ≤ 1000 ∧ 2 ≤ k ∧ k ≤ 1000 then some (RV.sh (.tuple (List.replicate k.toNat (xs.map e)).flatten)) else none) = _
    rw [List.length_map, if_pos ‹_›]
    unfold eT
    rw [List.map_flatten, List.map_replicate]
  · cases h
theorem mod_lit {i j : Int} (h : 0 < j) : opMod (.int i) (.int j) = some (.sh (.int (i % j))) := if_pos h
theorem fdiv_lit {i j : Int} (h : 0 < j ∧ j.natAbs.log2 < 9000) : opFdiv (.int i) (.int j) = some (.sh (.int (i / j))) := if_pos h
def absI (i : Int) : Int := if i < 0 then -i else i
def maxI2 (i j : Int) : Int := if j > i then j else i
def minI2 (i j : Int) : Int := if j < i then j else i
theorem maxL_ok {xs : List Int} : ∀ z, maxI xs = some z → opMax [eL eI xs] = some (.sh (.int z)) := fun z h => by
  have e1 : intsOf (xs.map .int) = some xs := by
    clear h
    induction xs with
    | nil => rfl
    | cons x xs ih => show (intsOf (xs.map .int)).map _ = _; rw [ih]; rfl
  show (intsOf (xs.map .int)).bind _ = _
  rw [e1]
  show (maxI xs).map _ = _
  rw [h]
  rfl
theorem intsOf_map (xs : List Int) : intsOf (xs.map .int) = some xs := by
  induction xs with
  | nil => rfl
  | cons x xs ih => show (intsOf (xs.map .int)).map _ = _; rw [ih]; rfl
theorem minL_ok {xs : List Int} : ∀ z, minI xs = some z → opMin [eL eI xs] = some (.sh (.int z)) := fun z h => by
  show (intsOf (xs.map .int)).bind _ = _
  rw [intsOf_map]
  show (minI xs).map _ = _
  rw [h]
  rfl
theorem maxT_ok {xs : List Int} : ∀ z, maxI xs = some z → opMax [eT eI xs] = some (.sh (.int z)) := fun z h => by
  show (intsOf (xs.map .int)).bind _ = _
  rw [intsOf_map]
  show (maxI xs).map _ = _
  rw [h]
  rfl
theorem minT_ok {xs : List Int} : ∀ z, minI xs = some z → opMin [eT eI xs] = some (.sh (.int z)) := fun z h => by
  show (intsOf (xs.map .int)).bind _ = _
  rw [intsOf_map]
  show (minI xs).map _ = _
  rw [h]
  rfl
theorem sumL_ok (xs : List Int) : opSum [eL eI xs] = some (.sh (.int xs.sum)) := by
  show (intsOf (xs.map .int)).map _ = _
  rw [intsOf_map]
  rfl
theorem boolsOf_map (xs : List Bool) : boolsOf (xs.map .bool) = some xs := by
  induction xs with
  | nil => rfl
  | cons x xs ih => show (boolsOf (xs.map .bool)).map _ = _; rw [ih]; rfl
theorem allL_ok (xs : List Bool) : opAll [eL eB' xs] = some (.sh (.bool (xs.all id))) := by
  show (boolsOf (xs.map .bool)).map _ = _
  rw [boolsOf_map]
  rfl
theorem anyL_ok (xs : List Bool) : opAny [eL eB' xs] = some (.sh (.bool (xs.any id))) := by
  show (boolsOf (xs.map .bool)).map _ = _
  rw [boolsOf_map]
  rfl
theorem strsOf_map (xs : List Str) : strsOf (xs.map .str) = some xs := by
  induction xs with
  | nil => rfl
  | cons x xs ih => show (strsOf (xs.map .str)).map _ = _; rw [ih]; rfl
/-! ### lists, tuples -/
def ixL (xs : List α) (i : Int) : Option α := L2.atI xs i
theorem atI_map (g : α → β) (xs : List α) (i : Int) : L2.atI (xs.map g) i = (L2.atI xs i).map g := by
  unfold L2.atI
  rw [List.length_map]
  cases L2.ixN xs.length i with
  | none => rfl
  | some j => exact List.getElem?_map
theorem ixL_ok {xs : List α} {i : Int} : ∀ z, ixL xs i = some z → opIx (eL e xs) (.int i) = some (.sh (e z)) := fun z h => by
  show (L2.atI (xs.map e) i).map RV.sh = _
  rw [atI_map, show L2.atI xs i = some z from h]
  rfl
theorem ixT_ok {xs : List α} {i : Int} : ∀ z, ixL xs i = some z → opIx (eT e xs) (.int i) = some (.sh (e z)) := fun z h => by
  show (L2.atI (xs.map e) i).map RV.sh = _
  rw [atI_map, show L2.atI xs i = some z from h]
  rfl
theorem len_L (xs : List α) : opLen [eL e xs] = some (.sh (.int (xs.length : Int))) := by
  show some (RV.sh (.int ((xs.map e).length : Int))) = _
  rw [List.length_map]
theorem len_T (xs : List α) : opLen [eT e xs] = some (.sh (.int (xs.length : Int))) := by
  show some (RV.sh (.int ((xs.map e).length : Int))) = _
  rw [List.length_map]
def cutL (xs : List α) (lo hi : Option Int) : List α := (xs.drop (HT.sIx xs.length 0 lo)).take (HT.sIx xs.length xs.length hi - HT.sIx xs.length 0 lo)
theorem cut_L (xs : List α) (lo hi : Option Int) : opSl (eL e xs) lo hi = some (.new (eL e (cutL xs lo hi))) := by
  show some (RV.new (.list (cutD (xs.map e) lo hi))) = _
  unfold cutD cutL eL
  rw [List.length_map, List.map_take, List.map_drop]
theorem cut_T (xs : List α) (lo hi : Option Int) : opSl (eT e xs) lo hi = some (.sh (eT e (cutL xs lo hi))) := by
  show some (RV.sh (.tuple (cutD (xs.map e) lo hi))) = _
  unfold cutD cutL eT
  rw [List.length_map, List.map_take, List.map_drop]
theorem rev_L (xs : List α) : opRev (eL e xs) = some (.new (eL e xs.reverse)) := by
  show some (RV.new (.list (xs.map e).reverse)) = _
  rw [← List.map_reverse]
def addL (xs ys : List α) : Option (List α) := if xs.length + ys.length ≤ 16777216 then some (xs ++ ys) else none
theorem addL_ok {xs ys : List α} : ∀ z, addL xs ys = some z → opAdd (eL e xs) (eL e ys) = some (.new (eL e z)) := fun z h => by
  unfold addL at h
  split at h
  · cases h
    show (if (xs.map e).length + (ys.map e).length ≤ 16777216 then some (RV.new (.list (xs.map e ++ ys.map e))) else none) = _
    rw [List.length_map, List.length_map, if_pos ‹_›, ← List.map_append]
  · cases h
theorem addT_ok {xs ys : List α} : ∀ z, addL xs ys = some z → opAdd (eT e xs) (eT e ys) = some (.sh (eT e z)) := fun z h => by
  unfold addL at h
  split at h
  · cases h
    show (if (xs.map e).length + (ys.map e).length ≤ 16777216 then some (RV.sh (.tuple (xs.map e ++ ys.map e))) else none) = _
    rw [List.length_map, List.length_map, if_pos ‹_›, ← List.map_append]
  · cases h
def repL (xs : List α) (k : Int) : Option (List α) := if k ≤ 16777216 ∧ -16777216 ≤ k ∧ xs.length * k.toNat ≤ 16777216 then some (List.replicate k.toNat xs).flatten else none
theorem repL_ok {xs : List α} {k : Int} : ∀ z, repL xs k = some z → opRep (eL e xs) (.int k) = some (.new (eL e z)) := fun z h => by
  unfold repL at h
  split at h
  · cases h
    show (if k ≤ 16777216 ∧ -16777216 ≤ k ∧ (xs.map e).length * k.toNat ≤ 16777216 then some (RV.new (.list (List.replicate k.toNat (xs.map e)).flatten)) else none) = _
    rw [List.length_map, if_pos ‹_›]
    unfold eL
    rw [List.map_flatten, List.map_replicate]
  · cases h
def appL (xs : List α) (v : α) : Option (List α) := if xs.length < 16777216 then some (xs ++ [v]) else none
theorem appL_ok {xs : List α} {v : α} : ∀ z, appL xs v = some z → chAppend [e v] (eL e xs) = some (eL e z, .none) := fun z h => by
  unfold appL at h
  split at h
  · cases h
    show (if (xs.map e).length < 16777216 then some (PyData.list (xs.map e ++ [e v]), PyData.none) else none) = _
    rw [List.length_map, if_pos ‹_›]
    unfold eL
    rw [List.map_append]
    rfl
  · cases h
def popL (xs : List α) : Option (List α × α) := (xs[xs.length - 1]?).map fun v => (xs.dropLast, v)
theorem popL_ok {xs : List α} : ∀ z, popL xs = some z → chPop [] (eL e xs) = some (eL e z.1, e z.2) := fun z h => by
  unfold popL at h
  show ((xs.map e)[(xs.map e).length - 1]?).map (fun v => (PyData.list (xs.map e).dropLast, v)) = _
  rw [List.length_map, List.getElem?_map]
  cases g : xs[xs.length - 1]? with
  | none => rw [g] at h; cases h
  | some v =>
    rw [g] at h
    cases h
    unfold eL
    rw [List.map_dropLast]
    rfl
theorem emap {e : α → D} : ∀ (xs : List α) (k : Nat), (xs.map e).eraseIdx k = (xs.eraseIdx k).map e
  | [], _ => rfl
  | _ :: _, 0 => rfl
  | x :: xs, k + 1 => by
    show e x :: (xs.map e).eraseIdx k = _
    rw [emap xs k]
    rfl
def popAt (xs : List α) (i : Int) : Option (List α × α) := if -4611686018427387904 ≤ i ∧ i < 4611686018427387904 then (seqIndex? i xs.length).bind fun k => (xs[k]?).map fun v => (xs.eraseIdx k, v) else none
theorem popAt_ok {xs : List α} {i : Int} : ∀ z, popAt xs i = some z → chPop [.int i] (eL e xs) = some (eL e z.1, e z.2) := fun z h => by
  unfold popAt at h
  show (if -4611686018427387904 ≤ i ∧ i < 4611686018427387904 then (seqIndex? i (xs.map e).length).bind fun k => ((xs.map e)[k]?).map fun v => (PyData.list ((xs.map e).eraseIdx k), v) else none) = _
  rw [List.length_map]
  split at h
  · rw [if_pos ‹_›]
    cases g : seqIndex? i xs.length with
    | none => rw [g] at h; cases h
    | some k =>
      rw [g] at h
      simp only [Option.bind_some] at h ⊢
      rw [List.getElem?_map]
      cases g2 : xs[k]? with
      | none => rw [g2] at h; cases h
      | some v =>
        rw [g2] at h
        cases h
        unfold eL
        rw [emap]
        rfl
  · cases h
def setL (xs : List α) (i : Int) (v : α) : Option (List α) := (L2.ixN xs.length i).map fun j => xs.set j v
theorem setL_ok {xs : List α} {i : Int} {v : α} : ∀ z, setL xs i v = some z → putIx (.int i) (e v) (eL e xs) = some (eL e z) := fun z h => by
  unfold setL at h
  show (L2.ixN (xs.map e).length i).map (fun j => PyData.list ((xs.map e).set j (e v))) = _
  rw [List.length_map]
  cases g : L2.ixN xs.length i with
  | none => rw [g] at h; cases h
  | some j =>
    rw [g] at h
    cases h
    unfold eL
    rw [List.map_set]
    rfl
theorem tup_L (xs : List α) : opTuple [eL e xs] = some (.sh (eT e xs)) := rfl
theorem tup_T (xs : List α) : opTuple [eT e xs] = some (.sh (eT e xs)) := rfl
theorem lst_L (xs : List α) : opList [eL e xs] = some (.new (eL e xs)) := rfl
theorem lst_T (xs : List α) : opList [eT e xs] = some (.new (eL e xs)) := rfl
theorem items_L (xs : List α) : items (eL e xs) = some (xs.map e) := rfl
theorem items_T (xs : List α) : items (eT e xs) = some (xs.map e) := rfl
/-! ### texts -/
def lenS (z : Str) : Option Int := if z.length ≤ 16777216 then some z.length else none
theorem lenS_ok {z : Str} : ∀ n, lenS z = some n → opLen [.str z] = some (.sh (.int n)) := fun n h => by
  unfold lenS at h
  split at h
  · cases h; exact if_pos ‹_›
  · cases h
def addS (x y : Str) : Option Str := if x.length + y.length ≤ 16777216 then some (x ++ y) else none
theorem addS_ok {x y : Str} : ∀ z, addS x y = some z → opAdd (.str x) (.str y) = some (.sh (.str z)) := fun z h => by
  unfold addS at h
  split at h
  · cases h; exact if_pos ‹_›
  · cases h
theorem iaddS_ok {x y : Str} : ∀ z, addS x y = some z → opIAdd (.str x) (.str y) = some (.sh (.str z)) := fun z h => by
  unfold addS at h
  split at h
  · cases h; exact if_pos ‹_›
  · cases h
def chars (z : Str) : List Str := z.cps.toList.map fun c => ⟨#[c]⟩
theorem items_S (z : Str) : items (.str z) = some ((chars z).map eS') := by
  show some (z.cps.toList.map fun c => PyData.str ⟨#[c]⟩) = _
  unfold chars
  rw [List.map_map]
  rfl
def ixS (z : Str) (i : Int) : Option Str := if z.length ≤ 16777216 then ixL (chars z) i else none
theorem ixS_ok {z : Str} {i : Int} : ∀ c, ixS z i = some c → opIx (.str z) (.int i) = some (.sh (.str c)) := fun c h => by
  unfold ixS ixL chars at h
  split at h
  · rw [atI_map] at h
    show (if z.length ≤ 16777216 then (L2.atI z.cps.toList i).map (fun c => RV.sh (.str ⟨#[c]⟩)) else none) = _
    rw [if_pos ‹_›]
    cases g : L2.atI z.cps.toList i with
    | none => rw [g] at h; cases h
    | some a => rw [g] at h; cases h; rfl
  · cases h
def cutT (z : Str) (lo hi : Option Int) : Option Str := if z.length ≤ 16777216 then some (L2.cutS z lo hi) else none
theorem cutT_ok {z : Str} {lo hi : Option Int} : ∀ c, cutT z lo hi = some c → opSl (.str z) lo hi = some (.sh (.str c)) := fun c h => by
  unfold cutT at h
  split at h
  · cases h; exact if_pos ‹_›
  · cases h
def revT (z : Str) : Option Str := if z.length ≤ 16777216 then some (revS z) else none
theorem revT_ok {z : Str} : ∀ c, revT z = some c → opRev (.str z) = some (.sh (.str c)) := fun c h => by
  unfold revT at h
  split at h
  · cases h; exact if_pos ‹_›
  · cases h
def joinT (a : Str) (ys : List Str) : Option Str := if (ys.map (·.length)).sum + ys.length * a.length ≤ 16777216 then some (Txt.join a ys) else none
theorem joinT_ok {a : Str} {ys : List Str} : ∀ c, joinT a ys = some c → opJoin [.str a, eL eS' ys] = some (.sh (.str c)) := fun c h => by
  unfold joinT at h
  show (strsOf (ys.map .str)).bind _ = _
  rw [strsOf_map]
  split at h
  · cases h; exact if_pos ‹_›
  · cases h
def ltS (x y : Str) : Bool := decide (x.cps.toList < y.cps.toList)
def leS (x y : Str) : Bool := !decide (y.cps.toList < x.cps.toList)
/-! ### ranges, pairs -/
def rangeL (lo : Int) (n : Nat) : List Int := (List.range n).map fun (k : Nat) => lo + k
def stepL (lo c : Int) (n : Nat) : List Int := (List.range n).map fun (k : Nat) => lo + k * c
def range1 (b : Int) : Option (List Int) := if small62 b = true then some (rangeL 0 b.toNat) else none
def range2 (a b : Int) : Option (List Int) := if (small62 a && small62 b) = true then some (rangeL a (b - a).toNat) else none
def rangeD (a b : Int) : Option (List Int) := if (small62 a && small62 b) = true then some (stepL a (-1) (a - b).toNat) else none
def rangeE (a b : Int) : Option (List Int) := if (small62 a && small62 b) = true then some (stepL a 2 ((b - a + 1) / 2).toNat) else none
theorem range1_ok {b : Int} : ∀ z, range1 b = some z → rng1 [.int b] = some (z.map eI) := fun z h => by
  unfold range1 at h
  split at h
  · cases h
    show (if small62 b = true then some (upFrom 0 b.toNat) else none) = _
    rw [if_pos ‹_›]
    unfold upFrom rangeL
    rw [List.map_map]
    rfl
  · cases h
theorem range2_ok {a b : Int} : ∀ z, range2 a b = some z → rng2 [.int a, .int b] = some (z.map eI) := fun z h => by
  unfold range2 at h
  split at h
  · cases h
    show (if (small62 a && small62 b) = true then some (upFrom a (b - a).toNat) else none) = _
    rw [if_pos ‹_›]
    unfold upFrom rangeL
    rw [List.map_map]
    rfl
  · cases h
theorem rangeD_ok {a b : Int} : ∀ z, rangeD a b = some z → rng3 [.int a, .int b, .int (-1)] = some (z.map eI) := fun z h => by
  unfold rangeD at h
  split at h
  · cases h
    show (if (small62 a && small62 b) = true then (if (-1 : Int) = -1 then some (stepFrom a (-1) (a - b).toNat) else if (-1 : Int) = 2 then some (stepFrom a 2 ((b - a + 1) / 2).toNat) else none) else none) = _
    rw [if_pos ‹_›, if_pos rfl]
    unfold stepFrom stepL
    rw [List.map_map]
    rfl
  · cases h
theorem rangeE_ok {a b : Int} : ∀ z, rangeE a b = some z → rng3 [.int a, .int b, .int 2] = some (z.map eI) := fun z h => by
  unfold rangeE at h
  split at h
  · cases h
    show (if (small62 a && small62 b) = true then (if (2 : Int) = -1 then some (stepFrom a (-1) (a - b).toNat) else if (2 : Int) = 2 then some (stepFrom a 2 ((b - a + 1) / 2).toNat) else none) else none) = _
    rw [if_pos ‹_›, if_neg (by decide), if_pos rfl]
    unfold stepFrom stepL
    rw [List.map_map]
    rfl
  · cases h
def enumT : Nat → List α → List (Int × α)
  | _, [] => []
  | k, x :: xs => ((k : Int), x) :: enumT (k + 1) xs
theorem pairs_map (xs : List α) : ∀ k, pairsD k (xs.map e) = (enumT k xs).map (e2 eI e) := by
  induction xs with
  | nil => intro k; rfl
  | cons x xs ih =>
    intro k
    show PyData.tuple [.int k, e x] :: pairsD (k + 1) (xs.map e) = _ :: (enumT (k + 1) xs).map (e2 eI e)
    rw [ih]
    rfl
/-! ### sources of loops -/
variable {Γ : Gm} {fi : M RV} {r : RV} {d : D}
theorem pmD {ds : List D} (p : PM Γ fi r) (h : (r = .sh d ∨ r = .new d) ∨ ∃ i, r = .slot i ∧ Γ[i]? = some (S d)) (hi : items d = some ds) : PM Γ (iD fi) ds := pmBnd p fun ρ m => by
  have e1 : fz r ρ = some (.val d, ρ) := by
    rcases h with (rfl | rfl) | ⟨i, rfl, g⟩
    · rfl
    · rfl
    · obtain ⟨x, ex, q⟩ := m.get g
      cases q
      rw [fz_slot, ex]
  rw [bnd_ap, e1]
  show opt (items d) ρ = _
  rw [hi]
  rfl
theorem pmE (p : PM Γ fi r) (h : (r = .sh d ∨ r = .new d) ∨ ∃ i, r = .slot i ∧ Γ[i]? = some (S d)) {xs : List α} (hi : items d = some (xs.map e)) : PM Γ (iE fi) ((enumT 0 xs).map (e2 eI e)) := pmBnd p fun ρ m => by
  have e1 : fz r ρ = some (.val d, ρ) := by
    rcases h with (rfl | rfl) | ⟨i, rfl, g⟩
    · rfl
    · rfl
    · obtain ⟨x, ex, q⟩ := m.get g
      cases q
      rw [fz_slot, ex]
  rw [bnd_ap, e1]
  show opt ((items d).map (pairsD 0)) ρ = _
  rw [hi, ← pairs_map]
  rfl
variable {X : Option Gm} {t : Rs α}
theorem kIE {k : List D → M γ} {Q : Po α γ} {β : Type} {e : β → D} {Δ : Gm} {xs : List β} (p : PM Γ fi r) (h : fzG Γ r = some (d, Δ)) (hi : items d = some (xs.map e)) (hk : Tr X Δ (k ((enumT 0 xs).map (e2 eI e))) t Q) : Tr X Γ (bnd (iE fi) k) t Q := by
  refine kA (a := fi) (k := fun r => bnd (fz r) fun d => opt ((items d).map (pairsD 0))) (kP p ?_)
  refine kA (a := fz r) ?_
  refine kFz h ?_
  refine kP (v := (enumT 0 xs).map (e2 eI e)) (fun ρ m => ?_) hk
  rw [hi, ← pairs_map]
  rfl
theorem kID {k : List D → M γ} {Q : Po α γ} {Δ : Gm} {ds : List D} (p : PM Γ fi r) (h : fzG Γ r = some (d, Δ)) (hi : items d = some ds) (hk : Tr X Δ (k ds) t Q) : Tr X Γ (bnd (iD fi) k) t Q := by
  refine kA (a := fi) (k := fun r => bnd (fz r) fun d => opt (items d)) (kP p ?_)
  refine kA (a := fz r) ?_
  refine kFz h ?_
  refine kP (v := ds) (fun ρ m => ?_) hk
  rw [hi]
  rfl
/-- the same, the thing walked over being reckoned by parts that are not plain -/
theorem kIDx {k : List D → M γ} {Q : Po α γ} (h : Tr X Γ (bnd fi fun r => bnd (fz r) fun d => bnd (opt (items d)) k) t Q) : Tr X Γ (bnd (iD fi) k) t Q := by
  refine .eq (m' := bnd fi fun r => bnd (fz r) fun d => bnd (opt (items d)) k) ?_ h
  unfold iD
  rw [bnd_assoc]
  congr 1
  funext r
  rw [bnd_assoc]
theorem kIEx {k : List D → M γ} {Q : Po α γ} (h : Tr X Γ (bnd fi fun r => bnd (fz r) fun d => bnd (opt ((items d).map (pairsD 0))) k) t Q) : Tr X Γ (bnd (iE fi) k) t Q := by
  refine .eq (m' := bnd fi fun r => bnd (fz r) fun d => bnd (opt ((items d).map (pairsD 0))) k) ?_ h
  unfold iE
  rw [bnd_assoc]
  congr 1
  funext r
  rw [bnd_assoc]
theorem kIt {k : List D → M γ} {Q : Po α γ} {ds : List D} (hi : items d = some ds) (hk : Tr X Γ (k ds) t Q) : Tr X Γ (bnd (opt (items d)) k) t Q := kP (v := ds) (fun ρ m => by rw [hi]; rfl) hk
theorem kItE {k : List D → M γ} {Q : Po α γ} {β : Type} {e : β → D} {xs : List β} (hi : items d = some (xs.map e)) (hk : Tr X Γ (k ((enumT 0 xs).map (e2 eI e))) t Q) : Tr X Γ (bnd (opt ((items d).map (pairsD 0))) k) t Q := kP (v := (enumT 0 xs).map (e2 eI e)) (fun ρ m => by rw [hi, ← pairs_map]; rfl) hk
def iNR (op : List D → Option (List D)) (rs : List RV) : M (List D) := fun ρ => match rds rs ρ with
  | none => none
  | some ds => opt (op ds) ρ
theorem iN_eq (op : List D → Option (List D)) (fs : List (M RV)) : iN op fs = bnd (eS fs) (iNR op) := rfl
theorem pmIN {op : List D → Option (List D)} {fs : List (M RV)} {rs : List RV} {ds os : List D} (p : PM Γ (eS fs) rs) (hd : rdsG Γ rs = some ds) (h : op ds = some os) : PM Γ (iN op fs) os := pmBnd (f := iNR op) p fun ρ m => by
  unfold iNR
  rw [rdsG_ok m hd]
  show opt (op ds) ρ = _
  rw [h]
  rfl
theorem qIN {op : List D → Option (List D)} {fs : List (M RV)} {rs : List RV} {ds : List D} {z : Option δ} {R : δ → List D} (p : PM Γ (eS fs) rs) (hd : rdsG Γ rs = some ds) (h : ∀ a, z = some a → op ds = some (R a)) : ∀ a, z = some a → PM Γ (iN op fs) (R a) := fun a e' => pmIN p hd (h a e')
theorem kIN {op : List D → Option (List D)} {fs : List (M RV)} {k : List D → M γ} {Q : Po α γ} (h : Tr X Γ (bnd (eS fs) fun rs => bnd (iNR op rs) k) t Q) : Tr X Γ (bnd (iN op fs) k) t Q := kA (a := eS fs) (k := iNR op) h
theorem kINR {op : List D → Option (List D)} {rs : List RV} {ds : List D} {k : List D → M γ} {Q : Po α γ} {z : Option δ} {R : δ → List D} {j : δ → Rs α} (hd : rdsG Γ rs = some ds) (h : ∀ a, z = some a → op ds = some (R a)) (hk : ∀ a, Tr X Γ (k (R a)) (j a) Q) : Tr X Γ (bnd (iNR op rs) k) (ob z j) Q := kPO (fun a ha ρ m => by
  unfold iNR
  rw [rdsG_ok m hd]
  show opt (op ds) ρ = _
  rw [h a ha]
  rfl) hk
theorem zip_map {β : Type} {f : β → D} : ∀ (xs : List α) (ys : List β), (xs.map e).zip (ys.map f) = (xs.zip ys).map fun p => (e p.1, f p.2) := fun xs ys => by rw [List.zip_map]; rfl
/-! ### patterns -/
mutual
def patG : Pat → D → Gm → Option Gm
  | .nm i, d, Γ => asgG i (.sh d) Γ
  | .tp ps, .tuple ds, Γ => patsG ps ds Γ
  | .tp _, _, _ => none
def patsG : List Pat → List D → Gm → Option Gm
  | [], [], Γ => some Γ
  | p :: ps, d :: ds, Γ => match patG p d Γ with
    | none => none
    | some Δ => patsG ps ds Δ
  | _, _, _ => none
end
mutual
theorem patG_ok : ∀ (p : Pat) (d : D) (Γ : Gm) {Δ : Gm} {ρ : Rho}, Mt Γ ρ → patG p d Γ = some Δ → ∃ ρ', patM p d ρ = some (.val (), ρ') ∧ Mt Δ ρ'
  | .nm i, d, Γ, Δ, ρ, m, h => by
    unfold patG at h
    rw [patM_nm]
    exact asgG_ok m h
  | .tp ps, .tuple ds, Γ, Δ, ρ, m, h => by
    unfold patG at h
    rw [patM_tp]
    exact patsG_ok ps ds Γ m h
  | .tp _, .none, _, _, _, _, h => by unfold patG at h; cases h
  | .tp _, .bool _, _, _, _, _, h => by unfold patG at h; cases h
  | .tp _, .int _, _, _, _, _, h => by unfold patG at h; cases h
  | .tp _, .str _, _, _, _, _, h => by unfold patG at h; cases h
  | .tp _, .list _, _, _, _, _, h => by unfold patG at h; cases h
  | .tp _, .dict _, _, _, _, _, h => by unfold patG at h; cases h
theorem patsG_ok : ∀ (ps : List Pat) (ds : List D) (Γ : Gm) {Δ : Gm} {ρ : Rho}, Mt Γ ρ → patsG ps ds Γ = some Δ → ∃ ρ', patMs ps ds ρ = some (.val (), ρ') ∧ Mt Δ ρ'
  | [], [], Γ, Δ, ρ, m, h => by
    unfold patsG at h
    cases h
    exact ⟨ρ, patMs_nil ρ, m⟩
  | p :: ps, d :: ds, Γ, Δ, ρ, m, h => by
    unfold patsG at h
    split at h
    · cases h
    · rename_i Θ e1
      obtain ⟨ρ1, e2, m1⟩ := patG_ok p d Γ m e1
      obtain ⟨ρ2, e3, m2⟩ := patsG_ok ps ds Θ m1 h
      refine ⟨ρ2, ?_, m2⟩
      rw [patMs_cons, bnd_ap, e2]
      exact e3
  | [], _ :: _, _, _, _, _, h => by unfold patsG at h; cases h
  | _ :: _, [], _, _, _, _, h => by unfold patsG at h; cases h
end
theorem kPat {p : Pat} {k : Unit → M γ} {Q : Po α γ} {Δ : Gm} (h : patG p d Γ = some Δ) (hk : Tr X Δ (k ()) t Q) : Tr X Γ (bnd (patM p d) k) t Q := kDo (fun ρ m => patG_ok p d Γ m h) hk
theorem kYes {A B : M γ} {Q : Po α γ} (h : Tr X Γ A t Q) : Tr X Γ (bnd Fd.tYes fun b => if b = true then A else B) t Q := h
theorem kTest {c : M Bool} {b : Bool} {A B : M γ} {ta tb : Rs α} {Q : Po α γ} (p : PM Γ c b) (ha : Tr X Γ A ta Q) (hb : Tr X Γ B tb Q) : Tr X Γ (bnd c fun b => if b = true then A else B) (if b = true then ta else tb) Q := kP p (by
  cases b
  · exact hb
  · exact ha)
theorem kIf0 {b : Bool} {A B : M γ} {ta tb : Rs α} {Q : Po α γ} (ha : Tr X Γ A ta Q) (hb : Tr X Γ B tb Q) : Tr X Γ (if b = true then A else B) (if b = true then ta else tb) Q := by
  cases b
  · exact hb
  · exact ha
theorem kWipe {own : List Nat} {k : Unit → M γ} {Q : Po α γ} (hp : own.all (plG Γ) = true) (hk : Tr X (wipeG Γ own) (k ()) t Q) : Tr X Γ (bnd (wipeM own) k) t Q := kDo (fun ρ m => wipeM_ok m hp) hk
/-! ### equality -/
structure En {α : Type} [DecidableEq α] (e : α → D) (k : Nat) : Prop where
  lay : ∀ a, (e a).canLay0 = true
  dep : ∀ a, (e a).depth ≤ k
  eq : ∀ a b, PyData.eqv (e a) (e b) = decide (a = b)
theorem En.int : En eI 0 := ⟨fun _ => rfl, fun _ => Nat.le_refl _, fun a b => by
    show (a == b) = _
    by_cases h : a = b <;> simp [h]⟩
theorem En.bool : En eB' 0 := ⟨fun _ => rfl, fun _ => Nat.le_refl _, fun a b => by cases a <;> cases b <;> rfl⟩
theorem eqvAll_map [DecidableEq α] {k : Nat} (h : En e k) : ∀ xs ys : List α, PyData.eqvAll (xs.map e) (ys.map e) = decide (xs = ys)
  | [], [] => rfl
  | [], _ :: _ => rfl
  | _ :: _, [] => rfl
  | x :: xs, y :: ys => by
    show (PyData.eqv (e x) (e y) && PyData.eqvAll (xs.map e) (ys.map e)) = _
    rw [h.eq, eqvAll_map h xs ys]
    by_cases h1 : x = y <;> by_cases h2 : xs = ys <;> simp [h1, h2]
theorem layAll_map [DecidableEq α] {k : Nat} (h : En e k) : ∀ xs : List α, PyData.canLayAll0 (xs.map e) = true ∧ PyData.depthAll (xs.map e) ≤ k
  | [] => ⟨rfl, Nat.zero_le _⟩
  | x :: xs => by
    obtain ⟨h1, h2⟩ := layAll_map h xs
    exact ⟨by show ((e x).canLay0 && _) = true; rw [h.lay, h1]; rfl, Nat.max_le.mpr ⟨h.dep x, h2⟩⟩
theorem En.list [DecidableEq α] {k : Nat} (h : En e k) : En (eL e) (k + 1) := ⟨fun xs => (layAll_map h xs).1, fun xs => Nat.succ_le_succ (layAll_map h xs).2, fun xs ys => eqvAll_map h xs ys⟩
theorem En.tup [DecidableEq α] {k : Nat} (h : En e k) : En (eT e) (k + 1) := ⟨fun xs => (layAll_map h xs).1, fun xs => Nat.succ_le_succ (layAll_map h xs).2, fun xs ys => eqvAll_map h xs ys⟩
theorem En.t2 [DecidableEq α] [DecidableEq β] {k l : Nat} (h : En e k) (h' : En f l) : En (e2 e f) (max k l + 1) := by
  refine ⟨fun p => ?_, fun p => ?_, fun p q => ?_⟩
  · show ((e p.1).canLay0 && ((f p.2).canLay0 && true)) = true
    rw [h.lay, h'.lay]
    rfl
  · have a := h.dep p.1
    have b := h'.dep p.2
    show max _ (max _ 0) + 1 ≤ _
    omega
  · show (PyData.eqv (e p.1) (e q.1) && (PyData.eqv (f p.2) (f q.2) && true)) = _
    rw [h.eq, h'.eq]
    obtain ⟨a, b⟩ := p
    obtain ⟨c, d⟩ := q
    by_cases h1 : a = c <;> by_cases h2 : b = d <;> simp [h1, h2]
theorem En.t3 {γ : Type} {g : γ → D} [DecidableEq α] [DecidableEq β] [DecidableEq γ] {k l m : Nat} (h : En e k) (h' : En f l) (h2 : En g m) : En (e3 e f g) (max k (max l m) + 1) := by
  refine ⟨fun p => ?_, fun p => ?_, fun p q => ?_⟩
  · show ((e p.1).canLay0 && ((f p.2.1).canLay0 && ((g p.2.2).canLay0 && true))) = true
    rw [h.lay, h'.lay, h2.lay]
    rfl
  · have a := h.dep p.1
    have b := h'.dep p.2.1
    have c := h2.dep p.2.2
    show max _ (max _ (max _ 0)) + 1 ≤ _
    omega
  · show (PyData.eqv (e p.1) (e q.1) && (PyData.eqv (f p.2.1) (f q.2.1) && (PyData.eqv (g p.2.2) (g q.2.2) && true))) = _
    rw [h.eq, h'.eq, h2.eq]
    obtain ⟨a, b, c⟩ := p
    obtain ⟨a', b', c'⟩ := q
    by_cases h1 : a = a' <;> by_cases h2 : b = b' <;> by_cases h3 : c = c' <;> simp [h1, h2, h3]
theorem En.t4 {γ δ : Type} {g : γ → D} {i : δ → D} [DecidableEq α] [DecidableEq β] [DecidableEq γ] [DecidableEq δ] {k l m n : Nat} (h : En e k) (h' : En f l) (h2 : En g m) (h3 : En i n) : En (e4 e f g i) (max (max k n) (max l m) + 1) := by
  refine ⟨fun p => ?_, fun p => ?_, fun p q => ?_⟩
  · show ((e p.1).canLay0 && ((f p.2.1).canLay0 && ((g p.2.2.1).canLay0 && ((i p.2.2.2).canLay0 && true)))) = true
    rw [h.lay, h'.lay, h2.lay, h3.lay]
    rfl
  · have a := h.dep p.1
    have b := h'.dep p.2.1
    have c := h2.dep p.2.2.1
    have d := h3.dep p.2.2.2
    show max _ (max _ (max _ (max _ 0))) + 1 ≤ _
    omega
  · show (PyData.eqv (e p.1) (e q.1) && (PyData.eqv (f p.2.1) (f q.2.1) && (PyData.eqv (g p.2.2.1) (g q.2.2.1) && (PyData.eqv (i p.2.2.2) (i q.2.2.2) && true)))) = _
    rw [h.eq, h'.eq, h2.eq, h3.eq]
    obtain ⟨a, b, c, d⟩ := p
    obtain ⟨a', b', c', d'⟩ := q
    by_cases h1 : a = a' <;> by_cases h2 : b = b' <;> by_cases h3 : c = c' <;> by_cases h4 : d = d' <;> simp [h1, h2, h3, h4]
theorem En.sh [DecidableEq α] {k : Nat} (h : En e k) (hk : k ≤ 64) (a : α) : SeqAt.shaped (e a) = true := by
  have := h.dep a
  show ((e a).canLay0 && decide ((e a).depth ≤ 64)) = true
  rw [h.lay, decide_eq_true (by omega)]
  rfl
theorem opEq_gen {d d' : D} (h : SeqAt.shaped d = true) (h' : SeqAt.shaped d' = true) : opEq d d' = bl (PyData.eqv d d') := by
  cases d with
  | str x =>
    cases d' with
    | str y =>
      show bl (decide (x = y)) = bl (x == y)
      have e : (x == y) = decide (x = y) := by by_cases hx : x = y <;> simp [hx]
      rw [e]
    | _ => show (if (SeqAt.shaped _ && SeqAt.shaped _) = true then _ else none) = _; rw [h, h']; rfl
  | dict kvs => cases h
  | _ => show (if (SeqAt.shaped _ && SeqAt.shaped _) = true then _ else none) = _; rw [h, h']; rfl
theorem opNe_gen {d d' : D} (h : SeqAt.shaped d = true) (h' : SeqAt.shaped d' = true) : opNe d d' = bl (!PyData.eqv d d') := by
  cases d with
  | str x =>
    cases d' with
    | str y =>
      show bl (!decide (x = y)) = bl (!(x == y))
      have e : (x == y) = decide (x = y) := by by_cases hx : x = y <;> simp [hx]
      rw [e]
    | _ => show (if (SeqAt.shaped _ && SeqAt.shaped _) = true then _ else none) = _; rw [h, h']; rfl
  | dict kvs => cases h
  | _ => show (if (SeqAt.shaped _ && SeqAt.shaped _) = true then _ else none) = _; rw [h, h']; rfl
theorem eq_en [DecidableEq α] {k : Nat} (h : En e k) (hk : k ≤ 64) (a b : α) : opEq (e a) (e b) = some (.sh (.bool (decide (a = b)))) := by rw [opEq_gen (h.sh hk a) (h.sh hk b), h.eq]; rfl
theorem ne_en [DecidableEq α] {k : Nat} (h : En e k) (hk : k ≤ 64) (a b : α) : opNe (e a) (e b) = some (.sh (.bool (!decide (a = b)))) := by rw [opNe_gen (h.sh hk a) (h.sh hk b), h.eq]; rfl
/-! equality of data with texts in it: both must be texts that can be laid -/
def eqP (e : α → D) [DecidableEq α] (a b : α) : Option Bool := if (SeqAt.shaped (e a) && SeqAt.shaped (e b)) = true then some (decide (a = b)) else none
structure Eq' {α : Type} [DecidableEq α] (e : α → D) : Prop where
  eq : ∀ a b, PyData.eqv (e a) (e b) = decide (a = b)
theorem En.eq' [DecidableEq α] {k : Nat} (h : En e k) : Eq' e := ⟨h.eq⟩
theorem Eq'.str : Eq' eS' := ⟨fun x y => by
  show (x == y) = _
  by_cases hx : x = y <;> simp [hx]⟩
theorem Eq'.all [DecidableEq α] (h : Eq' e) : ∀ xs ys : List α, PyData.eqvAll (xs.map e) (ys.map e) = decide (xs = ys)
  | [], [] => rfl
  | [], _ :: _ => rfl
  | _ :: _, [] => rfl
  | x :: xs, y :: ys => by
    show (PyData.eqv (e x) (e y) && PyData.eqvAll (xs.map e) (ys.map e)) = _
    rw [h.eq, Eq'.all h xs ys]
    by_cases h1 : x = y <;> by_cases h2 : xs = ys <;> simp [h1, h2]
theorem Eq'.list [DecidableEq α] (h : Eq' e) : Eq' (eL e) := ⟨fun xs ys => h.all xs ys⟩
theorem Eq'.tup [DecidableEq α] (h : Eq' e) : Eq' (eT e) := ⟨fun xs ys => h.all xs ys⟩
theorem Eq'.t2 [DecidableEq α] [DecidableEq β] (h : Eq' e) (h' : Eq' f) : Eq' (e2 e f) := ⟨fun p q => by
    show (PyData.eqv (e p.1) (e q.1) && (PyData.eqv (f p.2) (f q.2) && true)) = _
    rw [h.eq, h'.eq]
    obtain ⟨a, b⟩ := p
    obtain ⟨c, d⟩ := q
    by_cases h1 : a = c <;> by_cases h2 : b = d <;> simp [h1, h2]⟩
theorem eqP_ok [DecidableEq α] (h : Eq' e) {a b : α} : ∀ z, eqP e a b = some z → opEq (e a) (e b) = some (.sh (.bool z)) := fun z hz => by
  unfold eqP at hz
  split at hz
  · rename_i hc
    obtain ⟨h1, h2⟩ := Bool.and_eq_true_iff.mp hc
    cases hz
    rw [opEq_gen h1 h2, h.eq]
    rfl
  · cases hz
def neP (e : α → D) [DecidableEq α] (a b : α) : Option Bool := if (SeqAt.shaped (e a) && SeqAt.shaped (e b)) = true then some (!decide (a = b)) else none
theorem neP_ok [DecidableEq α] (h : Eq' e) {a b : α} : ∀ z, neP e a b = some z → opNe (e a) (e b) = some (.sh (.bool z)) := fun z hz => by
  unfold neP at hz
  split at hz
  · rename_i hc
    obtain ⟨h1, h2⟩ := Bool.and_eq_true_iff.mp hc
    cases hz
    rw [opNe_gen h1 h2, h.eq]
    rfl
  · cases hz
/-! membership -/
theorem memD_map [DecidableEq α] {k : Nat} (h : En e k) (a : α) (xs : List α) : memD (e a) (xs.map e) = decide (a ∈ xs) := by
  unfold memD
  induction xs with
  | nil => rfl
  | cons x xs ih =>
    rw [List.map_cons, List.any_cons, h.eq, ih]
    by_cases h1 : x = a
    · subst h1
      simp
    · have h2 : ¬a = x := fun e' => h1 e'.symm
      simp [h1, h2]
theorem in_int (a : Int) (xs : List Int) : opIn (.int a) (eL eI xs) = some (.sh (.bool (decide (a ∈ xs)))) := by
  have hf : (xs.map eI).all flatD = true := by simp [flatD, eI]
  show (if (flatD (.int a) && (xs.map eI).all flatD) = true then bl (memD (eI a) (xs.map eI)) else _) = _
  rw [hf, memD_map En.int]
  rfl
theorem in_intT (a : Int) (xs : List Int) : opIn (.int a) (eT eI xs) = some (.sh (.bool (decide (a ∈ xs)))) := by
  have hf : (xs.map eI).all flatD = true := by simp [flatD, eI]
  show (if (flatD (.int a) && (xs.map eI).all flatD) = true then bl (memD (eI a) (xs.map eI)) else _) = _
  rw [hf, memD_map En.int]
  rfl
theorem nin_int (a : Int) (xs : List Int) : opNotIn (.int a) (eL eI xs) = some (.sh (.bool (!decide (a ∈ xs)))) := by
  have hf : (xs.map eI).all flatD = true := by simp [flatD, eI]
  show (if (flatD (.int a) && (xs.map eI).all flatD) = true then bl (!memD (eI a) (xs.map eI)) else _) = _
  rw [hf, memD_map En.int]
  rfl
theorem nin_intT (a : Int) (xs : List Int) : opNotIn (.int a) (eT eI xs) = some (.sh (.bool (!decide (a ∈ xs)))) := by
  have hf : (xs.map eI).all flatD = true := by simp [flatD, eI]
  show (if (flatD (.int a) && (xs.map eI).all flatD) = true then bl (!memD (eI a) (xs.map eI)) else _) = _
  rw [hf, memD_map En.int]
  rfl
/-! repr -/
def reprG (d : D) : Option Str := if reprOk d = true then some d.shown else none
theorem reprL_ok {xs : List D} : ∀ z, reprG (.list xs) = some z → opRepr [.list xs] = some (.sh (.str z)) := fun z h => by
  unfold reprG at h
  split at h
  · cases h; exact if_pos ‹_›
  · cases h
theorem reprT_ok {xs : List D} : ∀ z, reprG (.tuple xs) = some z → opRepr [.tuple xs] = some (.sh (.str z)) := fun z h => by
  unfold reprG at h
  split at h
  · cases h; exact if_pos ‹_›
  · cases h
theorem reprS_ok {x : Str} : ∀ z, reprG (.str x) = some z → opRepr [.str x] = some (.sh (.str z)) := fun z h => by
  unfold reprG at h
  split at h
  · cases h; exact if_pos ‹_›
  · cases h
def reprI (i : Int) : Option Str := if i.natAbs.log2 < 1920 then some (Str.ofString (toString i)) else none
theorem reprI_ok {i : Int} : ∀ z, reprI i = some z → opRepr [.int i] = some (.sh (.str z)) := fun z h => by
  unfold reprI at h
  split at h
  · cases h; exact if_pos ‹_›
  · cases h
/-! sorting -/
structure So {α : Type} (e : α → D) : Prop where
  ok : ∀ xs : List α, sortOk (xs.map e) = true
def sortT (e : α → D) (xs : List α) : List α := xs.mergeSort fun a b => leD (e a) (e b)
theorem sort_ok (h : So e) (xs : List α) : opSorted [eL e xs] = some (.new (eL e (sortT e xs))) := by
  show (if sortOk (xs.map e) = true then some (RV.new (.list ((xs.map e).mergeSort leD))) else none) = _
  rw [if_pos (h.ok xs)]
  congr 3
  exact (List.map_mergeSort (r := fun a b => leD (e a) (e b)) (s := leD) (f := e) fun _ _ _ _ => rfl).symm
theorem So.of (h1 : ∀ a, SeqAt.shaped (e a) = true) (h2 : ∀ a b, PySem.W.alike (e a) (e b) = true) (h3 : (∀ a, (match e a with | .tuple (_ :: _) => true | _ => false) = true) ∨ ∀ a, (match e a with | .none => false | .tuple _ => false | _ => true) = true) : So e := ⟨fun xs => by
  unfold sortOk
  simp only [Bool.and_eq_true, Bool.or_eq_true, List.all_eq_true]
  refine ⟨⟨fun d hd => ?_, fun d hd d' he => ?_⟩, ?_⟩
  · obtain ⟨p, _, rfl⟩ := List.mem_map.mp hd
    exact h1 p
  · obtain ⟨p, _, rfl⟩ := List.mem_map.mp hd
    obtain ⟨q, _, rfl⟩ := List.mem_map.mp he
    exact h2 p q
  · rcases h3 with h3 | h3
    · refine .inl fun d hd => ?_
      obtain ⟨p, _, rfl⟩ := List.mem_map.mp hd
      exact h3 p
    · refine .inr fun d hd => ?_
      obtain ⟨p, _, rfl⟩ := List.mem_map.mp hd
      exact h3 p⟩
theorem So.int : So eI := .of (fun _ => rfl) (fun _ _ => rfl) (.inr fun _ => rfl)
theorem So.ii : So (e2 eI eI) := .of (fun _ => rfl) (fun _ _ => rfl) (.inl fun _ => rfl)
end
end Ty
/-! Ty, part 5: more steps. -/
namespace Ty
open PySem Fd
section
variable {α β γ δ : Type} {X : Option Gm} {Γ Δ : Gm} {t : Rs α} {fa fb f : M RV} {r : RV} {d v e : D} {rs : List RV} {ds : List D} {fs : List (M RV)}
theorem kSS {s g r : M Fl} {Q : Po α Fl} (h : Tr X Γ (sSeq s (sSeq g r)) t Q) : Tr X Γ (bnd (sSeq s g) (thn r)) t Q := by
  refine .eq (m' := sSeq s (sSeq g r)) ?_ h
  show bnd (bnd s (thn g)) (thn r) = bnd s (thn (sSeq g r))
  rw [bnd_assoc]
  congr 1
  funext x
  cases x <;> rfl
theorem kPutOt {i : Nat} {ch : D → D → D → Option D} {k : Unit → M γ} {Q : Po α γ} {d' : D} (g : Γ[i]? = some (O d)) (h : ch e v d = some d') (hk : Tr X (Γ.set i (O d')) (k ()) t Q) : Tr X Γ (bnd (put2 ch (.slot i) [v, e]) k) t Q :=
  kPutO (z := some ()) (j := fun _ => t) (D' := fun _ => d') g (fun _ _ => h) (fun _ => hk)
theorem kPutAt {i : Nat} {ch : D → D → D → Option D} {k : Unit → M γ} {Q : Po α γ} {d' : D} (g : Γ[i]? = some (A d)) (h : ch e v d = some d') (hk : Tr X (Γ.set i (A d')) (k ()) t Q) : Tr X Γ (bnd (put2 ch (.slot i) [v, e]) k) t Q :=
  kPutA (z := some ()) (j := fun _ => t) (D' := fun _ => d') g (fun _ _ => h) (fun _ => hk)
theorem kSched (e : Γ = Δ) {m : M γ} {Q : Po α γ} (h : Tr X Δ m t Q) : Tr X Γ m t Q := e ▸ h
/-- the value of the typed program named -/
theorem kName {a : δ} {R : δ → RV} {k : RV → M γ} {j : δ → Rs α} {Q : Po α γ} (h : ∀ a, Tr X Γ (k (R a)) (j a) Q) : Tr X Γ (k (R a)) ((Rs.ok a).bind j) Q := h a
/-! comprehensions, the source being reckoned -/
def lcT (own : List Nat) (p : Pat) (t : M Bool) (f : M RV) (ds : List D) : M RV := fun ρ => if ds.length ≤ 16777216 then (match bnd (wipeM own) (fun _ => noX (lcD own p t f ds [])) ρ with
    | some (.val xs, ρ') => some (.val (.new (.list xs)), restR ρ ρ' own)
    | _ => none) else none
theorem eLc_eq (own : List Nat) (fi : M (List D)) (p : Pat) (t : M Bool) (f : M RV) : eLc own fi p t f = bnd fi (lcT own p t f) := rfl
theorem lcT_eq (own : List Nat) (p : Pat) (t : M Bool) (f : M RV) (ds : List D) : lcT own p t f ds = eLc own (Fd.ret ds) p t f := rfl
theorem kLc {own : List Nat} {p : Pat} {c : M Bool} {fi : M (List D)} {k : RV → M γ} {Q : Po α γ} (h : Tr X Γ (bnd fi fun ds => bnd (lcT own p c f ds) k) t Q) : Tr X Γ (bnd (eLc own fi p c f) k) t Q := kA (a := fi) (k := lcT own p c f) h
theorem tMap {ε : Type} {own : List Nat} {p : Pat} {c : M Bool} {en : δ → D} {em : ε → D} {g : δ → ε} {xs : List δ} {k : RV → M γ} {j : List ε → Rs α} {Q : Po α γ}
    (hX : X = none) (hp : own.all (plG Γ) = true) (step : ∀ x, Tr none (wipeG Γ own) (turnM own p c f (en x)) (.ok (g x)) (J (fun z => some (em z)) fun _ => wipeG Γ own)) (hr : restG Γ (wipeG Γ own) own = Γ) (hk : ∀ z, Tr X Γ (k (.new (eL em z))) (j z) Q) : Tr X Γ (bnd (lcT own p c f (xs.map en)) k) (ob (mapP g xs) j) Q := by
  have h := kFil (X := X) (Γ := Γ) (own := own) (p := p) (c := c) (f := f) (en := en) (em := em) (tc := fun _ => true) (g := g) (fi := Fd.ret (xs.map en)) (xs := xs) (k := k) (j := j) (Q := Q) hX (pmR _) hp (fun x => by
    refine .eq (bnd_ret _).symm ?_
    have s := step x
    exact kBind (o := .ok (g x)) (k := fun z => .ok (some z)) s fun z w ρ ⟨e1, q⟩ => ⟨w, ρ, rfl, e1, q⟩) hr hk
  have e1 : filP (fun _ => true) g xs = mapP g xs := by
    unfold filP mapP
    rw [List.filter_eq_self.mpr (fun _ _ => rfl)]
  rw [e1] at h
  exact h
theorem tFil {ε : Type} {own : List Nat} {p : Pat} {c : M Bool} {en : δ → D} {em : ε → D} {tc : δ → Bool} {g : δ → ε} {xs : List δ} {k : RV → M γ} {j : List ε → Rs α} {Q : Po α γ}
    (hX : X = none) (hp : own.all (plG Γ) = true) (step : ∀ x, Tr none (wipeG Γ own) (turnM own p c f (en x)) (if tc x = true then .ok (some (g x)) else .ok none) (J (fun z => z.map em) fun _ => wipeG Γ own)) (hr : restG Γ (wipeG Γ own) own = Γ) (hk : ∀ z, Tr X Γ (k (.new (eL em z))) (j z) Q) : Tr X Γ (bnd (lcT own p c f (xs.map en)) k) (ob (filP tc g xs) j) Q := kFil hX (pmR _) hp step hr hk
theorem tMpR {ε : Type} {own : List Nat} {p : Pat} {c : M Bool} {en : δ → D} {em : ε → D} {g : δ → Rs ε} {xs : List δ} {k : RV → M γ} {j : List ε → Rs α} {Q : Po α γ}
    (hX : X = none) (hp : own.all (plG Γ) = true) (step : ∀ x, Tr none (wipeG Γ own) (turnM own p c f (en x)) (g x) (J (fun z => some (em z)) fun _ => wipeG Γ own)) (hr : restG Γ (wipeG Γ own) own = Γ) (hk : ∀ z, Tr X Γ (k (.new (eL em z))) (j z) Q) : Tr X Γ (bnd (lcT own p c f (xs.map en)) k) ((mpR g xs).bind j) Q := kMpR hX (pmR _) hp step hr hk
theorem tLcR {ε : Type} {own : List Nat} {p : Pat} {c : M Bool} {en : δ → D} {em : ε → D} {g : δ → Rs (Option ε)} {xs : List δ} {k : RV → M γ} {j : List ε → Rs α} {Q : Po α γ}
    (hX : X = none) (hp : own.all (plG Γ) = true) (step : ∀ x, Tr none (wipeG Γ own) (turnM own p c f (en x)) (g x) (J (fun z => z.map em) fun _ => wipeG Γ own)) (hr : restG Γ (wipeG Γ own) own = Γ) (hk : ∀ z, Tr X Γ (k (.new (eL em z))) (j z) Q) : Tr X Γ (bnd (lcT own p c f (xs.map en)) k) ((lcR g xs).bind j) Q := kLcR hX (pmR _) hp step hr hk
/-- with a state -/
def mpS {ε σ : Type} (g : δ → σ → Rs (ε × σ)) (xs : List δ) (s : σ) : Rs (List ε × σ) := ob (few xs.length) fun _ => mapS g xs s
def lcS {ε σ : Type} (g : δ → σ → Rs (Option ε × σ)) (xs : List δ) (s : σ) : Rs (List ε × σ) := ob (few xs.length) fun _ => fmS g xs s
theorem fmS_mapS {ε σ : Type} (g : δ → σ → Rs (ε × σ)) : ∀ (xs : List δ) (s : σ), fmS (fun x s => (g x s).bind fun y => .ok (some y.1, y.2)) xs s = mapS g xs s
  | [], s => rfl
  | x :: xs, s => by
    unfold fmS mapS
    cases g x s with
    | bad => rfl
    | exc e => rfl
    | ok y =>
      simp only [bind_ok]
      rw [fmS_mapS g xs]
theorem tLcS {ε σ : Type} {own : List Nat} {p : Pat} {c : M Bool} {en : δ → D} {em : ε → D} {g : δ → σ → Rs (Option ε × σ)} {G : σ → Gm} {xs : List δ} {s : σ} {k : RV → M γ} {j : List ε × σ → Rs α} {Q : Po α γ}
    (hX : X = none) (hp : own.all (plG Γ) = true) (w : Wk (wipeG Γ own) (G s)) (step : ∀ x s, Tr none (G s) (turnM own p c f (en x)) (g x s) (J (fun z => z.1.map em) fun z => G z.2)) (hk : ∀ z, Tr X (restG Γ (G z.2) own) (k (.new (eL em z.1))) (j z) Q) : Tr X Γ (bnd (lcT own p c f (xs.map en)) k) ((lcS g xs s).bind j) Q := by
  have h := kLcS (X := X) (Γ := Γ) (own := own) (p := p) (c := c) (f := f) (en := en) (em := em) (g := g) (G := G) (fi := Fd.ret (xs.map en)) (xs := xs) (s := s) (k := k) (j := j) (Q := Q) hX (pmR _) hp w step hk
  have e1 : (lcS g xs s).bind j = ob (few xs.length) fun _ => (fmS g xs s).bind j := by
    unfold lcS
    cases few xs.length <;> rfl
  rw [e1]
  exact h
theorem tMpS {ε σ : Type} {own : List Nat} {p : Pat} {c : M Bool} {en : δ → D} {em : ε → D} {g : δ → σ → Rs (ε × σ)} {G : σ → Gm} {xs : List δ} {s : σ} {k : RV → M γ} {j : List ε × σ → Rs α} {Q : Po α γ}
    (hX : X = none) (hp : own.all (plG Γ) = true) (w : Wk (wipeG Γ own) (G s)) (step : ∀ x s, Tr none (G s) (turnM own p c f (en x)) (g x s) (J (fun z => some (em z.1)) fun z => G z.2)) (hk : ∀ z, Tr X (restG Γ (G z.2) own) (k (.new (eL em z.1))) (j z) Q) : Tr X Γ (bnd (lcT own p c f (xs.map en)) k) ((mpS g xs s).bind j) Q := by
  have h := tLcS (X := X) (Γ := Γ) (own := own) (p := p) (c := c) (f := f) (en := en) (em := em) (g := fun x s => (g x s).bind fun y => .ok (some y.1, y.2)) (G := G) (xs := xs) (s := s) (k := k) (j := j) (Q := Q) hX hp w (fun x s => by
    refine .eq (bnd_ret _).symm (kJoin (step x s) fun z => ?_)
    exact kJ rfl (Wk.refl _)) hk
  have e1 : lcS (fun x s => (g x s).bind fun y => .ok (some y.1, y.2)) xs s = mpS g xs s := by
    unfold lcS mpS
    rw [fmS_mapS]
  rw [e1] at h
  exact h
/-! zip -/
theorem zipL_map {ε ζ : Type} {en : ε → D} {em : ζ → D} : ∀ (xs : List ε) (ys : List ζ), zipL (xs.map en) (ys.map em) = (xs.zip ys).map (e2 en em)
  | [], _ => rfl
  | _ :: _, [] => rfl
  | x :: xs, y :: ys => by
    show PyData.tuple [en x, em y] :: zipL (xs.map en) (ys.map em) = _
    rw [zipL_map xs ys]
    rfl
theorem kIZ {k : List D → M γ} {Q : Po α γ} (h : Tr X Γ (bnd (eS [fa, fb]) fun rs => bnd (fzs rs) fun ds => bnd (opt (zipD ds)) k) t Q) : Tr X Γ (bnd (iZ fa fb) k) t Q := by
  refine .eq (m' := bnd (eS [fa, fb]) fun rs => bnd (fzs rs) fun ds => bnd (opt (zipD ds)) k) ?_ h
  unfold iZ
  rw [bnd_assoc]
  congr 1
  funext r
  rw [bnd_assoc]
theorem zip_LL {ε ζ : Type} {en : ε → D} {em : ζ → D} (xs : List ε) (ys : List ζ) : zipD [eL en xs, eL em ys] = some ((xs.zip ys).map (e2 en em)) := by
  show some (zipL (xs.map en) (ys.map em)) = _
  rw [zipL_map]
theorem zip_TT {ε ζ : Type} {en : ε → D} {em : ζ → D} (xs : List ε) (ys : List ζ) : zipD [eT en xs, eT em ys] = some ((xs.zip ys).map (e2 en em)) := by
  show some (zipL (xs.map en) (ys.map em)) = _
  rw [zipL_map]
theorem kOpt {o : Option (List D)} {k : List D → M γ} {Q : Po α γ} (hi : o = some ds) (hk : Tr X Γ (k ds) t Q) : Tr X Γ (bnd (opt o) k) t Q := kP (v := ds) (fun ρ m => by rw [hi]; rfl) hk
/-! the law -/
theorem law_of {sem : Fn} {z : List Int → Rs Bool} (h : ∀ ns, TF false sem [.sh (eL eI ns)] (z ns) (fun b => (.sh (eB' b), [.sh (eL eI ns)]))) (hz : ∀ ns : List Int, ns.length ≤ 63 → z ns = .ok true) : LawSem 63 sem := fun ns hl _ => by
  have := h ns
  rw [hz ns hl] at this
  exact ⟨_, this.run⟩
end
end Ty
namespace Ty
open PySem Fd
section
variable {α β γ δ : Type} {X : Option Gm} {Γ Δ : Gm} {t : Rs α} {fa fb f : M RV} {r : RV} {d v e : D} {rs : List RV} {ds : List D} {fs : List (M RV)}
theorem tf_run0 {n : Nat} {body : M Fl} {as : List Cell} {g : α → RV × List Cell} {Θ : Rho} (e : as ++ List.replicate (n - as.length) .un = Θ) (hm : Mt Δ Θ) (h : Tr none Δ body t (FE as g)) : TF false (Fd.run n body) as t g := tf_run (x := false) (Δ := Δ) h e hm (fun h => by cases h)
theorem kBad {m : M γ} {Q : Po α γ} : Tr X Γ m (.bad : Rs α) Q := .of fun _ _ => trivial
theorem kForS {fi : M (List D)} {p : Pat} {b : M Fl} {k : Fl → M γ} {Q : Po α γ} (h : Tr X Γ (bnd fi fun ds => bnd (loopD p b ds) k) t Q) : Tr X Γ (bnd (sFor fi p b) k) t Q := kA (a := fi) (k := fun ds => loopD p b ds) h
theorem kSl {op : D → Option Int → Option Int → Option RV} {lo hi : Option (M RV)} {k : RV → M γ} {Q : Po α γ} (h : Tr X Γ (bnd fa fun a => bnd (ePart lo) fun i => bnd (ePart hi) fun j => bnd (ap3 op a i j) k) t Q) : Tr X Γ (bnd (eSl op fa lo hi) k) t Q := by
  refine .eq (m' := bnd fa fun a => bnd (ePart lo) fun i => bnd (ePart hi) fun j => bnd (ap3 op a i j) k) ?_ h
  unfold eSl
  rw [bnd_assoc]
  congr 1
  funext r
  rw [bnd_assoc]
  congr 1
  funext r
  rw [bnd_assoc]
theorem kPart {k : Option Int → M γ} {Q : Po α γ} (h : Tr X Γ (bnd f fun r => bnd (partR r) k) t Q) : Tr X Γ (bnd (ePart (some f)) k) t Q := kA (a := f) (k := partR) h
theorem kRep {k : RV → M γ} {Q : Po α γ} (h : Tr X Γ (bnd fa fun a => bnd fb fun b => bnd (newOnly a) fun _ => bnd (ap2 opRep a b) k) t Q) : Tr X Γ (bnd (eRep fa fb) k) t Q := by
  refine .eq (m' := bnd fa fun a => bnd fb fun b => bnd (newOnly a) fun _ => bnd (ap2 opRep a b) k) ?_ h
  unfold eRep
  rw [bnd_assoc]
  congr 1
  funext r
  rw [bnd_assoc]
  congr 1
  funext r
  rw [bnd_assoc]
theorem kNew {k : Unit → M γ} {Q : Po α γ} (h : Tr X Γ (k ()) t Q) : Tr X Γ (bnd (newOnly (.new d)) k) t Q := h
def pair2 : List δ → Option (δ × δ)
  | [a, b] => some (a, b)
  | _ => none
theorem pair2_ok {e : δ → D} {xs : List δ} : ∀ z, pair2 xs = some z → opTuple [eL e xs] = some (.sh (e2 e e z)) := fun z h => by
  unfold pair2 at h
  split at h
  · cases h; rfl
  · cases h
theorem kGLs2 {e : δ → D} {xs : List δ} {gs : List (RV → M Unit)} {k : Unit → M γ} {Q : Po α γ} {j : δ × δ → Rs α} (hr : fzG Γ r = some (eL e xs, Δ)) (hl : gs.length = 2) (h : ∀ z, Tr X Δ (bnd (gSeq gs [.sh (e z.1), .sh (e z.2)]) k) (j z) Q) : Tr X Γ (bnd (Fd.gLs gs r) k) (ob (pair2 xs) j) Q := by
  unfold pair2
  split
  · rename_i a b
    exact kGLs (ds := [e a, e b]) hr (by rw [hl]; rfl) (h (a, b))
  · exact kBad
theorem isN_O {e : δ → D} (h : ∀ a, isNone (e a) = false) (a : Option δ) : opIsN (eO e a) .none = some (.sh (.bool a.isNone)) := by
  cases a with
  | none => rfl
  | some a => show bl (isNone (e a)) = _; rw [h]; rfl
theorem isNN_O {e : δ → D} (h : ∀ a, isNone (e a) = false) (a : Option δ) : opIsNotN (eO e a) .none = some (.sh (.bool (!a.isNone))) := by
  cases a with
  | none => rfl
  | some a => show bl (!isNone (e a)) = _; rw [h]; rfl
/-- a thing that may be None, taken as one that is not -/
theorem kChO0 {i : Nat} {ch : D → Option (D × D)} {k : RV → M γ} {Q : Po α γ} {d' w : D} (g : Γ[i]? = some (O d)) (h : ch d = some (d', w)) (hk : Tr X (Γ.set i (O d')) (k (.sh w)) t Q) : Tr X Γ (bnd (chg ch (.slot i)) k) t Q :=
  kChO (z := some ()) (j := fun _ => t) (D' := fun _ => d') (V := fun _ => w) g (fun _ _ => h) (fun _ => hk)
def tabIx (kvs : List (Str × Str)) (x : Str) : Option Str := kvs.lookup x
theorem tabIx_ok {kvs : List (Str × Str)} {x : Str} : ∀ z, tabIx kvs x = some z → opTabIx kvs (.str x) = some (.sh (.str z)) := fun z h => by
  show (kvs.lookup x).map _ = _
  rw [show kvs.lookup x = some z from h]
  rfl
end
end Ty
namespace Ty
open PySem Fd
section
variable {α β γ δ : Type} {X : Option Gm} {Γ Δ : Gm} {t : Rs α}
theorem kLetG {a : δ} {G : δ → Gm} {j : δ → Rs α} {m : M γ} {Q : Po α γ} (e : Γ = G a) (hk : ∀ a, Tr X (G a) m (j a) Q) : Tr X Γ m ((Rs.ok a).bind j) Q := by
  subst e
  exact hk a
theorem shAll [DecidableEq δ] {e : δ → D} {k : Nat} (h : En e k) (hk : k ≤ 63) (xs : List δ) : SeqAt.shaped (.list (xs.map e)) = true := (En.list h).sh (by omega) xs
theorem in_en [DecidableEq δ] {e : δ → D} {k : Nat} (h : En e k) (hk : k ≤ 63) (a : δ) (xs : List δ) : opIn (e a) (eL e xs) = some (.sh (.bool (decide (a ∈ xs)))) := by
  have s1 := h.sh (by omega) a
  have s2 := shAll h hk xs
  have g : opIn (e a) (.list (xs.map e)) = if (flatD (e a) && (xs.map e).all flatD) = true then bl (memD (e a) (xs.map e)) else if (SeqAt.shaped (e a) && SeqAt.shaped (.list (xs.map e))) = true then bl (memD (e a) (xs.map e)) else none := by
    cases e a <;> rfl
  rw [g, s1, s2, memD_map h]
  split <;> rfl
theorem nin_en [DecidableEq δ] {e : δ → D} {k : Nat} (h : En e k) (hk : k ≤ 63) (a : δ) (xs : List δ) : opNotIn (e a) (eL e xs) = some (.sh (.bool (!decide (a ∈ xs)))) := by
  have s1 := h.sh (by omega) a
  have s2 := shAll h hk xs
  have g : opNotIn (e a) (.list (xs.map e)) = if (flatD (e a) && (xs.map e).all flatD) = true then bl (!memD (e a) (xs.map e)) else if (SeqAt.shaped (e a) && SeqAt.shaped (.list (xs.map e))) = true then bl (!memD (e a) (xs.map e)) else none := by
    cases e a <;> rfl
  rw [g, s1, s2, memD_map h]
  split <;> rfl
/-! dicts -/
structure Ky {α : Type} [DecidableEq α] (e : α → D) : Prop where
  some_ : ∀ a, (kd (e a)).isSome = true
  inj : ∀ a b, kd (e a) = kd (e b) → a = b
  like : ∀ (kvs : List (D × D)) (a : α), (∀ p ∈ kvs, ∃ b, p.1 = e b) → alike kvs (e a) = true
theorem Ky.int : Ky eI := ⟨fun _ => rfl, fun a b h => Ma.kd_int.mp h, fun kvs a h => Ma.IntKeys.alike (fun p hp => h p hp) a⟩
def getK [DecidableEq δ] {ε : Type} (kvs : List (δ × ε)) (k : δ) : Option ε := (kvs.find? fun p => decide (p.1 = k)).map (·.2)
def hasK [DecidableEq δ] {ε : Type} (k : δ) (kvs : List (δ × ε)) : Bool := (getK kvs k).isSome
def setK [DecidableEq δ] {ε : Type} (kvs : List (δ × ε)) (k : δ) (v : ε) : List (δ × ε) := if (kvs.any fun p => decide (p.1 = k)) = true then kvs.map (fun p => if p.1 = k then (p.1, v) else p) else kvs ++ [(k, v)]
def putK [DecidableEq δ] {ε : Type} (kvs : List (δ × ε)) (k : δ) (v : ε) : Option (List (δ × ε)) := if kvs.length < 16777216 then some (setK kvs k v) else none
theorem Ky.iff [DecidableEq δ] {e : δ → D} (h : Ky e) (a b : δ) : kd (e a) = kd (e b) ↔ a = b := ⟨h.inj a b, fun h => by rw [h]⟩
theorem getD_map [DecidableEq δ] {ε : Type} {e : δ → D} {f : ε → D} (h : Ky e) (kvs : List (δ × ε)) (k : δ) : getD (kvs.map fun p => (e p.1, f p.2)) (e k) = (getK kvs k).map f := by
  unfold getD getK
  induction kvs with
  | nil => rfl
  | cons p kvs ih =>
    rw [List.map_cons, List.find?_cons, List.find?_cons]
    by_cases c : p.1 = k
    · have c' : kd (e p.1) = kd (e k) := by rw [c]
      simp [c]
    · have c' : ¬ kd (e p.1) = kd (e k) := fun x => c (h.inj _ _ x)
      simp only [c, c', decide_false]
      exact ih
theorem alike_map [DecidableEq δ] {ε : Type} {e : δ → D} {f : ε → D} (h : Ky e) (kvs : List (δ × ε)) (k : δ) : alike (kvs.map fun p => (e p.1, f p.2)) (e k) = true := h.like _ _ fun p hp => by
  obtain ⟨q, _, rfl⟩ := List.mem_map.mp hp
  exact ⟨q.1, rfl⟩
theorem opIx_dict (kvs : List (D × D)) (k : D) : opIx (.dict kvs) k = if ((kd k).isSome && alike kvs k) = true then (getD kvs k).map .sh else none := by cases k <;> rfl
theorem getK_ok [DecidableEq δ] {ε : Type} {e : δ → D} {f : ε → D} (h : Ky e) {kvs : List (δ × ε)} {k : δ} : ∀ z, getK kvs k = some z → opIx (eK e f kvs) (e k) = some (.sh (f z)) := fun z hz => by
  rw [opIx_dict, h.some_, alike_map h, getD_map h, hz]
  rfl
def getO [DecidableEq δ] {ε : Type} (kvs : List (δ × ε)) (k : δ) (x : ε) : ε := (getK kvs k).getD x
theorem getO_ok [DecidableEq δ] {ε : Type} {e : δ → D} {f : ε → D} (h : Ky e) (fl : ∀ x, flatD (f x) = true) {kvs : List (δ × ε)} {k : δ} {x : ε} : opDGet [eK e f kvs, e k, f x] = some (.sh (f (getO kvs k x))) := by
  show (if (((kd (e k)).isSome && alike (kvs.map fun p => (e p.1, f p.2)) (e k)) && flatD (f x)) = true then some (RV.sh ((getD (kvs.map fun p => (e p.1, f p.2)) (e k)).getD (f x))) else none) = _
  rw [h.some_, alike_map h, fl, getD_map h, if_pos (by rfl)]
  unfold getO
  cases getK kvs k <;> rfl
theorem opIn_dict {kvs : List (D × D)} {k : D} (h : (kd k).isSome = true) : opIn k (.dict kvs) = if ((kd k).isSome && alike kvs k) = true then bl (getD kvs k).isSome else none := by
  cases k <;> first | rfl | (simp [kd, key1] at h)
theorem opNotIn_dict {kvs : List (D × D)} {k : D} (h : (kd k).isSome = true) : opNotIn k (.dict kvs) = if ((kd k).isSome && alike kvs k) = true then bl (!(getD kvs k).isSome) else none := by
  cases k <;> first | rfl | (simp [kd, key1] at h)
theorem in_K [DecidableEq δ] {ε : Type} {e : δ → D} {f : ε → D} (h : Ky e) (k : δ) (kvs : List (δ × ε)) : opIn (e k) (eK e f kvs) = some (.sh (.bool (hasK k kvs))) := by
  rw [opIn_dict (h.some_ k), h.some_, alike_map h, getD_map h]
  unfold hasK
  cases getK kvs k <;> rfl
theorem nin_K [DecidableEq δ] {ε : Type} {e : δ → D} {f : ε → D} (h : Ky e) (k : δ) (kvs : List (δ × ε)) : opNotIn (e k) (eK e f kvs) = some (.sh (.bool (!hasK k kvs))) := by
  rw [opNotIn_dict (h.some_ k), h.some_, alike_map h, getD_map h]
  unfold hasK
  cases getK kvs k <;> rfl
theorem putD_map [DecidableEq δ] {ε : Type} {e : δ → D} {f : ε → D} (h : Ky e) (kvs : List (δ × ε)) (k : δ) (v : ε) : putD (kvs.map fun p => (e p.1, f p.2)) (e k) (f v) = (setK kvs k v).map fun p => (e p.1, f p.2) := by
  have a : ((kvs.map fun p => (e p.1, f p.2)).any fun p => decide (kd p.1 = kd (e k))) = kvs.any fun p => decide (p.1 = k) := by
    rw [List.any_map]
    congr 1
    funext p
    simp only [Function.comp, h.iff]
  unfold putD setK
  rw [a]
  split
  · rw [List.map_map, List.map_map]
    refine List.map_congr_left fun p _ => ?_
    simp only [Function.comp, h.iff]
    split <;> rfl
  · rw [List.map_append]
    rfl
theorem putK_ok [DecidableEq δ] {ε : Type} {e : δ → D} {f : ε → D} (h : Ky e) {kvs : List (δ × ε)} {k : δ} {v : ε} : ∀ z, putK kvs k v = some z → putIx (e k) (f v) (eK e f kvs) = some (eK e f z) := fun z hz => by
  unfold putK at hz
  split at hz
  · cases hz
    show (if (decide ((kvs.map fun p => (e p.1, f p.2)).length < 16777216) && alike (kvs.map fun p => (e p.1, f p.2)) (e k)) = true then some (PyData.dict (putD (kvs.map fun p => (e p.1, f p.2)) (e k) (f v))) else none) = _
    rw [List.length_map, alike_map h, decide_eq_true ‹_›, putD_map h]
    rfl
  · cases hz
/-! data of any kind -/
def is_int : D → Bool
  | .int _ => true
  | .bool _ => true
  | _ => false
def is_bool : D → Bool
  | .bool _ => true
  | _ => false
def is_str : D → Bool
  | .str _ => true
  | _ => false
def is_list : D → Bool
  | .list _ => true
  | _ => false
def is_tuple : D → Bool
  | .tuple _ => true
  | _ => false
def is_dict : D → Bool
  | .dict _ => true
  | _ => false
theorem is_int_ok (d : D) : opIsInt d = some (.sh (.bool (is_int d))) := by cases d <;> rfl
theorem is_bool_ok (d : D) : opIsBool d = some (.sh (.bool (is_bool d))) := by cases d <;> rfl
theorem is_str_ok (d : D) : opIsStr d = some (.sh (.bool (is_str d))) := by cases d <;> rfl
theorem is_list_ok (d : D) : opIsList d = some (.sh (.bool (is_list d))) := by cases d <;> rfl
theorem is_tuple_ok (d : D) : opIsTuple d = some (.sh (.bool (is_tuple d))) := by cases d <;> rfl
theorem is_dict_ok (d : D) : opIsDict d = some (.sh (.bool (is_dict d))) := by cases d <;> rfl
end
end Ty
namespace Ty
open PySem Fd
section
variable {α β γ δ : Type} {X : Option Gm} {Γ Δ : Gm} {t : Rs α}
theorem eqv_none (d : D) : PyData.eqv .none d = isNone d := by cases d <;> rfl
theorem eqv_none' (d : D) : PyData.eqv d .none = isNone d := by cases d <;> rfl
theorem eqv_eO [DecidableEq δ] {e : δ → D} (h : ∀ a b, PyData.eqv (e a) (e b) = decide (a = b)) (hn : ∀ a, isNone (e a) = false) : ∀ a b : Option δ, PyData.eqv (eO e a) (eO e b) = decide (a = b)
  | none, none => rfl
  | none, some b => by show PyData.eqv .none (e b) = _; rw [eqv_none, hn]; simp
  | some a, none => by show PyData.eqv (e a) .none = _; rw [eqv_none', hn]; simp
  | some a, some b => by show PyData.eqv (e a) (e b) = _; rw [h]; simp
theorem En.opt [DecidableEq δ] {e : δ → D} {k : Nat} (h : En e k) (hn : ∀ a, isNone (e a) = false) : En (eO e) k := ⟨fun a => by cases a with | none => rfl | some a => exact h.lay a, fun a => by cases a with | none => exact Nat.zero_le _ | some a => exact h.dep a, eqv_eO h.eq hn⟩
theorem Eq'.opt [DecidableEq δ] {e : δ → D} (h : Eq' e) (hn : ∀ a, isNone (e a) = false) : Eq' (eO e) := ⟨eqv_eO h.eq hn⟩
theorem kSm {e : δ → D} {x : Option δ} {m : M γ} {j : δ → Rs α} {Q : Po α γ} (h : ∀ y, x = some y → Tr X Γ m (j y) Q) : Tr X Γ m (ob x j) Q := by
  cases x with
  | none => exact kBad
  | some y => exact h y rfl
end
end Ty
namespace Ty
open PySem Fd
def sortP {δ : Type} (e : δ → D) (xs : List δ) : Option (List δ) := if sortOk (xs.map e) = true then some (sortT e xs) else none
theorem sortP_ok {δ : Type} {e : δ → D} {xs : List δ} : ∀ z, sortP e xs = some z → opSorted [eL e xs] = some (.new (eL e z)) := fun z h => by
  unfold sortP at h
  split at h
  · cases h
    show (if sortOk (xs.map e) = true then some (RV.new (.list ((xs.map e).mergeSort leD))) else none) = _
    rw [if_pos ‹_›]
    congr 3
    exact (List.map_mergeSort (r := fun a b => leD (e a) (e b)) (s := leD) (f := e) fun _ _ _ _ => rfl).symm
  · cases h
end Ty
namespace Ty
open PySem Fd
theorem maxP_ok (p : Int × Int) : opMax [e2 eI eI p] = some (.sh (.int (maxI2 p.1 p.2))) := rfl
theorem minP_ok (p : Int × Int) : opMin [e2 eI eI p] = some (.sh (.int (minI2 p.1 p.2))) := rfl
end Ty
/-! Ty: comprehensions of dicts. -/
namespace Ty
open PySem Fd
/-- key and value as a pair -/
def kv (k f : M RV) : M RV := bnd k fun rk => bnd (fz rk) fun kx => bnd f fun r => bnd (fz r) fun x => Fd.ret (.new (.tuple [kx, x]))
def foldK : List D → List (D × D) → Option (List (D × D))
  | [], acc => some acc
  | .tuple [k, v] :: ps, acc => if isK k = true then foldK ps (putD acc k v) else none
  | _ :: _, _ => none
theorem foldK_app (kx x : D) : ∀ (ps : List D) (acc : List (D × D)), foldK (ps ++ [.tuple [kx, x]]) acc = (foldK ps acc).bind fun a => if isK kx = true then some (putD a kx x) else none
  | [], acc => rfl
  | d :: ps, acc => by
    have ih := foldK_app kx x ps
    cases d with
    | tuple ds =>
      match ds with
      | [] => rfl
      | [_] => rfl
      | [k, v] =>
        show (if isK k = true then foldK (ps ++ [.tuple [kx, x]]) (putD acc k v) else none) = (if isK k = true then foldK ps (putD acc k v) else none).bind _
        split
        · exact ih _
        · rfl
      | _ :: _ :: _ :: _ => rfl
    | none => rfl
    | bool b => rfl
    | int i => rfl
    | str s => rfl
    | list l => rfl
    | dict l => rfl
theorem fz_new {d : D} (ρ : Rho) : fz (.new d) ρ = some (.val d, ρ) := rfl
theorem dc_of_lc {own : List Nat} {p : Pat} {t : M Bool} {k f : M RV} {ps : List D} {r : List (D × D)} {ρ' : Rho} (hr : foldK ps [] = some r) : ∀ (ds : List D) (pacc : List D) (ρ : Rho), lcD own p t (kv k f) ds pacc ρ = some (.val ps, ρ') → ∃ acc, foldK pacc [] = some acc ∧ dcD own p t k f ds acc ρ = some (.val r, ρ')
  | [], pacc, ρ, h => by
    have h : some (Out.val pacc, ρ) = some (.val ps, ρ') := h
    cases h
    exact ⟨r, hr, rfl⟩
  | d :: ds, pacc, ρ, h => by
    have h : bnd (patM p d) (fun _ => bnd t fun b => if b then bnd (kv k f) fun r => bnd (fz r) fun x => bnd (wipeM own) fun _ => lcD own p t (kv k f) ds (pacc ++ [x]) else bnd (wipeM own) fun _ => lcD own p t (kv k f) ds pacc) ρ = some (.val ps, ρ') := h
    rw [bnd_ap] at h
    cases e1 : patM p d ρ with
    | none => rw [e1] at h; cases h
    | some z =>
      obtain ⟨o, ρ1⟩ := z
      rw [e1] at h
      cases o with
      | exc x => cases h
      | val u =>
        have h : bnd t (fun b => if b then bnd (kv k f) fun r => bnd (fz r) fun x => bnd (wipeM own) fun _ => lcD own p t (kv k f) ds (pacc ++ [x]) else bnd (wipeM own) fun _ => lcD own p t (kv k f) ds pacc) ρ1 = some (.val ps, ρ') := h
        rw [bnd_ap] at h
        cases e2 : t ρ1 with
        | none => rw [e2] at h; cases h
        | some z =>
          obtain ⟨o, ρ2⟩ := z
          rw [e2] at h
          cases o with
          | exc x => cases h
          | val b =>
            cases b with
            | false =>
              have h : bnd (wipeM own) (fun _ => lcD own p t (kv k f) ds pacc) ρ2 = some (.val ps, ρ') := h
              rw [bnd_ap] at h
              cases e3 : wipeM own ρ2 with
              | none => rw [e3] at h; cases h
              | some z =>
                obtain ⟨o, ρ3⟩ := z
                rw [e3] at h
                cases o with
                | exc x => cases h
                | val u =>
                  obtain ⟨acc, a1, a2⟩ := dc_of_lc hr ds pacc ρ3 h
                  refine ⟨acc, a1, ?_⟩
                  show bnd (patM p d) (fun _ => bnd t fun b => if b then _ else bnd (wipeM own) fun _ => dcD own p t k f ds acc) ρ = _
                  rw [bnd_ap, e1]
                  show bnd t _ ρ1 = _
                  rw [bnd_ap, e2]
                  show bnd (wipeM own) _ ρ2 = _
                  rw [bnd_ap, e3]
                  exact a2
            | true =>
              have h : bnd (kv k f) (fun r => bnd (fz r) fun x => bnd (wipeM own) fun _ => lcD own p t (kv k f) ds (pacc ++ [x])) ρ2 = some (.val ps, ρ') := h
              rw [bnd_ap] at h
              cases e3 : kv k f ρ2 with
              | none => rw [e3] at h; cases h
              | some z =>
                obtain ⟨o, ρ6⟩ := z
                rw [e3] at h
                cases o with
                | exc x => cases h
                | val rr =>
                  -- the parts of the pair
                  unfold kv at e3
                  rw [bnd_ap] at e3
                  cases f1 : k ρ2 with
                  | none => rw [f1] at e3; cases e3
                  | some z =>
                    obtain ⟨o, ρ3⟩ := z
                    rw [f1] at e3
                    cases o with
                    | exc x => cases e3
                    | val rk =>
                      have e3 : bnd (fz rk) (fun kx => bnd f fun r => bnd (fz r) fun x => Fd.ret (.new (.tuple [kx, x]))) ρ3 = some (.val rr, ρ6) := e3
                      rw [bnd_ap] at e3
                      cases f2 : fz rk ρ3 with
                      | none => rw [f2] at e3; cases e3
                      | some z =>
                        obtain ⟨o, ρ4⟩ := z
                        rw [f2] at e3
                        cases o with
                        | exc x => cases e3
                        | val kx =>
                          have e3 : bnd f (fun r => bnd (fz r) fun x => Fd.ret (.new (.tuple [kx, x]))) ρ4 = some (.val rr, ρ6) := e3
                          rw [bnd_ap] at e3
                          cases f3 : f ρ4 with
                          | none => rw [f3] at e3; cases e3
                          | some z =>
                            obtain ⟨o, ρ5⟩ := z
                            rw [f3] at e3
                            cases o with
                            | exc x => cases e3
                            | val rv =>
                              have e3 : bnd (fz rv) (fun x => Fd.ret (.new (.tuple [kx, x]))) ρ5 = some (.val rr, ρ6) := e3
                              rw [bnd_ap] at e3
                              cases f4 : fz rv ρ5 with
                              | none => rw [f4] at e3; cases e3
                              | some z =>
                                obtain ⟨o, ρ6'⟩ := z
                                rw [f4] at e3
                                cases o with
                                | exc x => cases e3
                                | val xv =>
                                  have e3 : some (Out.val (RV.new (.tuple [kx, xv])), ρ6') = some (.val rr, ρ6) := e3
                                  cases e3
                                  have h : bnd (wipeM own) (fun _ => lcD own p t (kv k f) ds (pacc ++ [.tuple [kx, xv]])) ρ6 = some (.val ps, ρ') := h
                                  rw [bnd_ap] at h
                                  cases e5 : wipeM own ρ6 with
                                  | none => rw [e5] at h; cases h
                                  | some z =>
                                    obtain ⟨o, ρ7⟩ := z
                                    rw [e5] at h
                                    cases o with
                                    | exc x => cases h
                                    | val u =>
                                      obtain ⟨acc, a1, a2⟩ := dc_of_lc hr ds (pacc ++ [.tuple [kx, xv]]) ρ7 h
                                      rw [foldK_app] at a1
                                      cases g : foldK pacc [] with
                                      | none => rw [g] at a1; cases a1
                                      | some acc0 =>
                                        rw [g] at a1
                                        have a1 : (if isK kx = true then some (putD acc0 kx xv) else none) = some acc := a1
                                        by_cases hk : isK kx = true
                                        · rw [if_pos hk] at a1
                                          cases a1
                                          refine ⟨acc0, rfl, ?_⟩
                                          show bnd (patM p d) (fun _ => bnd t fun b => if b then bnd k fun rk => bnd (fz rk) fun kx => bnd f fun r => bnd (fz r) fun x => if isK kx = true then bnd (wipeM own) fun _ => dcD own p t k f ds (putD acc0 kx x) else stk else _) ρ = _
                                          rw [bnd_ap, e1]
                                          show bnd t _ ρ1 = _
                                          rw [bnd_ap, e2]
                                          show bnd k _ ρ2 = _
                                          rw [bnd_ap, f1]
                                          show bnd (fz rk) _ ρ3 = _
                                          rw [bnd_ap, f2]
                                          show bnd f _ ρ4 = _
                                          rw [bnd_ap, f3]
                                          show bnd (fz rv) _ ρ5 = _
                                          rw [bnd_ap, f4]
                                          show (if isK kx = true then bnd (wipeM own) (fun _ => dcD own p t k f ds (putD acc0 kx xv)) else stk) ρ6 = _
                                          rw [if_pos hk, bnd_ap, e5]
                                          exact a2
                                        · rw [if_neg hk] at a1
                                          cases a1
/-- a list of pairs as a dict -/
def toDk : RV → M RV
  | .new (.list ps) => match foldK ps [] with
    | some kvs => Fd.ret (.new (.dict kvs))
    | none => stk
  | _ => stk
theorem eDc_of {own : List Nat} {fi : M (List D)} {p : Pat} {t : M Bool} {k f : M RV} {ρ ρ' : Rho} {z : RV} (h : bnd (eLc own fi p t (kv k f)) toDk ρ = some (.val z, ρ')) : eDc own fi p t k f ρ = some (.val z, ρ') := by
  rw [bnd_ap] at h
  unfold eLc at h
  rw [bnd_ap] at h
  unfold eDc
  rw [bnd_ap]
  cases e1 : fi ρ with
  | none => rw [e1] at h; cases h
  | some w =>
    obtain ⟨o, ρ1⟩ := w
    rw [e1] at h
    cases o with
    | exc x => cases h
    | val ds =>
      dsimp only at h ⊢
      by_cases hl : ds.length ≤ 16777216
      · rw [if_pos hl] at h ⊢
        rw [bnd_ap] at h ⊢
        cases e2 : wipeM own ρ1 with
        | none => rw [e2] at h; cases h
        | some w =>
          obtain ⟨o, ρ2⟩ := w
          rw [e2] at h
          cases o with
          | exc x => cases h
          | val u =>
            dsimp only at h ⊢
            unfold noX at h ⊢
            cases e3 : lcD own p t (kv k f) ds [] ρ2 with
            | none => rw [e3] at h; cases h
            | some w =>
              obtain ⟨o, ρ3⟩ := w
              rw [e3] at h
              cases o with
              | exc x => cases h
              | val ps =>
                dsimp only at h
                unfold toDk at h
                dsimp only at h
                cases e4 : foldK ps [] with
                | none => rw [e4] at h; cases h
                | some r =>
                  rw [e4] at h
                  have h : some (Out.val (RV.new (.dict r)), restR ρ1 ρ3 own) = some (.val z, ρ') := h
                  cases h
                  obtain ⟨acc, a1, a2⟩ := dc_of_lc e4 ds [] ρ2 e3
                  have : acc = [] := (Option.some.inj a1).symm
                  subst this
                  rw [a2]
      · rw [if_neg hl] at h
        cases h
section
variable {α β γ δ : Type} {X : Option Gm} {Γ : Gm} {t : Rs α}
theorem kDc {own : List Nat} {fi : M (List D)} {p : Pat} {c : M Bool} {k f : M RV} {K : RV → M γ} {Q : Po α γ} (hX : X = none) (h : Tr X Γ (bnd (eLc own fi p c (kv k f)) fun r => bnd (toDk r) K) t Q) : Tr X Γ (bnd (eDc own fi p c k f) K) t Q := .of fun ρ m => by
  subst hX
  have h := h ρ m
  cases t with
  | bad => trivial
  | exc e => trivial
  | ok a =>
    obtain ⟨v, ρ', e, q⟩ := h
    refine ⟨v, ρ', ?_, q⟩
    rw [← bnd_assoc, bnd_ap] at e
    rw [bnd_ap]
    cases e1 : bnd (eLc own fi p c (kv k f)) toDk ρ with
    | none => rw [e1] at e; cases e
    | some z =>
      obtain ⟨o, ρ1⟩ := z
      rw [e1] at e
      cases o with
      | exc x => cases e
      | val z =>
        rw [eDc_of e1]
        exact e
def mkK [DecidableEq δ] {ε : Type} (z : List (δ × ε)) : List (δ × ε) := z.foldl (fun a p => setK a p.1 p.2) []
theorem foldK_map [DecidableEq δ] {ε : Type} {e : δ → D} {f : ε → D} (h : Ky e) (hk : ∀ a, isK (e a) = true) : ∀ (z acc : List (δ × ε)), foldK (z.map (e2 e f)) (acc.map fun p => (e p.1, f p.2)) = some ((z.foldl (fun a p => setK a p.1 p.2) acc).map fun p => (e p.1, f p.2))
  | [], acc => rfl
  | p :: z, acc => by
    show (if isK (e p.1) = true then foldK (z.map (e2 e f)) (putD (acc.map fun p => (e p.1, f p.2)) (e p.1) (f p.2)) else none) = _
    rw [if_pos (hk p.1), putD_map h]
    exact foldK_map h hk z _
theorem kDk [DecidableEq δ] {ε : Type} {e : δ → D} {f : ε → D} {z : List (δ × ε)} {K : RV → M γ} {Q : Po α γ} (h : Ky e) (hk : ∀ a, isK (e a) = true) (q : Tr X Γ (K (.new (eK e f (mkK z)))) t Q) : Tr X Γ (bnd (toDk (.new (.list (z.map (e2 e f))))) K) t Q := by
  refine kP (v := .new (eK e f (mkK z))) (fun ρ _ => ?_) q
  have := foldK_map h hk (f := f) z []
  show (match foldK (z.map (e2 e f)) [] with
    | some kvs => Fd.ret (.new (.dict kvs))
    | none => stk : M RV) ρ = _
  rw [show foldK (z.map (e2 e f)) [] = _ from this]
  rfl
theorem pmKv {k f : M RV} {kd vd : D} (p : PM Γ k (.sh kd)) (q : PM Γ f (.sh vd)) : PM Γ (kv k f) (.new (.tuple [kd, vd])) := pmBnd p (pmBnd (pmR _) (pmBnd q (pmBnd (pmR _) (pmR _))))
theorem kKv {k f : M RV} {K : RV → M γ} {Q : Po α γ} (h : Tr X Γ (bnd k fun rk => bnd (fz rk) fun kx => bnd f fun r => bnd (fz r) fun x => K (.new (.tuple [kx, x]))) t Q) : Tr X Γ (bnd (kv k f) K) t Q := by
  have e : bnd (kv k f) K = bnd k fun rk => bnd (fz rk) fun kx => bnd f fun r => bnd (fz r) fun x => K (.new (.tuple [kx, x])) := by
    unfold kv
    rw [bnd_assoc]
    congr 1; funext rk
    rw [bnd_assoc]
    congr 1; funext kx
    rw [bnd_assoc]
    congr 1; funext r
    rw [bnd_assoc]
    rfl
  rw [e]
  exact h
/-! list(range(..)) -/
def lr1 (b : Int) : Option (List Int) := if -16777216 ≤ b ∧ b ≤ 16777216 then some (rangeL 0 b.toNat) else none
def lr2 (a b : Int) : Option (List Int) := if (-8000000 ≤ a ∧ a ≤ 8000000) ∧ (-8000000 ≤ b ∧ b ≤ 8000000) then some (rangeL a (b - a).toNat) else none
theorem lr_map (a b : Int) : lrD a b = (rangeL a (b - a).toNat).map eI := by
  unfold lrD rangeL
  rw [List.map_map]
  rfl
theorem lr1_ok {b : Int} : ∀ z, lr1 b = some z → opLR1 [.int b] = some (.new (eL eI z)) := fun z h => by
  unfold lr1 at h
  split at h
  · cases h
    show (if -16777216 ≤ b ∧ b ≤ 16777216 then some (RV.new (.list (lrD 0 b))) else none) = _
    rw [if_pos ‹_›, lr_map, show b - 0 = b by omega]
  · cases h
theorem lr2_ok {a b : Int} : ∀ z, lr2 a b = some z → opLR2 [.int a, .int b] = some (.new (eL eI z)) := fun z h => by
  unfold lr2 at h
  split at h
  · cases h
    show (if (-8000000 ≤ a ∧ a ≤ 8000000) ∧ (-8000000 ≤ b ∧ b ≤ 8000000) then some (RV.new (.list (lrD a b))) else none) = _
    rw [if_pos ‹_›, lr_map]
  · cases h
/-! o[i] += e -/
theorem kAugS {get op : D → D → Option RV} {ch : D → D → D → Option D} {fo fi f : M RV} {k : Fl → M γ} {Q : Po α γ} (h : Tr X Γ (bnd fo fun o => bnd fi fun ix => bnd (ap2 get o ix) fun x => bnd (shOnly x) fun _ => bnd f fun y => bnd (ap2 op x y) fun z => bnd (fzs [z, ix]) fun ds => bnd (put2 ch o ds) fun _ => k .nx) t Q) : Tr X Γ (bnd (sAugS get op ch fo fi f) k) t Q := by
  have e : bnd (sAugS get op ch fo fi f) k = bnd fo fun o => bnd fi fun ix => bnd (ap2 get o ix) fun x => bnd (shOnly x) fun _ => bnd f fun y => bnd (ap2 op x y) fun z => bnd (fzs [z, ix]) fun ds => bnd (put2 ch o ds) fun _ => k .nx := by
    unfold sAugS
    rw [bnd_assoc]; congr 1; funext o
    rw [bnd_assoc]; congr 1; funext ix
    rw [bnd_assoc]; congr 1; funext x
    rw [bnd_assoc]; congr 1; funext _
    rw [bnd_assoc]; congr 1; funext y
    rw [bnd_assoc]; congr 1; funext z
    rw [bnd_assoc]; congr 1; funext ds
    rw [bnd_assoc]
    rfl
  rw [e]
  exact h
theorem ixLo_ok {e : δ → D} {xs : List δ} {i : Int} : ∀ z, ixL xs i = some z → opIxL (eL e xs) (.int i) = some (.sh (e z)) := fun z h => by
  show (L2.atI (xs.map e) i).map RV.sh = _
  have q : L2.atI (xs.map e) i = (L2.atI xs i).map e := by
    unfold L2.atI
    rw [List.length_map]
    cases L2.ixN xs.length i with
    | none => rfl
    | some j => simp
  rw [q, show L2.atI xs i = some z from h]
  rfl
/-! dict(d) -/
def dctK {ε : Type} (kvs : List (δ × ε)) : Option (List (δ × ε)) := if kvs.isEmpty = true then none else some kvs
theorem dctK_ok {ε : Type} {e : δ → D} {f : ε → D} (hk : ∀ a, isK (e a) = true) {kvs : List (δ × ε)} : ∀ z, dctK kvs = some z → opDict [eK e f kvs] = some (.new (eK e f z)) := fun z h => by
  cases kvs with
  | nil => cases h
  | cons p kvs =>
    cases h
    show (if isK (e p.1) = true then some (RV.new (.dict _)) else none) = _
    rw [if_pos (hk p.1)]
    rfl
end
/-! sorted(set(l)) -/
def ssetI (xs : List Int) : Option (List Int) := if xs.length < 64 then some (sortD xs) else none
theorem sset_ok {xs : List Int} : ∀ z, ssetI xs = some z → opSSet [eL eI xs] = some (.new (eL eI z)) := fun z h => by
  unfold ssetI at h
  split at h
  · cases h
    show (match intsD (xs.map PyData.int) with
      | some ns => if ns.length < 64 then some (RV.new (.list ((sortD ns).map PyData.int))) else none
      | none => none) = _
    rw [intsD_map]
    dsimp only
    rw [if_pos ‹_›]
  · cases h
/-! a value frozen at once -/
theorem kFzE {α γ : Type} {X : Option Gm} {Γ : Gm} {t : Rs α} {f : M RV} {k : RV → M γ} {Q : Po α γ} (h : Tr X Γ (bnd f fun r => bnd (fz r) fun d => k (.sh d)) t Q) : Tr X Γ (bnd (eFz f) k) t Q := by
  have e : bnd (eFz f) k = bnd f fun r => bnd (fz r) fun d => k (.sh d) := by
    unfold eFz
    rw [bnd_assoc]; congr 1; funext r
    rw [bnd_assoc]
    rfl
  rw [e]
  exact h
end Ty
/-! Ty, part 6: plain facts for typed programs. -/
namespace Ty
open PySem Fd
section
variable {α β σ ρ : Type}
theorem foldR_ind {f : α → σ → Rs σ} (Inv : Nat → σ → Prop) : ∀ (xs : List α) (i : Nat) (s : σ), Inv i s → (∀ (j : Nat) (x : α) (s : σ), xs[j]? = some x → Inv (i + j) s → ∃ s', f x s = .ok s' ∧ Inv (i + j + 1) s') → ∃ s', foldR f xs s = .ok s' ∧ Inv (i + xs.length) s'
  | [], i, s, h, _ => ⟨s, rfl, h⟩
  | x :: xs, i, s, h, stp => by
    obtain ⟨s1, e1, h1⟩ := stp 0 x s rfl h
    obtain ⟨s2, e2, h2⟩ := foldR_ind Inv xs (i + 1) s1 h1 fun j y t hj ht => by
      have := stp (j + 1) y t (by rw [List.getElem?_cons_succ]; exact hj) (by rw [show i + (j + 1) = i + 1 + j by omega]; exact ht)
      rw [show i + (j + 1) + 1 = i + 1 + j + 1 by omega] at this
      exact this
    refine ⟨s2, ?_, by rw [List.length_cons, show i + (xs.length + 1) = i + 1 + xs.length by omega]; exact h2⟩
    show (f x s).bind (foldR f xs) = _
    rw [e1]
    exact e2
theorem foldR_inv {f : α → σ → Rs σ} (Inv : Nat → σ → Prop) {xs : List α} {s : σ} (h : Inv 0 s) (stp : ∀ (j : Nat) (x : α) (s : σ), xs[j]? = some x → Inv j s → ∃ s', f x s = .ok s' ∧ Inv (j + 1) s') : ∃ s', foldR f xs s = .ok s' ∧ Inv xs.length s' := by
  have := foldR_ind (f := f) Inv xs 0 s h fun j x t hj ht => by
    rw [Nat.zero_add] at ht ⊢
    exact stp j x t hj ht
  rwa [Nat.zero_add] at this
/-- a fold whose steps are plain -/
theorem foldR_ok {f : α → σ → Rs σ} {g : σ → α → σ} : ∀ (xs : List α) (s : σ), (∀ x ∈ xs, ∀ s, f x s = .ok (g s x)) → foldR f xs s = .ok (xs.foldl g s)
  | [], s, _ => rfl
  | x :: xs, s, h => by
    show (f x s).bind (foldR f xs) = _
    rw [h x List.mem_cons_self s]
    exact foldR_ok xs _ fun y hy s => h y (List.mem_cons_of_mem _ hy) s
theorem forR_ind {f : α → σ → Rs (Bo σ ρ)} (Inv : Nat → σ → Prop) : ∀ (xs : List α) (i : Nat) (s : σ), Inv i s → (∀ (j : Nat) (x : α) (s : σ), xs[j]? = some x → Inv (i + j) s → ∃ s', f x s = .ok (.nx s') ∧ Inv (i + j + 1) s') → ∃ s', forR f xs s = .ok (.nx s') ∧ Inv (i + xs.length) s'
  | [], i, s, h, _ => ⟨s, rfl, h⟩
  | x :: xs, i, s, h, stp => by
    obtain ⟨s1, e1, h1⟩ := stp 0 x s rfl h
    obtain ⟨s2, e2, h2⟩ := forR_ind Inv xs (i + 1) s1 h1 fun j y t hj ht => by
      have := stp (j + 1) y t (by rw [List.getElem?_cons_succ]; exact hj) (by rw [show i + (j + 1) = i + 1 + j by omega]; exact ht)
      rw [show i + (j + 1) + 1 = i + 1 + j + 1 by omega] at this
      exact this
    refine ⟨s2, ?_, by rw [List.length_cons, show i + (xs.length + 1) = i + 1 + xs.length by omega]; exact h2⟩
    show (f x s).bind _ = _
    rw [e1]
    exact e2
theorem forR_inv {f : α → σ → Rs (Bo σ ρ)} (Inv : Nat → σ → Prop) {xs : List α} {s : σ} (h : Inv 0 s) (stp : ∀ (j : Nat) (x : α) (s : σ), xs[j]? = some x → Inv j s → ∃ s', f x s = .ok (.nx s') ∧ Inv (j + 1) s') : ∃ s', forR f xs s = .ok (.nx s') ∧ Inv xs.length s' := by
  have := forR_ind (f := f) Inv xs 0 s h fun j x t hj ht => by
    rw [Nat.zero_add] at ht ⊢
    exact stp j x t hj ht
  rwa [Nat.zero_add] at this
/-- a search: nothing before, then a hit -/
theorem forR_hit {f : α → σ → Rs (Bo σ ρ)} {s : σ} {r : ρ} {x : α} {ys : List α} : ∀ {xs : List α}, (∀ y ∈ xs, f y s = .ok (.nx s)) → f x s = .ok (.rt r) → forR f (xs ++ x :: ys) s = .ok (.rt r)
  | [], _, h => by
    show (f x s).bind _ = _
    rw [h]
    rfl
  | y :: xs, h, h2 => by
    show (f y s).bind _ = _
    rw [h y List.mem_cons_self]
    exact forR_hit (fun z hz => h z (List.mem_cons_of_mem _ hz)) h2
theorem forR_miss {f : α → σ → Rs (Bo σ ρ)} {s : σ} : ∀ {xs : List α}, (∀ y ∈ xs, f y s = .ok (.nx s)) → forR f xs s = .ok (.nx s)
  | [], _ => rfl
  | y :: xs, h => by
    show (f y s).bind _ = _
    rw [h y List.mem_cons_self]
    exact forR_miss fun z hz => h z (List.mem_cons_of_mem _ hz)
theorem whileR_inv {c : σ → Rs Bool} {f : σ → Rs σ} (Inv : Nat → σ → Prop) (Q : σ → Prop) (stp : ∀ n s, Inv n s → (c s = .ok false ∧ Q s) ∨ (c s = .ok true ∧ ∃ m s', m < n ∧ f s = .ok s' ∧ Inv m s')) : ∀ (n k : Nat) (s : σ), n < k → Inv n s → ∃ s', whileR c f k s = .ok s' ∧ Q s' := by
  intro n
  induction n using Nat.strongRecOn with
  | ind n ih =>
    intro k s hk hi
    cases k with
    | zero => omega
    | succ k =>
      rcases stp n s hi with ⟨e, q⟩ | ⟨e, m, s', hm, e', hi'⟩
      · refine ⟨s, ?_, q⟩
        show (c s).bind _ = _
        rw [e]
        rfl
      · obtain ⟨s2, e2, q2⟩ := ih m hm k s' (by omega) hi'
        refine ⟨s2, ?_, q2⟩
        show (c s).bind _ = _
        rw [e]
        show (f s).bind _ = _
        rw [e']
        exact e2
theorem mapR_ok {f : α → Rs β} {g : α → β} : ∀ {xs : List α}, (∀ x ∈ xs, f x = .ok (g x)) → mapR f xs = .ok (xs.map g)
  | [], _ => rfl
  | x :: xs, h => by
    show (f x).bind _ = _
    rw [h x List.mem_cons_self, bind_ok, mapR_ok fun y hy => h y (List.mem_cons_of_mem _ hy)]
    rfl
theorem few_ok {n : Nat} (h : n ≤ 16777216) : few n = some () := if_pos h
theorem mpR_ok {f : α → Rs β} {g : α → β} {xs : List α} (hl : xs.length ≤ 16777216) (h : ∀ x ∈ xs, f x = .ok (g x)) : mpR f xs = .ok (xs.map g) := by
  unfold mpR
  rw [few_ok hl, ob_some, mapR_ok h]
theorem mapP_ok (g : α → β) {xs : List α} (hl : xs.length ≤ 16777216) : mapP g xs = some (xs.map g) := if_pos hl
theorem filP_ok (c : α → Bool) (g : α → β) {xs : List α} (hl : xs.length ≤ 16777216) : filP c g xs = some ((xs.filter c).map g) := if_pos hl
theorem fmR_okF {f : α → Rs (Option β)} {g : α → Option β} : ∀ {xs : List α}, (∀ x ∈ xs, f x = .ok (g x)) → fmR f xs = .ok (xs.filterMap g)
  | [], _ => rfl
  | x :: xs, h => by
    show (f x).bind _ = _
    rw [h x List.mem_cons_self, bind_ok, fmR_okF fun y hy => h y (List.mem_cons_of_mem _ hy), bind_ok, List.filterMap_cons]
    cases g x <;> rfl
theorem lcR_ok {f : α → Rs (Option β)} {g : α → Option β} {xs : List α} (hl : xs.length ≤ 16777216) (h : ∀ x ∈ xs, f x = .ok (g x)) : lcR f xs = .ok (xs.filterMap g) := by
  unfold lcR
  rw [few_ok hl, ob_some, fmR_okF h]
/-- a check of every item: nothing is wrong -/
theorem lcR_none {f : α → Rs (Option β)} {xs : List α} (hl : xs.length ≤ 16777216) (h : ∀ x ∈ xs, f x = .ok none) : lcR f xs = .ok [] := by
  rw [lcR_ok (g := fun _ => none) hl h]
  congr 1
  induction xs with
  | nil => rfl
  | cons x xs ih => rw [List.filterMap_cons]; exact ih (by rw [List.length_cons] at hl; omega) fun y hy => h y (List.mem_cons_of_mem _ hy)
theorem mapS_inv {f : α → σ → Rs (β × σ)} (Inv : Nat → σ → Prop) (P : Nat → α → β → Prop) : ∀ (xs : List α) (i : Nat) (s : σ), Inv i s → (∀ (j : Nat) (x : α) (s : σ), xs[j]? = some x → Inv (i + j) s → ∃ y s', f x s = .ok (y, s') ∧ P (i + j) x y ∧ Inv (i + j + 1) s') → ∃ ys s', mapS f xs s = .ok (ys, s') ∧ Inv (i + xs.length) s' ∧ ys.length = xs.length ∧ ∀ j x y, xs[j]? = some x → ys[j]? = some y → P (i + j) x y
  | [], i, s, h, _ => ⟨[], s, rfl, h, rfl, fun j x y h => by simp at h⟩
  | x :: xs, i, s, h, stp => by
    obtain ⟨y, s1, e1, p1, h1⟩ := stp 0 x s rfl h
    obtain ⟨ys, s2, e2, h2, l2, p2⟩ := mapS_inv Inv P xs (i + 1) s1 h1 fun j y t hj ht => by
      have := stp (j + 1) y t (by rw [List.getElem?_cons_succ]; exact hj) (by rw [show i + (j + 1) = i + 1 + j by omega]; exact ht)
      rw [show i + (j + 1) = i + 1 + j by omega] at this
      exact this
    refine ⟨y :: ys, s2, ?_, by rw [List.length_cons, show i + (xs.length + 1) = i + 1 + xs.length by omega]; exact h2, by simp [l2], fun j a b ha hb => ?_⟩
    · show (f x s).bind _ = _
      rw [e1, bind_ok, e2]
      rfl
    · cases j with
      | zero =>
        simp at ha hb
        subst ha hb
        exact p1
      | succ j =>
        rw [List.getElem?_cons_succ] at ha hb
        have := p2 j a b ha hb
        rw [show i + 1 + j = i + (j + 1) by omega] at this
        exact this
theorem mpS_inv {f : α → σ → Rs (β × σ)} (Inv : Nat → σ → Prop) (P : Nat → α → β → Prop) {xs : List α} {s : σ} (hl : xs.length ≤ 16777216) (h : Inv 0 s) (stp : ∀ (j : Nat) (x : α) (s : σ), xs[j]? = some x → Inv j s → ∃ y s', f x s = .ok (y, s') ∧ P j x y ∧ Inv (j + 1) s') : ∃ ys s', mpS f xs s = .ok (ys, s') ∧ Inv xs.length s' ∧ ys.length = xs.length ∧ ∀ j x y, xs[j]? = some x → ys[j]? = some y → P j x y := by
  have := mapS_inv (f := f) Inv P xs 0 s h fun j x t hj ht => by
    rw [Nat.zero_add] at ht ⊢
    exact stp j x t hj ht
  unfold mpS
  rw [few_ok hl, ob_some]
  simpa only [Nat.zero_add] using this
/-! ints -/
theorem mulI_bd {i j : Int} {n m : Nat} (h : Ma.Bd i n) (h' : Ma.Bd j m) (hn : n ≤ 10000 := by decide) (hm : m ≤ 10000 := by decide) : mulI i j = some (i * j) := by
  have a := Ma.log2_lt (h.mono (show n ≤ 10001 by omega)) (by decide)
  have b := Ma.log2_lt (h'.mono (show m ≤ 10001 by omega)) (by decide)
  exact if_pos (by omega)
theorem log2_small {i : Int} (h : -1099511627776 < i) (h2 : i < 1099511627776) : i.natAbs.log2 < 41 := Ma.log2_lt (show i.natAbs < 2 ^ 41 by omega) (by decide)
theorem mulI_sm {i j : Int} (h : -1099511627776 < i) (h2 : i < 1099511627776) (h3 : -1099511627776 < j) (h4 : j < 1099511627776) : mulI i j = some (i * j) := by
  have a := log2_small h h2
  have b := log2_small h3 h4
  exact if_pos (by omega)
theorem fdivI_bd {i j : Int} {n : Nat} (h : 0 < j) (b : Ma.Bd j n) (hn : n ≤ 8000 := by decide) : fdivI i j = some (i / j) := by
  have a := Ma.log2_lt (b.mono (show n ≤ 8001 by omega)) (by decide)
  exact if_pos ⟨h, by omega⟩
theorem fdivI_sm {i j : Int} (h : 0 < j) (h2 : j < 1099511627776) : fdivI i j = some (i / j) := by
  have b := log2_small (show -1099511627776 < j by omega) h2
  exact if_pos ⟨h, by omega⟩
theorem modI_pos {i j : Int} (h : 0 < j) : modI i j = some (i % j) := if_pos h
theorem pow18 : powI 10 18 = some 1000000000000000000 := rfl
/-! lists -/
theorem ixL_nat {xs : List α} {k : Nat} {d : α} (h : xs[k]? = some d) : ixL xs (k : Int) = some d := Ma.atI_nat h
theorem ixL_int {xs : List α} {i : Int} {d : α} (h0 : 0 ≤ i) (h : xs[i.toNat]? = some d) : ixL xs i = some d := Ma.atI_int h0 h
theorem ixL_last {xs : List α} {d : α} (h : xs[xs.length - 1]? = some d) : ixL xs (-1) = some d := by
  unfold ixL L2.atI L2.ixN
  have := Ma.get_lt h
  rw [if_neg (by decide), if_pos (by omega)]
  show xs[(-1 + (xs.length : Int)).toNat]? = some d
  rw [show (-1 + (xs.length : Int)).toNat = xs.length - 1 by omega]
  exact h
theorem addL_ok' {xs ys : List α} (h : xs.length + ys.length ≤ 16777216) : addL xs ys = some (xs ++ ys) := if_pos h
theorem appL_ok' {xs : List α} {v : α} (h : xs.length < 16777216) : appL xs v = some (xs ++ [v]) := if_pos h
theorem setL_nat {xs : List α} {k : Nat} {v : α} (h : k < xs.length) : setL xs (k : Int) v = some (xs.set k v) := by
  unfold setL L2.ixN
  rw [if_pos (by omega), if_pos (by omega)]
  rfl
theorem repL_nat {k : Nat} (h : k ≤ 1000000) (d : α) : repL [d] (k : Int) = some (List.replicate k d) := by
  unfold repL
  rw [if_pos ⟨by omega, by omega, by simp; omega⟩]
  simp
theorem cutL_take (xs : List α) (k : Nat) : cutL xs none (some (k : Int)) = xs.take k := by
  unfold cutL
  rw [HT.sIx_nat]
  show (xs.drop 0).take (min k xs.length - 0) = _
  rw [List.drop_zero, Nat.sub_zero]
  rcases Nat.le_total k xs.length with h | h
  · rw [Nat.min_eq_left h]
  · rw [Nat.min_eq_right h, List.take_of_length_le (Nat.le_refl _), List.take_of_length_le h]
theorem cutL_drop (xs : List α) (k : Nat) : cutL xs (some (k : Int)) none = xs.drop k := by
  unfold cutL
  rw [HT.sIx_nat]
  show (xs.drop (min k xs.length)).take (xs.length - min k xs.length) = _
  rw [List.take_of_length_le (by rw [List.length_drop]; omega)]
  rcases Nat.le_total k xs.length with h | h
  · rw [Nat.min_eq_left h]
  · rw [Nat.min_eq_right h, List.drop_of_length_le (Nat.le_refl _), List.drop_of_length_le h]
theorem popL_snoc (xs : List α) (v : α) : popL (xs ++ [v]) = some (xs, v) := by
  unfold popL
  simp
/-! ranges -/
theorem small_nat {n : Nat} (h : n ≤ 4000000000000000000) : small62 (n : Int) = true := by
  unfold small62
  simp only [Bool.and_eq_true, decide_eq_true_eq]
  omega
theorem small_int {n : Int} (h : -4000000000000000000 ≤ n) (h2 : n ≤ 4000000000000000000) : small62 n = true := by
  unfold small62
  simp only [Bool.and_eq_true, decide_eq_true_eq]
  omega
/-- the whole numbers from 0 -/
def ups (n : Nat) : List Int := (List.range n).map fun (k : Nat) => (k : Int)
theorem ups_len (n : Nat) : (ups n).length = n := by unfold ups; simp
theorem ups_get {n j : Nat} {x : Int} (h : (ups n)[j]? = some x) : j < n ∧ x = j := by
  unfold ups at h
  have hj : j < n := by have := Ma.get_lt h; simpa using this
  rw [List.getElem?_map, List.getElem?_range hj] at h
  cases h
  exact ⟨hj, rfl⟩
theorem ups_mem {n : Nat} {x : Int} (h : x ∈ ups n) : ∃ j : Nat, j < n ∧ x = j := by
  obtain ⟨j, hj⟩ := List.getElem?_of_mem h
  exact ⟨j, ups_get hj⟩
theorem range1_nat {n : Nat} (h : n ≤ 1000000000) : range1 (n : Int) = some (ups n) := by
  unfold range1
  rw [if_pos (small_nat (by omega))]
  unfold rangeL ups
  simp
theorem range1_of {i : Int} {n : Nat} (e : i = n) (h : n ≤ 1000000000) : range1 i = some (ups n) := e ▸ range1_nat h
theorem range1_neg {i : Int} (h : i ≤ 0) (h2 : -4000000000000000000 ≤ i) : range1 i = some [] := by
  unfold range1
  rw [if_pos (small_int h2 (by omega)), show i.toNat = 0 by omega]
  rfl
theorem rangeL_len (lo : Int) (n : Nat) : (rangeL lo n).length = n := by unfold rangeL; simp
theorem rangeL_get {lo : Int} {n j : Nat} {x : Int} (h : (rangeL lo n)[j]? = some x) : j < n ∧ x = lo + j := by
  unfold rangeL at h
  have hj : j < n := by have := Ma.get_lt h; simpa using this
  rw [List.getElem?_map, List.getElem?_range hj] at h
  cases h
  exact ⟨hj, rfl⟩
theorem rangeL_mem {lo : Int} {n : Nat} {x : Int} (h : x ∈ rangeL lo n) : ∃ j : Nat, j < n ∧ x = lo + j := by
  obtain ⟨j, hj⟩ := List.getElem?_of_mem h
  exact ⟨j, rangeL_get hj⟩
theorem range2_of {a b : Int} {n : Nat} (e : (b - a).toNat = n) (h1 : -1000000000 ≤ a) (h2 : a ≤ 1000000000) (h3 : -1000000000 ≤ b) (h4 : b ≤ 1000000000) : range2 a b = some (rangeL a n) := by
  unfold range2
  rw [small_int (by omega) (by omega), small_int (by omega) (by omega), e]
  rfl
theorem stepL_len (lo c : Int) (n : Nat) : (stepL lo c n).length = n := by unfold stepL; simp
theorem stepL_get {lo c : Int} {n j : Nat} {x : Int} (h : (stepL lo c n)[j]? = some x) : j < n ∧ x = lo + j * c := by
  unfold stepL at h
  have hj : j < n := by have := Ma.get_lt h; simpa using this
  rw [List.getElem?_map, List.getElem?_range hj] at h
  cases h
  exact ⟨hj, rfl⟩
theorem rangeD_of {a b : Int} {n : Nat} (e : (a - b).toNat = n) (h1 : -1000000000 ≤ a) (h2 : a ≤ 1000000000) (h3 : -1000000000 ≤ b) (h4 : b ≤ 1000000000) : rangeD a b = some (stepL a (-1) n) := by
  unfold rangeD
  rw [small_int (by omega) (by omega), small_int (by omega) (by omega), e]
  rfl
/-! enumerate -/
theorem enum_len (xs : List α) : ∀ k, (enumT k xs).length = xs.length := by
  induction xs with
  | nil => intro k; rfl
  | cons x xs ih => intro k; show (enumT (k + 1) xs).length + 1 = _; rw [ih]; rfl
theorem enum_get : ∀ {xs : List α} {k j : Nat} {p : Int × α}, (enumT k xs)[j]? = some p → p.1 = ((k + j : Nat) : Int) ∧ xs[j]? = some p.2
  | [], k, j, p, h => by simp [enumT] at h
  | x :: xs, k, 0, p, h => by
    simp [enumT] at h
    subst h
    exact ⟨rfl, rfl⟩
  | x :: xs, k, j + 1, p, h => by
    have h : (enumT (k + 1) xs)[j]? = some p := by simpa [enumT] using h
    obtain ⟨h1, h2⟩ := enum_get h
    exact ⟨by rw [h1, show k + 1 + j = k + (j + 1) by omega], by rw [List.getElem?_cons_succ]; exact h2⟩
theorem enum_get0 {xs : List α} {j : Nat} {p : Int × α} (h : (enumT 0 xs)[j]? = some p) : p.1 = (j : Int) ∧ xs[j]? = some p.2 := by
  have := enum_get h
  rwa [Nat.zero_add] at this
/-! texts of words -/
theorem chars_txt (bs : List Bool) : chars (Ma.txt bs) = bs.map Ma.s1 := by
  unfold chars Ma.txt
  rw [List.map_map]
  refine List.map_congr_left fun b _ => ?_
  cases b <;> rfl
theorem s1U (b : Bool) : decide (Ma.s1 b = ("U" : Str)) = b := by cases b <;> decide
theorem s1D (b : Bool) : decide (Ma.s1 b = ("D" : Str)) = !b := by cases b <;> decide
theorem lenS_txt {bs : List Bool} (h : bs.length ≤ 16777216) : lenS (Ma.txt bs) = some (bs.length : Int) := by
  unfold lenS
  rw [Ma.txt_len, if_pos h]
theorem addS_txt {a b : List Bool} (h : a.length + b.length ≤ 16777216) : addS (Ma.txt a) (Ma.txt b) = some (Ma.txt (a ++ b)) := by
  unfold addS
  rw [Ma.txt_len, Ma.txt_len, if_pos h, Ma.txt_app]
theorem addS_s1 {a : List Bool} {b : Bool} (h : a.length < 16777216) : addS (Ma.txt a) (Ma.s1 b) = some (Ma.txt (a ++ [b])) := by
  have e : Ma.s1 b = Ma.txt [b] := by cases b <;> rfl
  rw [e, addS_txt (by simp; omega)]
theorem ixS_txt {bs : List Bool} {i : Nat} {b : Bool} (hl : bs.length ≤ 16777216) (h : bs[i]? = some b) : ixS (Ma.txt bs) (i : Int) = some (Ma.s1 b) := by
  unfold ixS
  rw [Ma.txt_len, if_pos hl, chars_txt]
  exact ixL_nat (by rw [List.getElem?_map, h]; rfl)
theorem cutT_take {bs : List Bool} {k : Nat} (h : bs.length ≤ 16777216) : cutT (Ma.txt bs) none (some (k : Int)) = some (Ma.txt (bs.take k)) := by
  unfold cutT
  rw [Ma.txt_len, if_pos h, Ma.cut_txt]
theorem txt_inj {a b : List Bool} (h : Ma.txt a = Ma.txt b) : a = b := by
  have e : chars (Ma.txt a) = chars (Ma.txt b) := by rw [h]
  rw [chars_txt, chars_txt] at e
  have inj : ∀ x y : Bool, Ma.s1 x = Ma.s1 y → x = y := by decide
  clear h
  induction a generalizing b with
  | nil => cases b with | nil => rfl | cons y b => simp at e
  | cons x a ih =>
    cases b with
    | nil => simp at e
    | cons y b =>
      simp only [List.map_cons, List.cons.injEq] at e
      rw [inj _ _ e.1, ih e.2]
theorem txt_eq (a b : List Bool) : decide (Ma.txt a = Ma.txt b) = decide (a = b) := by
  by_cases h : a = b
  · subst h; simp
  · have : ¬ Ma.txt a = Ma.txt b := fun e => h (txt_inj e)
    simp [h, this]
theorem joinT_s1 {bs : List Bool} (h : bs.length ≤ 1000000) : joinT ("" : Str) (bs.map Ma.s1) = some (Ma.txt bs) := by
  have e := Ma.join_lt1 h
  have k : opJoin [.str "", .list (bs.map Ma.lt1)] = if (((bs.map Ma.s1).map (·.length)).sum + (bs.map Ma.s1).length * ("" : Str).length ≤ 16777216) then some (.sh (.str (Txt.join "" (bs.map Ma.s1)))) else none := by
    show (strsOf (bs.map Ma.lt1)).bind _ = _
    rw [Ma.strs_lt1]
    rfl
  rw [k] at e
  unfold joinT
  split at e
  · rw [if_pos ‹_›, Ma.join_s1]
  · cases e
theorem shaped_txt (bs : List Bool) : SeqAt.shaped (eS' (Ma.txt bs)) = true := by
  have := (Ma.Sm.txt (bs := bs) (n := bs.length) (Nat.le_refl _)).lay
  show ((PyData.str (Ma.txt bs)).canLay0 && _) = true
  rw [this]
  rfl
end
end Ty
namespace Ty
open PySem Fd
def okIs {α : Type} [DecidableEq α] (t : Rs α) (v : α) : Bool := match t with
  | .ok a => decide (a = v)
  | _ => false
theorem okIs_eq {α : Type} [DecidableEq α] {t : Rs α} {v : α} (h : okIs t v = true) : t = .ok v := by
  cases t with
  | bad => cases h
  | exc e => cases h
  | ok a => rw [of_decide_eq_true h]
theorem reprL_sm {k w : Nat} {α : Type} {e : α → D} {xs : List α} (h : ∀ x ∈ xs, Ma.Sm (e x) k w) (hk : k ≤ 39) (hw : (w + 1) * xs.length ≤ 160000) : reprG (eL e xs) = some (PyData.list (xs.map e)).shown := by
  have s : Ma.Sm (.list (xs.map e)) (k + 1) ((w + 1) * (xs.map e).length) := Ma.Sm.list fun x hx => by
    obtain ⟨y, hy, rfl⟩ := List.mem_map.mp hx
    exact h y hy
  rw [List.length_map] at s
  exact if_pos (s.ok (by omega) hw)
theorem reprT_sm {k w : Nat} {α : Type} {e : α → D} {xs : List α} (h : ∀ x ∈ xs, Ma.Sm (e x) k w) (hk : k ≤ 39) (hw : (w + 1) * xs.length ≤ 160000) : reprG (eT e xs) = some (PyData.tuple (xs.map e)).shown := by
  have s : Ma.Sm (.tuple (xs.map e)) (k + 1) ((w + 1) * (xs.map e).length) := Ma.Sm.tuple fun x hx => by
    obtain ⟨y, hy, rfl⟩ := List.mem_map.mp hx
    exact h y hy
  rw [List.length_map] at s
  exact if_pos (s.ok (by omega) hw)
theorem reprI_bd {i : Int} {n : Nat} (h : Ma.Bd i n) (hn : n ≤ 1900 := by decide) : reprI i = some (Str.ofString (toString i)) := by
  have a := Ma.log2_lt (h.mono (show n ≤ 1901 by omega)) (by decide)
  exact if_pos (by omega)
end Ty
/-! Ty, part 7: sorting, diagrams of chords. -/
namespace Ty
open PySem Fd
/-! ### sorting -/
abbrev eII : Int × Int → D := e2 eI eI
theorem le_ii (p q : Int × Int) : leD (eII p) (eII q) = decide (p.1 < q.1 ∨ (p.1 = q.1 ∧ p.2 ≤ q.2)) := by
  show (!PySem.W.dataLt (.tuple [.int q.1, .int q.2]) (.tuple [.int p.1, .int p.2])) = _
  rw [PySem.W.dataLt_ii]
  by_cases h : p.1 < q.1 ∨ (p.1 = q.1 ∧ p.2 ≤ q.2)
  · rw [decide_eq_true h, decide_eq_false (by omega)]; rfl
  · rw [decide_eq_false h, decide_eq_true (by omega)]; rfl
theorem le_i (a b : Int) : leD (eI a) (eI b) = decide (a ≤ b) := by
  show (!PySem.W.dataLt (.int b) (.int a)) = _
  rw [PySem.W.dataLt_int]
  by_cases h : a ≤ b
  · rw [decide_eq_true h, decide_eq_false (by omega)]; rfl
  · rw [decide_eq_false h, decide_eq_true (by omega)]; rfl
theorem sortT_perm {α : Type} (e : α → D) (xs : List α) : (sortT e xs).Perm xs := List.mergeSort_perm _ _
theorem sortT_len {α : Type} (e : α → D) (xs : List α) : (sortT e xs).length = xs.length := (sortT_perm e xs).length_eq
theorem sortT_mem {α : Type} {e : α → D} {xs : List α} {x : α} : x ∈ sortT e xs ↔ x ∈ xs := (sortT_perm e xs).mem_iff
theorem sort_ii (xs : List (Int × Int)) : (sortT eII xs).Pairwise fun p q => p.1 < q.1 ∨ (p.1 = q.1 ∧ p.2 ≤ q.2) := by
  have h := List.pairwise_mergeSort (le := fun a b => leD (eII a) (eII b)) (fun a b c => by simp only [le_ii, decide_eq_true_eq]; omega) (fun a b => by simp only [le_ii, Bool.or_eq_true, decide_eq_true_eq]; omega) xs
  exact h.imp fun {a b} h => by simpa only [le_ii, decide_eq_true_eq] using h
theorem sort_i (xs : List Int) : (sortT eI xs).Pairwise (· ≤ ·) := by
  have h := List.pairwise_mergeSort (le := fun a b => leD (eI a) (eI b)) (fun a b c => by simp only [le_i, decide_eq_true_eq]; omega) (fun a b => by simp only [le_i, Bool.or_eq_true, decide_eq_true_eq]; omega) xs
  exact h.imp fun {a b} h => by simpa only [le_i, decide_eq_true_eq] using h
theorem sort_ii_eq {xs ys : List (Int × Int)} (h : ys.Pairwise fun p q => p.1 < q.1 ∨ (p.1 = q.1 ∧ p.2 ≤ q.2)) (p : xs.Perm ys) : sortT eII xs = ys :=
  List.Perm.eq_of_pairwise (le := fun p q : Int × Int => p.1 < q.1 ∨ (p.1 = q.1 ∧ p.2 ≤ q.2)) (fun a b _ _ h1 h2 => Prod.ext (by omega) (by omega)) (sort_ii xs) h ((sortT_perm eII xs).trans p)
theorem sort_i_eq {xs ys : List Int} (h : ys.Pairwise (· ≤ ·)) (p : xs.Perm ys) : sortT eI xs = ys :=
  List.Perm.eq_of_pairwise (le := (· ≤ ·)) (fun a b _ _ h1 h2 => Int.le_antisymm h1 h2) (sort_i xs) h ((sortT_perm eI xs).trans p)
theorem sort_perm {xs ys : List (Int × Int)} (p : xs.Perm ys) : sortT eII xs = sortT eII ys := sort_ii_eq (sort_ii ys) (p.trans (sortT_perm eII ys).symm)
theorem sort_i2 (a b : Int) : sortT eI [a, b] = [min a b, max a b] := by
  refine sort_i_eq (by simp; omega) ?_
  rcases Int.le_total a b with h | h
  · rw [Int.min_eq_left h, Int.max_eq_right h]
  · rw [Int.min_eq_right h, Int.max_eq_left h]; exact List.Perm.swap _ _ _
theorem minI2_eq (a b : Int) : minI2 a b = min a b := by unfold minI2; split <;> omega
theorem maxI2_eq (a b : Int) : maxI2 a b = max a b := by unfold maxI2; split <;> omega
theorem pair_sort (a b : Int) : pair2 (sortT eI [a, b]) = some (min a b, max a b) := by rw [sort_i2]; rfl
/-! ### matchings and diagrams -/
def Ds (p q : Int × Int) : Prop := p.1 ≠ q.1 ∧ p.1 ≠ q.2 ∧ p.2 ≠ q.1 ∧ p.2 ≠ q.2
def Nc (p q : Int × Int) : Prop := ¬ (p.1 < q.1 ∧ q.1 < p.2 ∧ p.2 < q.2) ∧ ¬ (q.1 < p.1 ∧ p.1 < q.2 ∧ q.2 < p.2)
theorem Ds.symm {p q : Int × Int} (h : Ds p q) : Ds q p := ⟨fun e => h.1 e.symm, fun e => h.2.2.1 e.symm, fun e => h.2.1 e.symm, fun e => h.2.2.2 e.symm⟩
theorem Nc.symm {p q : Int × Int} (h : Nc p q) : Nc q p := ⟨h.2, h.1⟩
/-- chords of n pairs of points; x: they may cross -/
structure Dia (x : Bool) (n : Nat) (P : List (Int × Int)) : Prop where
  len : P.length = n
  rng : ∀ p ∈ P, 1 ≤ p.1 ∧ p.1 < p.2 ∧ p.2 ≤ 2 * n
  asc : P.Pairwise fun p q => p.1 < q.1
  dis : P.Pairwise Ds
  nc : x = false → P.Pairwise Nc
  all : ∀ y : Int, 1 ≤ y → y ≤ 2 * n → ∃ p ∈ P, p.1 = y ∨ p.2 = y
theorem Dia.cross {x : Bool} {n : Nat} {P : List (Int × Int)} (h : Dia x n P) : Dia true n P := ⟨h.len, h.rng, h.asc, h.dis, (fun h => by cases h), h.all⟩
/-- sorted chords are a diagram -/
theorem Dia.of_sort {x : Bool} {n : Nat} {P : List (Int × Int)} (len : P.length = n) (rng : ∀ p ∈ P, 1 ≤ p.1 ∧ p.1 < p.2 ∧ p.2 ≤ 2 * n) (dis : P.Pairwise Ds) (nc : x = false → P.Pairwise Nc) (all : ∀ y : Int, 1 ≤ y → y ≤ 2 * n → ∃ p ∈ P, p.1 = y ∨ p.2 = y) : Dia x n (sortT eII P) := by
  have d : (sortT eII P).Pairwise Ds := ((sortT_perm eII P).pairwise_iff fun {a b} h => h.symm).mpr dis
  refine ⟨by rw [sortT_len, len], fun p hp => rng p (sortT_mem.mp hp), ?_, d, fun h => ((sortT_perm eII P).pairwise_iff fun {a b} h => h.symm).mpr (nc h), fun y h1 h2 => ?_⟩
  · exact (List.Pairwise.and (sort_ii P) d).imp fun {a b} h => by
      have := h.2.1
      omega
  · obtain ⟨p, hp, h⟩ := all y h1 h2
    exact ⟨p, sortT_mem.mpr hp, h⟩
theorem Dia.sorted {x : Bool} {n : Nat} {P : List (Int × Int)} (h : Dia x n P) {Q : List (Int × Int)} (p : Q.Perm P) : sortT eII Q = P := sort_ii_eq (h.asc.imp fun {a b} h => .inl h) p
/-- the points renumbered -/
def ren (f : Int → Int) (p : Int × Int) : Int × Int := (min (f p.1) (f p.2), max (f p.1) (f p.2))
theorem ren_ds {f : Int → Int} {p q : Int × Int} (h : f p.1 ≠ f q.1 ∧ f p.1 ≠ f q.2 ∧ f p.2 ≠ f q.1 ∧ f p.2 ≠ f q.2) : Ds (ren f p) (ren f q) := by
  unfold Ds ren
  simp only
  omega
theorem Dia.ren {x : Bool} {n : Nat} {P : List (Int × Int)} (h : Dia x n P) (f g : Int → Int) (hf : ∀ y : Int, 1 ≤ y → y ≤ 2 * n → 1 ≤ f y ∧ f y ≤ 2 * n ∧ g (f y) = y) (hg : ∀ y : Int, 1 ≤ y → y ≤ 2 * n → 1 ≤ g y ∧ g y ≤ 2 * n ∧ f (g y) = y)
    (hn : ∀ a b c d : Int, 1 ≤ a → a < b → b ≤ 2 * n → 1 ≤ c → c < d → d ≤ 2 * n → Ds (a, b) (c, d) → Nc (a, b) (c, d) → Nc (Ty.ren f (a, b)) (Ty.ren f (c, d))) : Dia x n (sortT eII (P.map (Ty.ren f))) := by
  have inj : ∀ a b : Int, 1 ≤ a → a ≤ 2 * n → 1 ≤ b → b ≤ 2 * n → a ≠ b → f a ≠ f b := fun a b h1 h2 h3 h4 hab e => hab (by rw [← (hf a h1 h2).2.2, ← (hf b h3 h4).2.2, e])
  refine .of_sort (by rw [List.length_map, h.len]) (fun p hp => ?_) ?_ (fun hx => ?_) (fun y h1 h2 => ?_)
  · obtain ⟨q, hq, rfl⟩ := List.mem_map.mp hp
    have r := h.rng q hq
    have f1 := hf q.1 (by omega) (by omega)
    have f2 := hf q.2 (by omega) (by omega)
    have ne := inj q.1 q.2 (by omega) (by omega) (by omega) (by omega) (by omega)
    show 1 ≤ min (f q.1) (f q.2) ∧ min (f q.1) (f q.2) < max (f q.1) (f q.2) ∧ max (f q.1) (f q.2) ≤ 2 * n
    omega
  · rw [List.pairwise_map]
    exact List.Pairwise.imp_of_mem (fun {a b} ha hb d => by
      have r := h.rng a ha
      have s := h.rng b hb
      exact ren_ds ⟨inj _ _ (by omega) (by omega) (by omega) (by omega) d.1, inj _ _ (by omega) (by omega) (by omega) (by omega) d.2.1, inj _ _ (by omega) (by omega) (by omega) (by omega) d.2.2.1, inj _ _ (by omega) (by omega) (by omega) (by omega) d.2.2.2⟩) h.dis
  · rw [List.pairwise_map]
    exact List.Pairwise.imp_of_mem (fun {a b} ha hb d => by
      have r := h.rng a ha
      have s := h.rng b hb
      exact hn a.1 a.2 b.1 b.2 r.1 r.2.1 r.2.2 s.1 s.2.1 s.2.2 d.1 d.2) (h.dis.and (h.nc hx))
  · obtain ⟨g1, g2, g3⟩ := hg y h1 h2
    obtain ⟨p, hp, e⟩ := h.all (g y) g1 g2
    refine ⟨Ty.ren f p, List.mem_map_of_mem hp, ?_⟩
    show min (f p.1) (f p.2) = y ∨ max (f p.1) (f p.2) = y
    rcases e with e | e
    · rw [e, g3]; omega
    · rw [e, g3]; omega
/-- the point that p becomes when the circle is turned -/
def rotp (N s p : Int) : Int := (p - s - 1) % N + 1
theorem rotp_eq {N s p : Int} (hN : 0 < N) (h1 : 1 ≤ p) (h2 : p ≤ N) : rotp N s p = if p ≤ s % N then p - s % N + N else p - s % N := by
  unfold rotp
  have e1 : 0 ≤ s % N := Int.emod_nonneg _ (by omega)
  have e2 : s % N < N := Int.emod_lt_of_pos _ hN
  have e3 : (p - s - 1) % N = (p - s % N - 1) % N := by
    rw [Int.sub_sub, Int.sub_sub, Int.sub_emod, Int.sub_emod p (s % N + 1), Int.add_emod s 1, Int.add_emod (s % N) 1, Int.emod_emod]
  rw [e3]
  split
  · rw [← Int.add_emod_right, Int.emod_eq_of_lt (by omega) (by omega)]; omega
  · rw [Int.emod_eq_of_lt (by omega) (by omega)]; omega
theorem Dia.rot {x : Bool} {n : Nat} {P : List (Int × Int)} (h : Dia x n P) (s : Int) : Dia x n (sortT eII (P.map (Ty.ren (rotp (2 * n) s)))) := by
  by_cases hn : n = 0
  · subst hn
    have e : P = [] := List.length_eq_zero_iff.mp h.len
    subst e
    have e2 : sortT eII (List.map (Ty.ren (rotp (2 * ((0 : Nat) : Int)) s)) []) = [] := List.length_eq_zero_iff.mp (by rw [sortT_len]; rfl)
    rw [e2]
    exact h
  have hN : (0 : Int) < 2 * n := by omega
  have e1 : 0 ≤ s % (2 * n : Int) := Int.emod_nonneg _ (by omega)
  have e2 : s % (2 * n : Int) < 2 * n := Int.emod_lt_of_pos _ hN
  refine h.ren _ (fun y => if y + s % (2 * n : Int) ≤ 2 * n then y + s % (2 * n : Int) else y + s % (2 * n : Int) - 2 * n) (fun y h1 h2 => ?_) (fun y h1 h2 => ?_) (fun a b c d a1 a2 a3 a4 a5 a6 ds nc => ?_)
  · rw [rotp_eq hN h1 h2]
    split <;> (refine ⟨by omega, by omega, ?_⟩; split <;> omega)
  · split
    · rw [rotp_eq hN (by omega) (by omega)]
      refine ⟨by omega, by omega, ?_⟩
      split <;> omega
    · rw [rotp_eq hN (by omega) (by omega)]
      refine ⟨by omega, by omega, ?_⟩
      split <;> omega
  · unfold Nc Ty.ren at *
    unfold Ds at ds
    simp only [] at *
    rw [rotp_eq hN (by omega) (by omega), rotp_eq hN (by omega) (by omega), rotp_eq hN (by omega) (by omega), rotp_eq hN (by omega) (by omega)]
    generalize s % (2 * (n : Int)) = t at *
    split <;> split <;> split <;> split <;> omega
theorem Dia.refl {x : Bool} {n : Nat} {P : List (Int × Int)} (h : Dia x n P) : Dia x n (sortT eII (P.map (Ty.ren fun y => 2 * n + 1 - y))) := by
  refine h.ren _ (fun y => 2 * n + 1 - y) (fun y h1 h2 => by omega) (fun y h1 h2 => by omega) (fun a b c d a1 a2 a3 a4 a5 a6 ds nc => ?_)
  unfold Nc Ty.ren at *
  unfold Ds at ds
  simp only [] at *
  omega
/-! ### words and their diagrams -/
def c2 (p : Nat × Nat) : Int × Int := ((p.1 : Int) + 1, (p.2 : Int) + 1)
structure DiaW (bs : List Bool) (P : List (Int × Int)) : Prop where
  n : ∃ n, bs.length = 2 * n ∧ Dia false n P
  r : ∀ p ∈ P, ∃ i j, Ma.R bs i j ∧ p = c2 (i, j)
theorem R_nc {bs : List Bool} {i j k l : Nat} (h : Ma.R bs i j) (h' : Ma.R bs k l) : ¬ (i < k ∧ k < j ∧ j < l) := fun ⟨a, b, c⟩ => by
  have u := h.up k a (by omega)
  have v := h'.up (j + 1) (by omega) (by omega)
  rw [h.eq] at v
  omega
/-- what the loop over the letters keeps -/
structure StkW (bs : List Bool) (m : Nat) (W : List Nat) (P : List (Nat × Nat)) : Prop where
  s : Ma.Stk bs m W P
  nd : P.Nodup
  cnt : W.length + 2 * P.length = m
theorem StkW.start (bs : List Bool) : StkW bs 0 [] [] := ⟨.start bs, List.nodup_nil, rfl⟩
theorem StkW.push {bs : List Bool} {m : Nat} {W : List Nat} {P : List (Nat × Nat)} (h : StkW bs m W P) (hb : bs[m]? = some true) : StkW bs (m + 1) (W ++ [m]) P := ⟨h.s.push hb, h.nd, by have := h.cnt; simp; omega⟩
theorem StkW.pop {bs : List Bool} {m : Nat} {W : List Nat} {P : List (Nat × Nat)} (h : StkW bs m W P) (hb : bs[m]? = some false) (nn : 0 ≤ Ma.ht bs (m + 1)) : ∃ i, W[W.length - 1]? = some i ∧ StkW bs (m + 1) W.dropLast (P ++ [(i, m)]) := by
  obtain ⟨i, hi, s⟩ := h.s.pop hb nn
  refine ⟨i, hi, s, ?_, ?_⟩
  · rw [List.nodup_append]
    refine ⟨h.nd, by simp, fun a ha b hb e => ?_⟩
    cases List.mem_singleton.mp hb
    subst e
    have := (h.s.pr _ ha).2
    simp at this
  · have := h.cnt
    have l := Ma.get_lt hi
    simp
    omega
theorem StkW.dia {bs : List Bool} {W : List Nat} {P : List (Nat × Nat)} (h : StkW bs bs.length W P) (d : Ma.Dyck bs) : DiaW bs (sortT eII (P.map c2)) := by
  obtain ⟨hW, hR, hall⟩ := h.s.all d
  subst hW
  have cnt := h.cnt
  rw [List.length_nil, Nat.zero_add] at cnt
  refine ⟨⟨P.length, cnt.symm, ?_⟩, fun p hp => ?_⟩
  · have pw : P.Pairwise fun p q => p ≠ q := h.nd
    refine .of_sort (by simp) (fun p hp => ?_) ?_ (fun _ => ?_) (fun y h1 h2 => ?_)
    · obtain ⟨q, hq, rfl⟩ := List.mem_map.mp hp
      have r := hR q hq
      have := r.lt
      have := r.le
      show 1 ≤ (q.1 : Int) + 1 ∧ (q.1 : Int) + 1 < (q.2 : Int) + 1 ∧ (q.2 : Int) + 1 ≤ _
      omega
    · rw [List.pairwise_map]
      refine List.Pairwise.imp_of_mem (fun {a b} ha hb ne => ?_) pw
      have r := hR a ha
      have s := hR b hb
      show (a.1 : Int) + 1 ≠ b.1 + 1 ∧ (a.1 : Int) + 1 ≠ b.2 + 1 ∧ (a.2 : Int) + 1 ≠ b.1 + 1 ∧ (a.2 : Int) + 1 ≠ b.2 + 1
      refine ⟨fun e => ?_, fun e => ?_, fun e => ?_, fun e => ?_⟩
      · have e : a.1 = b.1 := by omega
        rw [e] at r
        exact ne (Prod.ext e (r.right s))
      · have e : a.1 = b.2 := by omega
        have u := r.isU
        have v := s.isD
        rw [e, v] at u
        cases u
      · have e : a.2 = b.1 := by omega
        have u := r.isD
        have v := s.isU
        rw [e, v] at u
        cases u
      · have e : a.2 = b.2 := by omega
        rw [e] at r
        exact ne (Prod.ext (r.left s) e)
    · rw [List.pairwise_map]
      refine List.Pairwise.imp_of_mem (fun {a b} ha hb ne => ?_) pw
      have r := hR a ha
      have s := hR b hb
      have n1 := R_nc r s
      have n2 := R_nc s r
      show ¬ ((a.1 : Int) + 1 < b.1 + 1 ∧ (b.1 : Int) + 1 < a.2 + 1 ∧ (a.2 : Int) + 1 < b.2 + 1) ∧ ¬ ((b.1 : Int) + 1 < a.1 + 1 ∧ (a.1 : Int) + 1 < b.2 + 1 ∧ (b.2 : Int) + 1 < a.2 + 1)
      omega
    · obtain ⟨j, _, hj⟩ := hall (y - 1).toNat (by omega)
      rcases hj with hj | hj
      · exact ⟨_, List.mem_map_of_mem hj, .inl (by show (((y - 1).toNat : Nat) : Int) + 1 = y; omega)⟩
      · exact ⟨_, List.mem_map_of_mem hj, .inr (by show (((y - 1).toNat : Nat) : Int) + 1 = y; omega)⟩
  · obtain ⟨q, hq, rfl⟩ := List.mem_map.mp (sortT_mem.mp hp)
    exact ⟨q.1, q.2, hR q hq, rfl⟩
end Ty
namespace Ty
open PySem Fd
theorem ht_app {bs : List Bool} {b : Bool} {q : Nat} (h : q ≤ bs.length) : Ma.ht (bs ++ [b]) q = Ma.ht bs q := by
  unfold Ma.ht
  rw [List.take_append_of_le_length h]
theorem nn_snoc {bs : List Bool} {b : Bool} (h : ∀ q, q ≤ bs.length → 0 ≤ Ma.ht bs q) (h2 : 0 ≤ Ma.hg bs + Ma.sg b) : ∀ q, q ≤ (bs ++ [b]).length → 0 ≤ Ma.ht (bs ++ [b]) q := by
  intro q hq
  rw [List.length_append, List.length_singleton] at hq
  by_cases c : q ≤ bs.length
  · rw [ht_app c]
    exact h q c
  · have e : q = (bs ++ [b]).length := by rw [List.length_append, List.length_singleton]; omega
    rw [e, Ma.ht_all, Ma.hg_app]
    show 0 ≤ Ma.hg bs + (Ma.sg b + 0)
    omega
theorem hg_snoc (bs : List Bool) (b : Bool) : Ma.hg (bs ++ [b]) = Ma.hg bs + Ma.sg b := by
  rw [Ma.hg_app]
  show Ma.hg bs + (Ma.sg b + 0) = _
  omega
theorem enum_txt {bs : List Bool} {j : Nat} {p : Int × Str} (h : (enumT 0 (chars (Ma.txt bs)))[j]? = some p) : ∃ b, bs[j]? = some b ∧ p = ((j : Int), Ma.s1 b) := by
  obtain ⟨h1, h2⟩ := enum_get0 h
  rw [chars_txt, List.getElem?_map] at h2
  cases g : bs[j]? with
  | none => rw [g] at h2; cases h2
  | some b =>
    rw [g] at h2
    have h2 : Ma.s1 b = p.2 := by injection h2
    exact ⟨b, rfl, Prod.ext h1 h2.symm⟩
theorem enum_txt_len (bs : List Bool) : (enumT 0 (chars (Ma.txt bs))).length = bs.length := by rw [enum_len, chars_txt, List.length_map]
/-- the numbers of a list of places -/
def pos1 (W : List Nat) : List Int := W.map fun i => ((i : Nat) : Int) + 1
theorem pos1_pop {W : List Nat} {i : Nat} (h : W[W.length - 1]? = some i) : popL (pos1 W) = some (pos1 W.dropLast, (i : Int) + 1) := by
  unfold popL pos1
  rw [List.length_map, List.getElem?_map, h, ← List.map_dropLast]
  rfl
end Ty
/-! Ty, part 8: the words of one length numbered. -/
namespace Ty
open PySem Fd
/-- completions of a height -/
def Cm : Nat → List Bool → Prop
  | h, [] => h = 0
  | h, true :: bs => Cm (h + 1) bs
  | h, false :: bs => 0 < h ∧ Cm (h - 1) bs
theorem F_zero (l : Nat) : Ma.F l 0 = if l = 0 then 1 else 0 := by
  cases l with
  | zero => rfl
  | succ l => rw [Ma.F_big (by omega)]; rfl
theorem F_nn : ∀ (n l : Nat), 0 ≤ Ma.F l n
  | 0, l => by rw [F_zero]; split <;> decide
  | n + 1, 0 => by rw [Ma.F_step0]; exact F_nn n 1
  | n + 1, l + 1 => by
    rw [Ma.F_step]
    have a := F_nn n l
    have b := F_nn n (l + 2)
    omega
/-- the number of a completion -/
def num : Nat → List Bool → Int
  | _, [] => 0
  | h, true :: bs => (if h = 0 then 0 else Ma.F (h - 1) bs.length) + num (h + 1) bs
  | h, false :: bs => num (h - 1) bs
theorem F_up (h n : Nat) : Ma.F h (n + 1) = (if h = 0 then 0 else Ma.F (h - 1) n) + Ma.F (h + 1) n := by
  cases h with
  | zero => rw [Ma.F_step0]; simp
  | succ h => rw [Ma.F_step]; rfl
theorem num_lt : ∀ {bs : List Bool} {h : Nat}, Cm h bs → 0 ≤ num h bs ∧ num h bs < Ma.F h bs.length
  | [], h, c => by
    have c : h = 0 := c
    subst c
    exact ⟨by decide, by decide⟩
  | true :: bs, h, c => by
    obtain ⟨a, b⟩ := num_lt (bs := bs) (h := h + 1) c
    have nn := F_nn bs.length (h - 1)
    show 0 ≤ (if h = 0 then 0 else Ma.F (h - 1) bs.length) + num (h + 1) bs ∧ _ < Ma.F h (bs.length + 1)
    rw [F_up]
    show _ ∧ (if h = 0 then 0 else Ma.F (h - 1) bs.length) + num (h + 1) bs < _
    split <;> omega
  | false :: bs, h, c => by
    obtain ⟨h0, c⟩ := c
    obtain ⟨a, b⟩ := num_lt (bs := bs) (h := h - 1) c
    have nn := F_nn bs.length (h + 1)
    show 0 ≤ num (h - 1) bs ∧ num (h - 1) bs < Ma.F h (bs.length + 1)
    rw [F_up, if_neg (by omega)]
    omega
theorem Cm.par : ∀ {bs : List Bool} {h : Nat}, Cm h bs → ∃ r, bs.length = h + 2 * r
  | [], h, c => ⟨0, by have c : h = 0 := c; subst c; rfl⟩
  | true :: bs, h, c => by
    obtain ⟨r, e⟩ := Cm.par (bs := bs) (h := h + 1) c
    exact ⟨r + 1, by rw [List.length_cons]; omega⟩
  | false :: bs, h, c => by
    obtain ⟨r, e⟩ := Cm.par (bs := bs) (h := h - 1) c.2
    have := c.1
    exact ⟨r, by rw [List.length_cons]; omega⟩
theorem num_inj : ∀ {as bs : List Bool} {h : Nat}, as.length = bs.length → Cm h as → Cm h bs → num h as = num h bs → as = bs
  | [], [], _, _, _, _, _ => rfl
  | [], _ :: _, _, l, _, _, _ => by simp at l
  | _ :: _, [], _, l, _, _, _ => by simp at l
  | true :: as, true :: bs, h, l, ca, cb, e => by
    rw [List.length_cons, List.length_cons] at l
    have l : as.length = bs.length := by omega
    have e : (if h = 0 then 0 else Ma.F (h - 1) as.length) + num (h + 1) as = (if h = 0 then 0 else Ma.F (h - 1) bs.length) + num (h + 1) bs := e
    rw [l] at e
    rw [num_inj (as := as) (bs := bs) (h := h + 1) l ca cb (by omega)]
  | false :: as, false :: bs, h, l, ca, cb, e => by
    rw [List.length_cons, List.length_cons] at l
    rw [num_inj (as := as) (bs := bs) (h := h - 1) (by omega) ca.2 cb.2 e]
  | true :: as, false :: bs, h, l, ca, cb, e => by
    exfalso
    have a := num_lt (bs := as) (h := h + 1) ca
    have b := num_lt (bs := bs) (h := h - 1) cb.2
    rw [List.length_cons, List.length_cons] at l
    have l : as.length = bs.length := by omega
    have h0 := cb.1
    have e : (if h = 0 then 0 else Ma.F (h - 1) as.length) + num (h + 1) as = num (h - 1) bs := e
    rw [l, if_neg (by omega)] at e
    omega
  | false :: as, true :: bs, h, l, ca, cb, e => by
    exfalso
    have a := num_lt (bs := bs) (h := h + 1) cb
    have b := num_lt (bs := as) (h := h - 1) ca.2
    rw [List.length_cons, List.length_cons] at l
    have l : as.length = bs.length := by omega
    have h0 := ca.1
    have e : num (h - 1) as = (if h = 0 then 0 else Ma.F (h - 1) bs.length) + num (h + 1) bs := e
    rw [← l, if_neg (by omega)] at e
    omega
/-- the order of the letters -/
def ltB : List Bool → List Bool → Bool
  | [], [] => false
  | [], _ :: _ => true
  | _ :: _, [] => false
  | false :: _, true :: _ => true
  | true :: _, false :: _ => false
  | false :: as, false :: bs => ltB as bs
  | true :: as, true :: bs => ltB as bs
theorem ltB_num : ∀ {as bs : List Bool} {h : Nat}, as.length = bs.length → Cm h as → Cm h bs → (ltB as bs = true ↔ num h as < num h bs)
  | [], [], _, _, _, _ => by simp [ltB]
  | [], _ :: _, _, l, _, _ => by simp at l
  | _ :: _, [], _, l, _, _ => by simp at l
  | true :: as, true :: bs, h, l, ca, cb => by
    rw [List.length_cons, List.length_cons] at l
    have l : as.length = bs.length := by omega
    have := ltB_num (as := as) (bs := bs) (h := h + 1) l ca cb
    show ltB as bs = true ↔ (if h = 0 then 0 else Ma.F (h - 1) as.length) + num (h + 1) as < (if h = 0 then 0 else Ma.F (h - 1) bs.length) + num (h + 1) bs
    rw [l, this]
    omega
  | false :: as, false :: bs, h, l, ca, cb => by
    rw [List.length_cons, List.length_cons] at l
    exact ltB_num (as := as) (bs := bs) (h := h - 1) (by omega) ca.2 cb.2
  | true :: as, false :: bs, h, l, ca, cb => by
    have a := num_lt (bs := as) (h := h + 1) ca
    have b := num_lt (bs := bs) (h := h - 1) cb.2
    rw [List.length_cons, List.length_cons] at l
    have l : as.length = bs.length := by omega
    have h0 := cb.1
    show false = true ↔ (if h = 0 then 0 else Ma.F (h - 1) as.length) + num (h + 1) as < num (h - 1) bs
    rw [l, if_neg (by omega)]
    exact ⟨(fun x => by cases x), (fun x => by omega)⟩
  | false :: as, true :: bs, h, l, ca, cb => by
    have a := num_lt (bs := bs) (h := h + 1) cb
    have b := num_lt (bs := as) (h := h - 1) ca.2
    rw [List.length_cons, List.length_cons] at l
    have l : as.length = bs.length := by omega
    have h0 := ca.1
    show true = true ↔ num (h - 1) as < (if h = 0 then 0 else Ma.F (h - 1) bs.length) + num (h + 1) bs
    rw [← l, if_neg (by omega)]
    refine ⟨fun _ => by omega, fun _ => rfl⟩
theorem ltB_txt : ∀ as bs : List Bool, decide ((as.map Ma.ch) < (bs.map Ma.ch)) = ltB as bs
  | [], [] => rfl
  | [], _ :: _ => rfl
  | _ :: _, [] => rfl
  | a :: as, b :: bs => by
    have ih := ltB_txt as bs
    cases a <;> cases b <;> simp [Ma.ch, ltB, List.cons_lt_cons_iff] <;> rw [← ih] <;> simp
theorem ltS_txt (as bs : List Bool) : ltS (Ma.txt as) (Ma.txt bs) = ltB as bs := by
  unfold ltS Ma.txt
  exact ltB_txt as bs
/-! ### the smallest and the greatest one -/
def minc : Nat → Nat → List Bool
  | 0, 0 => []
  | _ + 1, 0 => []
  | 0, n + 1 => true :: minc 1 n
  | h + 1, n + 1 => false :: minc h n
def maxc : Nat → Nat → List Bool
  | _, 0 => []
  | h, n + 1 => if h + 1 ≤ n then true :: maxc (h + 1) n else false :: maxc (h - 1) n
theorem minc_len : ∀ (n h : Nat), (minc h n).length = n
  | 0, 0 => rfl
  | 0, _ + 1 => rfl
  | n + 1, 0 => by show (minc 1 n).length + 1 = _; rw [minc_len n 1]
  | n + 1, h + 1 => by show (minc h n).length + 1 = _; rw [minc_len n h]
theorem minc_ok : ∀ (n h : Nat), (∃ r, n = h + 2 * r) → Cm h (minc h n) ∧ num h (minc h n) = 0
  | 0, 0, _ => ⟨rfl, rfl⟩
  | 0, _ + 1, ⟨r, e⟩ => by omega
  | n + 1, 0, ⟨r, e⟩ => by
    obtain ⟨a, b⟩ := minc_ok n 1 ⟨r - 1, by omega⟩
    exact ⟨a, by show (0 : Int) + num 1 (minc 1 n) = 0; rw [b]; rfl⟩
  | n + 1, h + 1, ⟨r, e⟩ => by
    obtain ⟨a, b⟩ := minc_ok n h ⟨r, by omega⟩
    exact ⟨⟨by omega, a⟩, b⟩
theorem maxc_len : ∀ (n h : Nat), (maxc h n).length = n
  | 0, _ => rfl
  | n + 1, h => by
    unfold maxc
    split <;> rw [List.length_cons, maxc_len n]
theorem maxc_ok : ∀ (n h : Nat), (∃ r, n = h + 2 * r) → Cm h (maxc h n) ∧ num h (maxc h n) = Ma.F h n - 1
  | 0, h, ⟨r, e⟩ => by
    have : h = 0 := by omega
    subst this
    exact ⟨rfl, rfl⟩
  | n + 1, h, ⟨r, e⟩ => by
    unfold maxc
    by_cases c : h + 1 ≤ n
    · rw [if_pos c]
      obtain ⟨a, b⟩ := maxc_ok n (h + 1) ⟨r - 1, by omega⟩
      refine ⟨a, ?_⟩
      show (if h = 0 then 0 else Ma.F (h - 1) (maxc (h + 1) n).length) + num (h + 1) (maxc (h + 1) n) = _
      rw [maxc_len, b, F_up]
      omega
    · rw [if_neg c]
      obtain ⟨a, b⟩ := maxc_ok n (h - 1) ⟨r, by omega⟩
      refine ⟨⟨by omega, a⟩, ?_⟩
      show num (h - 1) (maxc (h - 1) n) = _
      rw [b, F_up, if_neg (by omega), Ma.F_big (show n < h + 1 by omega)]
      omega
/-! ### the next one, the one before -/
def hup (h : Nat) (b : Bool) : Nat := if b then h + 1 else h - 1
def nxt : Nat → List Bool → Option (List Bool)
  | _, [] => none
  | h, b :: bs => match nxt (hup h b) bs with
    | some cs => some (b :: cs)
    | none => if b = false ∧ h + 1 ≤ bs.length then some (true :: minc (h + 1) bs.length) else none
def prv : Nat → List Bool → Option (List Bool)
  | _, [] => none
  | h, b :: bs => match prv (hup h b) bs with
    | some cs => some (b :: cs)
    | none => if b = true ∧ 0 < h then some (false :: maxc (h - 1) bs.length) else none
theorem nxt_cons (h : Nat) (b : Bool) (bs : List Bool) : nxt h (b :: bs) = match nxt (hup h b) bs with
    | some cs => some (b :: cs)
    | none => if b = false ∧ h + 1 ≤ bs.length then some (true :: minc (h + 1) bs.length) else none := rfl
theorem prv_cons (h : Nat) (b : Bool) (bs : List Bool) : prv h (b :: bs) = match prv (hup h b) bs with
    | some cs => some (b :: cs)
    | none => if b = true ∧ 0 < h then some (false :: maxc (h - 1) bs.length) else none := rfl
theorem nxt_ok : ∀ {bs : List Bool} {h : Nat}, Cm h bs → match nxt h bs with
    | none => num h bs = Ma.F h bs.length - 1
    | some cs => Cm h cs ∧ cs.length = bs.length ∧ num h cs = num h bs + 1
  | [], h, c => by
    have c : h = 0 := c
    subst c
    rfl
  | true :: bs, h, c => by
    have ih := nxt_ok (bs := bs) (h := h + 1) c
    unfold nxt
    show match (match nxt (h + 1) bs with
      | some cs => some (true :: cs)
      | none => if true = false ∧ h + 1 ≤ bs.length then some (true :: minc (h + 1) bs.length) else none) with
      | none => _
      | some cs => _
    cases e : nxt (h + 1) bs with
    | some cs =>
      rw [e] at ih
      obtain ⟨a, b, d⟩ := ih
      refine ⟨a, by rw [List.length_cons, List.length_cons, b], ?_⟩
      show (if h = 0 then 0 else Ma.F (h - 1) cs.length) + num (h + 1) cs = (if h = 0 then 0 else Ma.F (h - 1) bs.length) + num (h + 1) bs + 1
      rw [b, d]
      omega
    | none =>
      rw [e] at ih
      have ih : num (h + 1) bs = Ma.F (h + 1) bs.length - 1 := ih
      dsimp only
      rw [if_neg (by simp)]
      show (if h = 0 then 0 else Ma.F (h - 1) bs.length) + num (h + 1) bs = Ma.F h (bs.length + 1) - 1
      rw [F_up, ih]
      omega
  | false :: bs, h, c => by
    have h0 := c.1
    have ih := nxt_ok (bs := bs) (h := h - 1) c.2
    obtain ⟨r, hr⟩ := Cm.par c.2
    unfold nxt
    show match (match nxt (h - 1) bs with
      | some cs => some (false :: cs)
      | none => if false = false ∧ h + 1 ≤ bs.length then some (true :: minc (h + 1) bs.length) else none) with
      | none => _
      | some cs => _
    cases e : nxt (h - 1) bs with
    | some cs =>
      rw [e] at ih
      obtain ⟨a, b, d⟩ := ih
      exact ⟨⟨h0, a⟩, by rw [List.length_cons, List.length_cons, b], d⟩
    | none =>
      rw [e] at ih
      have ih : num (h - 1) bs = Ma.F (h - 1) bs.length - 1 := ih
      dsimp only
      by_cases q : h + 1 ≤ bs.length
      · rw [if_pos ⟨rfl, q⟩]
        obtain ⟨a, b⟩ := minc_ok bs.length (h + 1) ⟨r - 1, by omega⟩
        refine ⟨a, by rw [List.length_cons, List.length_cons, minc_len], ?_⟩
        show (if h = 0 then 0 else Ma.F (h - 1) (minc (h + 1) bs.length).length) + num (h + 1) (minc (h + 1) bs.length) = num (h - 1) bs + 1
        rw [minc_len, b, ih, if_neg (by omega)]
        omega
      · rw [if_neg (fun x => q x.2)]
        show num (h - 1) bs = Ma.F h (bs.length + 1) - 1
        rw [F_up, if_neg (by omega), ih, Ma.F_big (show bs.length < h + 1 by omega)]
        omega
theorem prv_ok : ∀ {bs : List Bool} {h : Nat}, Cm h bs → match prv h bs with
    | none => num h bs = 0
    | some cs => Cm h cs ∧ cs.length = bs.length ∧ num h cs = num h bs - 1
  | [], h, c => rfl
  | true :: bs, h, c => by
    have ih := prv_ok (bs := bs) (h := h + 1) c
    obtain ⟨r, hr⟩ := Cm.par (show Cm (h + 1) bs from c)
    unfold prv
    show match (match prv (h + 1) bs with
      | some cs => some (true :: cs)
      | none => if true = true ∧ 0 < h then some (false :: maxc (h - 1) bs.length) else none) with
      | none => _
      | some cs => _
    cases e : prv (h + 1) bs with
    | some cs =>
      rw [e] at ih
      obtain ⟨a, b, d⟩ := ih
      refine ⟨a, by rw [List.length_cons, List.length_cons, b], ?_⟩
      show (if h = 0 then 0 else Ma.F (h - 1) cs.length) + num (h + 1) cs = (if h = 0 then 0 else Ma.F (h - 1) bs.length) + num (h + 1) bs - 1
      rw [b, d]
      omega
    | none =>
      rw [e] at ih
      have ih : num (h + 1) bs = 0 := ih
      dsimp only
      by_cases q : 0 < h
      · rw [if_pos ⟨rfl, q⟩]
        obtain ⟨a, b⟩ := maxc_ok bs.length (h - 1) ⟨r + 1, by omega⟩
        refine ⟨⟨q, a⟩, by rw [List.length_cons, List.length_cons, maxc_len], ?_⟩
        show num (h - 1) (maxc (h - 1) bs.length) = (if h = 0 then 0 else Ma.F (h - 1) bs.length) + num (h + 1) bs - 1
        rw [b, ih, if_neg (by omega)]
        omega
      · rw [if_neg (fun x => q x.2)]
        show (if h = 0 then 0 else Ma.F (h - 1) bs.length) + num (h + 1) bs = 0
        rw [ih, if_pos (by omega)]
        rfl
  | false :: bs, h, c => by
    have h0 := c.1
    have ih := prv_ok (bs := bs) (h := h - 1) c.2
    unfold prv
    show match (match prv (h - 1) bs with
      | some cs => some (false :: cs)
      | none => if false = true ∧ 0 < h then some (false :: maxc (h - 1) bs.length) else none) with
      | none => _
      | some cs => _
    cases e : prv (h - 1) bs with
    | some cs =>
      rw [e] at ih
      obtain ⟨a, b, d⟩ := ih
      exact ⟨⟨h0, a⟩, by rw [List.length_cons, List.length_cons, b], d⟩
    | none =>
      rw [e] at ih
      dsimp only
      rw [if_neg (by simp)]
      exact ih
/-! ### from the number to the word -/
def unr : Nat → Nat → Int → List Bool
  | _, 0, _ => []
  | h, n + 1, k => if k < (if h = 0 then 0 else Ma.F (h - 1) n) then false :: unr (h - 1) n k else true :: unr (h + 1) n (k - (if h = 0 then 0 else Ma.F (h - 1) n))
theorem unr_len : ∀ (n h : Nat) (k : Int), (unr h n k).length = n
  | 0, _, _ => rfl
  | n + 1, h, k => by
    unfold unr
    by_cases c : k < (if h = 0 then 0 else Ma.F (h - 1) n)
    · rw [if_pos c, List.length_cons, unr_len n]
    · rw [if_neg c, List.length_cons, unr_len n]
theorem unr_ok : ∀ (n h : Nat) (k : Int), 0 ≤ k → k < Ma.F h n → Cm h (unr h n k) ∧ num h (unr h n k) = k
  | 0, h, k, h0, h1 => by
    rw [F_zero] at h1
    by_cases c : h = 0
    · subst c
      exact ⟨rfl, by show (0 : Int) = k; rw [if_pos rfl] at h1; omega⟩
    · rw [if_neg c] at h1
      omega
  | n + 1, h, k, h0, h1 => by
    rw [F_up] at h1
    unfold unr
    by_cases c : k < (if h = 0 then 0 else Ma.F (h - 1) n)
    · rw [if_pos c]
      have hh : h ≠ 0 := fun e => by rw [if_pos e] at c; omega
      rw [if_neg hh] at c
      obtain ⟨a, b⟩ := unr_ok n (h - 1) k h0 c
      exact ⟨⟨by omega, a⟩, b⟩
    · rw [if_neg c]
      obtain ⟨a, b⟩ := unr_ok n (h + 1) (k - (if h = 0 then 0 else Ma.F (h - 1) n)) (by omega) (by omega)
      refine ⟨a, ?_⟩
      show (if h = 0 then 0 else Ma.F (h - 1) (unr (h + 1) n _).length) + num (h + 1) (unr (h + 1) n _) = k
      rw [unr_len, b]
      omega
/-! ### words -/
theorem Cm_iff : ∀ (bs : List Bool) (h : Nat), Cm h bs ↔ (∀ q, q ≤ bs.length → 0 ≤ (h : Int) + Ma.ht bs q) ∧ (h : Int) + Ma.hg bs = 0
  | [], h => by
    constructor
    · intro c
      have c : h = 0 := c
      subst c
      exact ⟨fun q _ => by unfold Ma.ht; rw [List.take_nil]; decide, rfl⟩
    · intro ⟨_, e⟩
      have e : (h : Int) + 0 = 0 := e
      show h = 0
      omega
  | b :: bs, h => by
    have key : ∀ q, Ma.ht (b :: bs) (q + 1) = Ma.sg b + Ma.ht bs q := fun q => by
      unfold Ma.ht
      rw [List.take_succ_cons]
      rfl
    have z : Ma.ht (b :: bs) 0 = 0 := Ma.ht_zero _
    have tot : Ma.hg (b :: bs) = Ma.sg b + Ma.hg bs := rfl
    cases b with
    | true =>
      show Cm (h + 1) bs ↔ _
      rw [Cm_iff bs (h + 1), tot]
      constructor
      · intro ⟨a, e⟩
        refine ⟨fun q hq => ?_, by show (h : Int) + (1 + Ma.hg bs) = 0; omega⟩
        cases q with
        | zero => rw [z]; omega
        | succ q =>
          have := a q (by rw [List.length_cons] at hq; omega)
          rw [key]
          show 0 ≤ (h : Int) + (1 + Ma.ht bs q)
          omega
      · intro ⟨a, e⟩
        have e : (h : Int) + (1 + Ma.hg bs) = 0 := e
        refine ⟨fun q hq => ?_, by omega⟩
        have := a (q + 1) (by rw [List.length_cons]; omega)
        rw [key] at this
        have this : 0 ≤ (h : Int) + (1 + Ma.ht bs q) := this
        omega
    | false =>
      show (0 < h ∧ Cm (h - 1) bs) ↔ _
      rw [Cm_iff bs (h - 1), tot]
      constructor
      · intro ⟨h0, a, e⟩
        refine ⟨fun q hq => ?_, by show (h : Int) + (-1 + Ma.hg bs) = 0; omega⟩
        cases q with
        | zero => rw [z]; omega
        | succ q =>
          have := a q (by rw [List.length_cons] at hq; omega)
          rw [key]
          show 0 ≤ (h : Int) + (-1 + Ma.ht bs q)
          omega
      · intro ⟨a, e⟩
        have e : (h : Int) + (-1 + Ma.hg bs) = 0 := e
        have one := a 1 (by rw [List.length_cons]; omega)
        rw [key, Ma.ht_zero] at one
        have one : 0 ≤ (h : Int) + (-1 + 0) := one
        refine ⟨by omega, fun q hq => ?_, by omega⟩
        have := a (q + 1) (by rw [List.length_cons]; omega)
        rw [key] at this
        have this : 0 ≤ (h : Int) + (-1 + Ma.ht bs q) := this
        omega
theorem Cm_dyck (bs : List Bool) : Cm 0 bs ↔ Ma.Dyck bs := by
  rw [Cm_iff]
  constructor
  · intro ⟨a, e⟩
    exact ⟨fun q hq => by have := a q hq; omega, by omega⟩
  · intro d
    exact ⟨fun q hq => by have := d.nn q hq; omega, by have := d.fin; omega⟩
/-! ### texts -/
theorem arr_fold (xs : List Nat) : ∀ (k : Nat) (acc : Array Nat), ((List.replicate k xs.toArray).foldl (· ++ ·) acc).toList = acc.toList ++ (List.replicate k xs).flatten
  | 0, acc => by simp
  | k + 1, acc => by
    rw [List.replicate_succ, List.foldl_cons, arr_fold xs k, List.replicate_succ, List.flatten_cons, Array.toList_append, List.append_assoc]
def rep (k : Nat) (w : List Bool) : List Bool := (List.replicate k w).flatten
theorem rep_zero (w : List Bool) : rep 0 w = [] := rfl
theorem rep_succ (k : Nat) (w : List Bool) : rep (k + 1) w = w ++ rep k w := by
  unfold rep
  rw [List.replicate_succ, List.flatten_cons]
theorem rep_len (k : Nat) (w : List Bool) : (rep k w).length = k * w.length := by
  induction k with
  | zero => simp [rep]
  | succ k ih => rw [rep_succ, List.length_append, ih, Nat.succ_mul]; omega
theorem rep_snoc (k : Nat) (w : List Bool) : rep (k + 1) w = rep k w ++ w := by
  induction k with
  | zero => simp [rep]
  | succ k ih => rw [rep_succ, ih, ← List.append_assoc, ← rep_succ, ih]
theorem mul_txt (w : List Bool) (k : Nat) : Txt.mul (Ma.txt w) (k : Int) = Ma.txt (rep k w) := by
  unfold Txt.mul
  by_cases c : (k : Int) < 1
  · have : k = 0 := by omega
    subst this
    rw [if_pos c]
    rfl
  · rw [if_neg c]
    by_cases d : ((k : Int) == 1 || (Ma.txt w).length == 0) = true
    · rw [if_pos d]
      simp only [Bool.or_eq_true, beq_iff_eq] at d
      rcases d with d | d
      · have : k = 1 := by omega
        subst this
        simp [rep]
      · rw [Ma.txt_len] at d
        have : w = [] := List.eq_nil_of_length_eq_zero d
        subst this
        have e : rep k ([] : List Bool) = [] := List.eq_nil_of_length_eq_zero (by rw [rep_len]; rfl)
        rw [e]
    · rw [if_neg d]
      unfold Ma.txt
      have := arr_fold (w.map Ma.ch) k #[]
      rw [Int.toNat_natCast]
      congr 1
      apply Array.toList_inj.mp
      rw [this]
      unfold rep
      simp [List.map_flatten]
theorem mulS_txt {w : List Bool} {k : Nat} (h : w.length ≤ 16) (hk : k ≤ 1000) : mulS (Ma.txt w) (k : Int) = some (Ma.txt (rep k w)) := by
  unfold mulS
  rw [Ma.txt_len, if_pos ⟨h, by omega, by omega⟩, mul_txt]
theorem minc_up : ∀ (r : Nat), minc 0 (2 * r) = rep r [true, false]
  | 0 => rfl
  | r + 1 => by
    show true :: false :: minc 0 (2 * r) = _
    rw [minc_up r, rep_succ]
    rfl
theorem minc_eq : ∀ (h r : Nat), minc h (h + 2 * r) = rep h [false] ++ rep r [true, false]
  | 0, r => by rw [Nat.zero_add, minc_up]; rfl
  | h + 1, r => by
    rw [show h + 1 + 2 * r = (h + 2 * r) + 1 by omega]
    show false :: minc h (h + 2 * r) = _
    rw [minc_eq h r, rep_succ]
    rfl
theorem maxc_dn : ∀ (h : Nat), maxc h h = rep h [false]
  | 0 => rfl
  | h + 1 => by
    unfold maxc
    rw [if_neg (by omega), rep_succ]
    show false :: maxc h h = _
    rw [maxc_dn h]
    rfl
theorem maxc_eq : ∀ (r h : Nat), maxc h (h + 2 * r) = rep r [true] ++ rep (h + r) [false]
  | 0, h => maxc_dn h
  | r + 1, h => by
    rw [show h + 2 * (r + 1) = ((h + 1) + 2 * r) + 1 by omega]
    unfold maxc
    rw [if_pos (by omega), maxc_eq r (h + 1), rep_succ, show h + 1 + r = h + (r + 1) by omega]
    rfl
theorem le_txt (as bs : List Bool) : leD (eS' (Ma.txt as)) (eS' (Ma.txt bs)) = !ltB bs as := by
  rw [← ltS_txt]
  show (!PySem.W.dataLt (.str (Ma.txt bs)) (.str (Ma.txt as))) = _
  rw [PySem.W.dataLt_str]
  rfl
theorem sort_txt {xs : List (List Bool)} (h : xs.Pairwise fun a b => ltB b a = false) : sortP eS' (xs.map Ma.txt) = some (xs.map Ma.txt) := by
  have ok : sortOk ((xs.map Ma.txt).map eS') = true := by
    unfold sortOk
    simp only [Bool.and_eq_true, Bool.or_eq_true, List.all_eq_true]
    refine ⟨⟨fun d hd => ?_, fun d hd e he => ?_⟩, .inr fun d hd => ?_⟩
    · rw [List.map_map] at hd
      obtain ⟨b, _, rfl⟩ := List.mem_map.mp hd
      exact shaped_txt b
    · rw [List.map_map] at hd he
      obtain ⟨b, _, rfl⟩ := List.mem_map.mp hd
      obtain ⟨c, _, rfl⟩ := List.mem_map.mp he
      rfl
    · rw [List.map_map] at hd
      obtain ⟨b, _, rfl⟩ := List.mem_map.mp hd
      rfl
  unfold sortP sortT
  rw [if_pos ok]
  congr 1
  refine List.mergeSort_of_pairwise ?_
  rw [List.pairwise_map]
  refine h.imp fun {a b} h => ?_
  rw [le_txt, h]
  rfl
theorem mapR_via {α β γ : Type} {f : β → Rs γ} (g : α → β) (k : α → γ) : ∀ {xs : List α}, (∀ a ∈ xs, f (g a) = .ok (k a)) → mapR f (xs.map g) = .ok (xs.map k)
  | [], _ => rfl
  | x :: xs, h => by
    rw [List.map_cons]
    show (f (g x)).bind _ = _
    rw [h x (List.mem_cons_self ..), bind_ok, mapR_via g k fun a ha => h a (List.mem_cons_of_mem _ ha)]
    rfl
theorem mpR_via {α β γ : Type} {f : β → Rs γ} (g : α → β) (k : α → γ) {xs : List α} (hl : xs.length ≤ 16777216) (h : ∀ a ∈ xs, f (g a) = .ok (k a)) : mpR f (xs.map g) = .ok (xs.map k) := by
  unfold mpR
  rw [few_ok (by rw [List.length_map]; exact hl), ob_some, mapR_via g k h]
theorem zip_own {α β : Type} (g : α → β) : ∀ xs : List α, (xs.map g).zip xs = xs.map fun a => (g a, a)
  | [] => rfl
  | x :: xs => by
    rw [List.map_cons, List.zip_cons_cons, zip_own g xs]
    rfl
theorem sm_shaped {d : D} {k w : Nat} (h : Ma.Sm d k w) (hk : k ≤ 64) : SeqAt.shaped d = true := by
  show (d.canLay0 && decide (d.depth ≤ 64)) = true
  rw [h.lay, decide_eq_true (Nat.le_trans h.deep hk)]
  rfl
theorem first_min {P : List Int} {x : Int} (s : P.Pairwise (· ≤ ·)) (h : x ∈ P) (m : ∀ y ∈ P, x ≤ y) : P[0]? = some x := by
  cases P with
  | nil => cases h
  | cons p P =>
    have a := m p (List.mem_cons_self ..)
    rcases List.mem_cons.mp h with rfl | h
    · rfl
    · have b := (List.pairwise_cons.mp s).1 x h
      rw [show x = p by omega]
      rfl
theorem last_max {P : List Int} {x : Int} (s : P.Pairwise (· ≤ ·)) (h : x ∈ P) (m : ∀ y ∈ P, y ≤ x) : P[P.length - 1]? = some x := by
  rcases List.eq_nil_or_concat P with rfl | ⟨Q, p, rfl⟩
  · cases h
  · rw [List.concat_eq_append] at *
    have a := m p (by simp)
    have : x = p := by
      rcases List.mem_append.mp h with h | h
      · have := (List.pairwise_append.mp s).2.2 x h p (List.mem_singleton_self p)
        omega
      · exact List.mem_singleton.mp h
    simp [this]
theorem unr_first (m : Nat) : unr 0 (2 * m) 0 = rep m [true, false] := by
  obtain ⟨a, b⟩ := minc_ok (2 * m) 0 ⟨m, by omega⟩
  have l := num_lt a
  rw [minc_len, b] at l
  obtain ⟨c, d⟩ := unr_ok (2 * m) 0 0 (Int.le_refl _) l.2
  rw [← minc_up]
  exact num_inj (by rw [unr_len, minc_len]) c a (by rw [b, d])
theorem F_pos (m : Nat) : 0 < Ma.F 0 (2 * m) := by
  obtain ⟨a, b⟩ := minc_ok (2 * m) 0 ⟨m, by omega⟩
  have l := num_lt a
  rw [minc_len, b] at l
  exact l.2
theorem unr_last (m : Nat) : unr 0 (2 * m) (Ma.F 0 (2 * m) - 1) = rep m [true] ++ rep m [false] := by
  obtain ⟨a, b⟩ := maxc_ok (2 * m) 0 ⟨m, by omega⟩
  have p := F_pos m
  obtain ⟨c, d⟩ := unr_ok (2 * m) 0 (Ma.F 0 (2 * m) - 1) (by omega) (by omega)
  have e := maxc_eq m 0
  rw [Nat.zero_add, Nat.zero_add] at e
  rw [← e]
  exact num_inj (by rw [unr_len, maxc_len]) c a (by rw [b, d])
theorem loopR_inv {σ ρ : Type} {c : σ → Rs Bool} {f : σ → Rs (Bo σ ρ)} (Inv : Nat → σ → Prop) (Q : σ → Prop) (stp : ∀ n s, Inv n s → (c s = .ok false ∧ Q s) ∨ (c s = .ok true ∧ ∃ m s', m < n ∧ f s = .ok (.nx s') ∧ Inv m s')) : ∀ (n k : Nat) (s : σ), n < k → Inv n s → ∃ s', loopR c f k s = .ok (.nx s') ∧ Q s' := by
  intro n
  induction n using Nat.strongRecOn with
  | _ n ih =>
    intro k s hk hi
    cases k with
    | zero => omega
    | succ k =>
      unfold loopR
      rcases stp n s hi with ⟨a, b⟩ | ⟨a, m, s', hm, e, i⟩
      · rw [a]
        exact ⟨s, rfl, b⟩
      · rw [a, bind_ok, if_pos rfl, e]
        exact ih m hm k s' (by omega) i
end Ty
namespace k27
open PySem PySem.Spec PyProof.Rows L2 Fd
def tab_EXCHANGED : List (PySem.Str × PySem.Str) := [("U", "D"), ("D", "U")]
def B_is_any_integer : M Fl := (sRet (eAnd (eU opIsInt (eV 0)) (eNot (eU opIsBool (eV 0)))))
def S_is_any_integer : Fn := run 1 B_is_any_integer
def B_is_integer : M Fl := (sRet (eAnd (eF S_is_any_integer [false] [(eV 0)]) (eCh opLe opLe (eV 1) (eV 0) (eV 2))))
def S_is_integer : Fn := run 3 B_is_integer
def B_word_faults_1 : M Fl := (sSeq (sIf (tOr (tst (eU (opTabNot tab_EXCHANGED) (eV 3))) (tAnd (tst (eB opEq (eV 3) (eC (.str "D")))) (tst (eB opEq (eV 1) (eC (.int 0))))))
 (sRet (eLst [(eV 2)]))
 sNop)
 (sAug 1 opIAdd (eIf (tst (eB opEq (eV 3) (eC (.str "U")))) (eC (.int 1)) (eU opNeg (eC (.int 1))))))
def B_word_faults : M Fl := (sSeq (sIf (tOr (tNot (tst (eU opIsStr (eV 0)))) (tst (eB opGt (eN opLen [(eV 0)]) (eB opMul (eC (.int 2)) (eC (.int 30))))))
 (sRet (eLst [(eC .none)]))
 sNop)
 (sSeq (sSet (asg 1) (eC (.int 0)))
 (sSeq (sFor (iE (eV 0)) (.tp [(.nm 2), (.nm 3)]) B_word_faults_1)
 (sRet (eIf (tst (eB opGt (eV 1) (eC (.int 0)))) (eLst [(eN opLen [(eV 0)])]) (eLst []))))))
def S_word_faults : Fn := run 4 B_word_faults
def B_validate_word_1 : M Fl := stk
def B_validate_word : M Fl := (sFor (iD (eF S_word_faults [false] [(eV 0)])) (.nm 1) B_validate_word_1)
def S_validate_word : Fn := run 2 B_validate_word
def B_binomial_1 : M Fl := (sSet (asg 2) (eB opFdiv (eB opMul (eV 2) (eB opSub (eV 0) (eV 3))) (eB opAdd (eV 3) (eC (.int 1)))))
def B_binomial : M Fl := (sSeq (sIf (tNot (tst (eCh opLe opLe (eC (.int 0)) (eV 1) (eV 0))))
 (sRet (eC (.int 0)))
 sNop)
 (sSeq (sSet (asg 2) (eC (.int 1)))
 (sSeq (sFor (iN rng1 [(eN opMin [(eV 1), (eB opSub (eV 0) (eV 1))])]) (.nm 3) B_binomial_1)
 (sRet (eV 2)))))
def S_binomial : Fn := run 4 B_binomial
def B_completions : M Fl := (sSeq (sIf (tOr (tst (eB opGt (eV 0) (eV 1))) (tst (eB opEq (eB opMod (eB opSub (eV 1) (eV 0)) (eC (.int 2))) (eC (.int 1)))))
 (sRet (eC (.int 0)))
 sNop)
 (sSeq (sSet (asg 2) (eB opFdiv (eB opSub (eV 1) (eV 0)) (eC (.int 2))))
 (sRet (eB opSub (eF S_binomial [false, false] [(eV 1), (eV 2)]) (eF S_binomial [false, false] [(eV 1), (eB opSub (eV 2) (eC (.int 1)))])))))
def S_completions : Fn := run 3 B_completions
def B_check_size : M Fl := (sIf (tNot (tst (eF S_is_integer [false, false, false] [(eV 0), (eC (.int 0)), (eV 1)])))
 stk
 sNop)
def S_check_size : Fn := run 2 B_check_size
def B_word_count : M Fl := (sSeq (sEx (eF S_check_size [false, false] [(eV 0), (eC (.int 500))]))
 (sRet (eF S_completions [false, false] [(eC (.int 0)), (eB opMul (eC (.int 2)) (eV 0))])))
def S_word_count : Fn := run 1 B_word_count
def B_word_at_1 : M Fl := (sSeq (sSet (asg 5) (eIf (tst (eB opGt (eV 3) (eC (.int 0)))) (eF S_completions [false, false] [(eB opSub (eV 3) (eC (.int 1))), (eV 4)]) (eC (.int 0))))
 (sIf (tst (eB opLt (eV 1) (eV 5)))
 (sSeq (sEx (eChg 4 chAppend (eV 2) [(eC (.str "D"))]))
 (sAug 3 opSub (eC (.int 1))))
 (sSeq (sAug 1 opSub (eV 5))
 (sSeq (sEx (eChg 4 chAppend (eV 2) [(eC (.str "U"))]))
 (sAug 3 opIAdd (eC (.int 1)))))))
def B_word_at : M Fl := (sSeq (sEx (eF S_check_size [false, false] [(eV 0), (eC (.int 30))]))
 (sSeq (sIf (tNot (tst (eF S_is_integer [false, false, false] [(eV 1), (eC (.int 0)), (eB opSub (eF S_completions [false, false] [(eC (.int 0)), (eB opMul (eC (.int 2)) (eV 0))]) (eC (.int 1)))])))
 stk
 sNop)
 (sSeq (sUnpR [asg 2, asg 3] [(eLst []), (eC (.int 0))])
 (sSeq (sFor (iN rng3 [(eB opSub (eB opMul (eC (.int 2)) (eV 0)) (eC (.int 1))), (eU opNeg (eC (.int 1))), (eU opNeg (eC (.int 1)))]) (.nm 4) B_word_at_1)
 (sRet (eMth 3 opJoin (eC (.str "")) [(eV 2)]))))))
def S_word_at : Fn := run 6 B_word_at
def B_number_of_1 : M Fl := (sIf (tst (eB opEq (eV 4) (eC (.str "U"))))
 (sSeq (sAug 1 opIAdd (eIf (tst (eB opGt (eV 2) (eC (.int 0)))) (eF S_completions [false, false] [(eB opSub (eV 2) (eC (.int 1))), (eB opSub (eB opSub (eN opLen [(eV 0)]) (eC (.int 1))) (eV 3))]) (eC (.int 0))))
 (sAug 2 opIAdd (eC (.int 1))))
 (sAug 2 opSub (eC (.int 1))))
def B_number_of : M Fl := (sSeq (sEx (eF S_validate_word [false] [(eV 0)]))
 (sSeq (sUnp [(asg 1), (asg 2)] [(eC (.int 0)), (eC (.int 0))])
 (sSeq (sFor (iE (eV 0)) (.tp [(.nm 3), (.nm 4)]) B_number_of_1)
 (sRet (eV 1)))))
def S_number_of : Fn := run 5 B_number_of
def B_changed_places_1 : M Fl := (sSeq (sIf (tst (eB opEq (eV 5) (eV 1)))
 (sEx (eChg 4 chAppend (eV 2) [(eTup [(eV 4), (eV 3), (eB opSub (eB opSub (eN opLen [(eV 0)]) (eC (.int 1))) (eV 4))])]))
 sNop)
 (sAug 3 opIAdd (eIf (tst (eB opEq (eV 5) (eC (.str "U")))) (eC (.int 1)) (eU opNeg (eC (.int 1))))))
def B_changed_places : M Fl := (sSeq (sUnpR [asg 2, asg 3] [(eLst []), (eC (.int 0))])
 (sSeq (sFor (iE (eV 0)) (.tp [(.nm 4), (.nm 5)]) B_changed_places_1)
 (sRet (eU opRev (eV 2)))))
def S_changed_places : Fn := run 6 B_changed_places
def B_next_word_1 : M Fl := (sIf (tst (eB opLe (eB opAdd (eV 2) (eC (.int 1))) (eV 3)))
 (sSeq (sSet (asg 4) (eB opFdiv (eB opSub (eB opSub (eV 3) (eV 2)) (eC (.int 1))) (eC (.int 2))))
 (sRet (eB opAdd (eB opAdd (eB opAdd (eSl opSl (eV 0) none (some (eV 1))) (eC (.str "U"))) (eB opMul (eC (.str "D")) (eB opAdd (eV 2) (eC (.int 1))))) (eB opMul (eC (.str "UD")) (eV 4)))))
 sNop)
def B_next_word : M Fl := (sSeq (sEx (eF S_validate_word [false] [(eV 0)]))
 (sSeq (sFor (iD (eF S_changed_places [false, false] [(eV 0), (eC (.str "D"))])) (.tp [(.nm 1), (.nm 2), (.nm 3)]) B_next_word_1)
 (sRet (eC .none))))
def S_next_word : Fn := run 5 B_next_word
def B_previous_word_1 : M Fl := (sIf (tst (eB opGt (eV 2) (eC (.int 0))))
 (sSeq (sSet (asg 4) (eB opFdiv (eB opAdd (eB opSub (eV 3) (eV 2)) (eC (.int 1))) (eC (.int 2))))
 (sRet (eB opAdd (eB opAdd (eB opAdd (eSl opSl (eV 0) none (some (eV 1))) (eC (.str "D"))) (eB opMul (eC (.str "U")) (eV 4))) (eB opMul (eC (.str "D")) (eB opSub (eV 3) (eV 4))))))
 sNop)
def B_previous_word : M Fl := (sSeq (sEx (eF S_validate_word [false] [(eV 0)]))
 (sSeq (sFor (iD (eF S_changed_places [false, false] [(eV 0), (eC (.str "U"))])) (.tp [(.nm 1), (.nm 2), (.nm 3)]) B_previous_word_1)
 (sRet (eC .none))))
def S_previous_word : Fn := run 5 B_previous_word
def B__law_begun : M Fl := (sRet (eDct [((eC (.str "script")), (eV 0)), ((eC (.str "at")), (eC (.int 0))), ((eC (.str "left")), (eC (.int 0)))]))
def S__law_begun : Fn := run 1 B__law_begun
def B__law_next : M Fl := (sSeq (sIf (tst (eB opGt (eB opIx (eV 0) (eC (.str "left"))) (eC (.int 0))))
 (sSeq (sSet (asg 2) (eB opMod (eB opIx (eV 0) (eC (.str "left"))) (eV 1)))
 (sSeq (sSet (gPut putIx (eV 0) (eC (.str "left"))) (eB opFdiv (eB opIx (eV 0) (eC (.str "left"))) (eV 1)))
 (sRet (eV 2))))
 sNop)
 (sSeq (sSet (asg 3) (eB opIx (eV 0) (eC (.str "at"))))
 (sSeq (sSet (gPut putIx (eV 0) (eC (.str "at"))) (eB opAdd (eV 3) (eC (.int 1))))
 (sSeq (sSet (asg 4) (eIf (tst (eB opNe (eB opIx (eV 0) (eC (.str "script"))) (eLst []))) (eB opIx (eB opIx (eV 0) (eC (.str "script"))) (eB opMod (eV 3) (eN opLen [(eB opIx (eV 0) (eC (.str "script")))]))) (eC (.int 0))))
 (sSeq (sIf (tAnd (tst (eB opGe (eV 4) (eB opPow (eC (.int 10)) (eC (.int 18))))) (tst (eB opLt (eV 3) (eN opLen [(eB opIx (eV 0) (eC (.str "script")))]))))
 (sSeq (sSet (gPut putIx (eV 0) (eC (.str "left"))) (eB opFdiv (eV 4) (eV 1)))
 (sRet (eB opMod (eV 4) (eV 1))))
 sNop)
 (sSeq (sSet (asg 5) (eB opAdd (eB opMul (eB opMod (eV 4) (eC (.int 1000003))) (eC (.int 48271))) (eB opMod (eB opFdiv (eV 4) (eC (.int 1000003))) (eC (.int 1000003)))))
 (sSeq (sSet (asg 5) (eB opMod (eB opAdd (eB opAdd (eB opAdd (eV 5) (eB opMul (eB opMul (eC (.int 7919)) (eV 3)) (eV 3))) (eB opMul (eC (.int 104729)) (eV 3))) (eC (.int 43))) (eC (.int 2147483647))))
 (sRet (eB opMod (eB opFdiv (eB opMod (eB opMul (eB opMod (eB opMul (eV 5) (eV 5)) (eC (.int 2147483629))) (eC (.int 69621))) (eC (.int 2147483587))) (eC (.int 7))) (eV 1))))))))))
def S__law_next : Fn := run 6 B__law_next
def B__law_of : M Fl := (sRet (eB opIx (eV 1) (eF S__law_next [true, false] [(eV 0), (eN opLen [(eV 1)])])))
def S__law_of : Fn := run 2 B__law_of
def B__law_all_texts_2 : M Fl := (sSeq (sIf (tst (eB opGt (eV 5) (eC (.int 0))))
 (sEx (eChg 4 chAppend (eV 3) [(eTup [(eB opAdd (eV 4) (eC (.str "D"))), (eB opSub (eV 5) (eC (.int 1)))])]))
 sNop)
 (sIf (tst (eB opLt (eV 5) (eV 2)))
 (sEx (eChg 4 chAppend (eV 3) [(eTup [(eB opAdd (eV 4) (eC (.str "U"))), (eB opAdd (eV 5) (eC (.int 1)))])]))
 sNop))
def B__law_all_texts_1 : M Fl := (sSeq (sSet (asg 3) (eLst []))
 (sSeq (sFor (iD (eV 1)) (.tp [(.nm 4), (.nm 5)]) B__law_all_texts_2)
 (sSet (asg 1) (eV 3))))
def B__law_all_texts : M Fl := (sSeq (sSet (asg 1) (eLst [(eTup [(eC (.str "")), (eC (.int 0))])]))
 (sSeq (sFor (iN rng3 [(eB opMul (eC (.int 2)) (eV 0)), (eC (.int 0)), (eU opNeg (eC (.int 1)))]) (.nm 2) B__law_all_texts_1)
 (sRet (eLc [4, 5] (iD (eV 1)) (.tp [(.nm 4), (.nm 5)]) Fd.tYes (eV 4)))))
def S__law_all_texts : Fn := run 6 B__law_all_texts
def B__law_one_right : M Fl := (sSeq (sUnpR [asg 2, asg 3] [(eB opIx (eV 0) (eV 1)), (eB opFdiv (eN opLen [(eB opIx (eV 0) (eC (.int 0)))]) (eC (.int 2)))])
 (sSeq (sSet (asg 4) (eLst [(eF S_word_at [false, false] [(eV 3), (eV 1)]), (eFK S_word_at [false, false] [1, 0] [(eV 1), (eV 3)]), (eF S_number_of [false] [(eV 2)]), (eFK S_number_of [false] [0] [(eV 2)])]))
 (sSeq (sIf (tst (eB opNe (eN opRepr [(eV 4)]) (eN opRepr [(eLst [(eV 2), (eV 2), (eV 1), (eV 1)])])))
 (sRet (eC (.bool false)))
 sNop)
 (sSeq (sSet (asg 5) (eIf (tst (eB opLt (eB opAdd (eV 1) (eC (.int 1))) (eN opLen [(eV 0)]))) (eB opIx (eV 0) (eB opAdd (eV 1) (eC (.int 1)))) (eC .none)))
 (sSeq (sSet (asg 6) (eIf (tst (eB opGt (eV 1) (eC (.int 0)))) (eB opIx (eV 0) (eB opSub (eV 1) (eC (.int 1)))) (eC .none)))
 (sSeq (sSet (asg 4) (eLst [(eF S_next_word [false] [(eV 2)]), (eFK S_next_word [false] [0] [(eV 2)]), (eF S_previous_word [false] [(eV 2)]), (eFK S_previous_word [false] [0] [(eV 2)])]))
 (sRet (eB opEq (eN opRepr [(eV 4)]) (eN opRepr [(eLst [(eV 5), (eV 5), (eV 6), (eV 6)])])))))))))
def S__law_one_right : Fn := run 7 B__law_one_right
def B__law_size_right : M Fl := (sSeq (sSet (asg 2) (eFz (eF S__law_all_texts [false] [(eV 0)])))
 (sSeq (sIf (tst (eB opNe (eN opRepr [(eLst [(eF S_word_count [false] [(eV 0)]), (eFK S_word_count [false] [0] [(eV 0)])])]) (eN opRepr [(eRep (eLst [(eN opLen [(eV 2)])]) (eC (.int 2)))])))
 (sRet (eC (.bool false)))
 sNop)
 (sSeq (sSet (asg 3) (eIf (tst (eB opNe (eV 1) (eLst []))) (eLc [4] (iD (eV 1)) (.nm 4) Fd.tYes (eB opMod (eV 4) (eN opLen [(eV 2)]))) (eN opLR1 [(eN opLen [(eV 2)])])))
 (sRet (eB opEq (eLc [4] (iD (eV 3)) (.nm 4) (tNot (tst (eF S__law_one_right [false, false] [(eV 2), (eV 4)]))) (eV 4)) (eLst []))))))
def S__law_size_right : Fn := run 5 B__law_size_right
def B_law_1 : M Fl := (sIf (tNot (tst (eF S__law_size_right [false, false] [(eV 2), (eLst [])])))
 (sRet (eC (.bool false)))
 sNop)
def B_law_2 : M Fl := (sSeq (sSet (asg 2) (eB opAdd (eC (.int 7)) (eF S__law_next [true, false] [(eV 1), (eC (.int 2))])))
 (sIf (tNot (tst (eF S__law_size_right [false, false] [(eV 2), (eB opAdd (eLst [(eC (.int 0)), (eU opNeg (eC (.int 1)))]) (eLc [4] (iN rng1 [(eC (.int 12))]) (.nm 4) Fd.tYes (eF S__law_next [true, false] [(eV 1), (eC (.int 1430))])))])))
 (sRet (eC (.bool false)))
 sNop))
def B_law : M Fl := (sSeq (sSet (asg 1) (eF S__law_begun [false] [(eV 0)]))
 (sSeq (sFor (iD (eN opSSet [(eLst [(eF S__law_next [true, false] [(eV 1), (eC (.int 7))]), (eB opAdd (eC (.int 2)) (eF S__law_next [true, false] [(eV 1), (eC (.int 4))]))])])) (.nm 2) B_law_1)
 (sSeq (sFor (iN rng1 [(eB opAdd (eC (.int 1)) (eN opMin [(eC (.int 3)), (eN opLen [(eV 0)])]))]) (.nm 3) B_law_2)
 (sRet (eC (.bool true))))))
def S_law : Fn := run 5 B_law
def top (i : Nat) : Stmt := PySem.Challenge.pw_chordturn_k27_words_numbered.main.body.getD i (.Pass ⟨0, 0, 0, 0⟩)
structure Ns (w : World) (K : Fr) (mg : PySem.Str → Option Value) : Prop where
  EXCHANGED : mg "EXCHANGED" = some (.ref (He.ga K "EXCHANGED")) ∧ Table K w (He.ga K "EXCHANGED") tab_EXCHANGED
  MOST_COUNTED : ∃ t, mg "MOST_COUNTED" = some (.int 500 t)
  MOST_SIZE : ∃ t, mg "MOST_SIZE" = some (.int 30 t)
  bool : mg "bool" = none
  enumerate : mg "enumerate" = none
  int : mg "int" = none
  isinstance : mg "isinstance" = none
  len : mg "len" = none
  list : mg "list" = none
  min : mg "min" = none
  range : mg "range" = none
  repr : mg "repr" = none
  set : mg "set" = none
  sorted : mg "sorted" = none
  str : mg "str" = none
section
variable {P : Program} {w : World} {K : Fr} {mg : PySem.Str → Option Value} {base : Heap}
theorem sc_is_any_integer : FnScope ["value"] ["value"] (defScope (top 8)) := ⟨rfl, rfl, rfl, by decide +kernel, rfl, by decide +kernel, by decide +kernel⟩
theorem W_is_any_integer (n : Ns w K mg) (hm : ∃ f fd, mg "is_any_integer" = some (.ref f) ∧ FnP K "is_any_integer" (top 8) f fd) : DefOk P w K mg base 1 "is_any_integer" (top 8) ["value"] S_is_any_integer := by
  obtain ⟨f, fd, m, F⟩ := hm
  refine ⟨f, fd, m, F, fnG_of F sc_is_any_integer fun cdv A outer s H E ok => ?_⟩
  exact (ss_one (ss_ret (se_and (se_isi (se_v 0) rfl n.isinstance rfl n.int PyProof.Rows.boot_int (fun d => kit_int _ d)) (se_one (se_not (se_isi (se_v 0) rfl n.isinstance rfl n.bool PyProof.Rows.boot_bool (fun d => kit_bool _ d)))))))
theorem sc_is_integer : FnScope ["value", "least", "most"] ["value", "least", "most"] (defScope (top 9)) := ⟨rfl, rfl, rfl, by decide +kernel, rfl, by decide +kernel, by decide +kernel⟩
theorem W_is_integer (n : Ns w K mg) (hm : ∃ f fd, mg "is_integer" = some (.ref f) ∧ FnP K "is_integer" (top 9) f fd) (C_is_any_integer : DefOk P w K mg base 1 "is_any_integer" (top 8) ["value"] S_is_any_integer) : DefOk P w K mg base 2 "is_integer" (top 9) ["value", "least", "most"] S_is_integer := by
  obtain ⟨f_is_any_integer, fd_is_any_integer, m_is_any_integer, F_is_any_integer, G_is_any_integer⟩ := C_is_any_integer.ex
  obtain ⟨f, fd, m, F⟩ := hm
  refine ⟨f, fd, m, F, fnG_of F sc_is_integer fun cdv A outer s H E ok => ?_⟩
  exact (ss_one (ss_ret (se_and (se_call (ms := [false]) (G_is_any_integer.mono (by decide)) ok.toOk m_is_any_integer F_is_any_integer.kp (F_is_any_integer.bindsN fun _ _ _ _ _ _ us hl => match us, hl with | [_], _ => rfl) rfl (sa_cons (se_v 0) sa_nil)) (se_one (se_chain op_dle op_dle (se_v 1) (se_v 0) (se_v 2))))))
theorem sc_word_faults : FnScope ["value", "height", "position", "letter"] ["value"] (defScope (top 10)) := ⟨rfl, rfl, rfl, by decide +kernel, rfl, by decide +kernel, by decide +kernel⟩
theorem W_word_faults (n : Ns w K mg) (hm : ∃ f fd, mg "word_faults" = some (.ref f) ∧ FnP K "word_faults" (top 10) f fd) : DefOk P w K mg base 1 "word_faults" (top 10) ["value"] S_word_faults := by
  obtain ⟨f, fd, m, F⟩ := hm
  refine ⟨f, fd, m, F, fnG_of F sc_word_faults fun cdv A outer s H E ok => ?_⟩
  exact (ss_cons (ss_if (st_w (sw_or (st_not (st_val (se_isi (se_v 0) rfl n.isinstance rfl n.str PyProof.Rows.boot_str (fun d => kit_str _ d)))) (sw_or1 (st_cmp op_dgt (se_callB cr_len rfl n.len boot_len (sa_cons (se_v 0) sa_nil)) (se_bin op_dmul se_int (se_const rfl n.MOST_SIZE)) (by rfl)))))
 (ss_one (ss_ret (se_lst (sa_cons se_non sa_nil))))
 ss_nil)
 (ss_cons (ss_set 1 ok.toOk.nd se_int)
 (ss_cons (ss_for ok.own ok.toOk.calm (si_enum rfl n.enumerate (sa_cons (se_v 0) sa_nil)) (sp_tup ok.toOk.calm (sps_cons (sp_name 2 ok.toOk.nd) (sps_cons (sp_name 3 ok.toOk.nd) sps_nil)))
 (ss_cons (ss_if (st_w (sw_or (st_tabNot n.EXCHANGED.2 (se_v 3) rfl n.EXCHANGED.1) (sw_or1 (st_w (sw_and (st_cmp (op_deq ok.toOk.u64) (se_v 3) se_str (by rfl)) (sw_and1 (st_cmp (op_deq ok.toOk.u64) (se_v 1) se_int (by rfl))))))))
 (ss_one (ss_ret (se_lst (sa_cons (se_v 2) sa_nil))))
 ss_nil)
 (ss_one (ss_aug 1 ok.toOk.nd (se_if (st_cmp (op_deq ok.toOk.u64) (se_v 3) se_str (by rfl)) se_int (se_un un_dneg se_int)) ip_dadd))))
 (ss_one (ss_ret (se_if (st_cmp op_dgt (se_v 1) se_int (by rfl)) (se_lst (sa_cons (se_callB cr_len rfl n.len boot_len (sa_cons (se_v 0) sa_nil)) sa_nil)) (se_lst sa_nil)))))))
theorem sc_validate_word : FnScope ["word", "position"] ["word"] (defScope (top 11)) := ⟨rfl, rfl, rfl, by decide +kernel, rfl, by decide +kernel, by decide +kernel⟩
theorem W_validate_word (n : Ns w K mg) (hm : ∃ f fd, mg "validate_word" = some (.ref f) ∧ FnP K "validate_word" (top 11) f fd) (C_word_faults : DefOk P w K mg base 1 "word_faults" (top 10) ["value"] S_word_faults) : DefOk P w K mg base 2 "validate_word" (top 11) ["word"] S_validate_word := by
  obtain ⟨f_word_faults, fd_word_faults, m_word_faults, F_word_faults, G_word_faults⟩ := C_word_faults.ex
  obtain ⟨f, fd, m, F⟩ := hm
  refine ⟨f, fd, m, F, fnG_of F sc_validate_word fun cdv A outer s H E ok => ?_⟩
  exact (ss_one (ss_for ok.own ok.toOk.calm (si_data (se_call (ms := [false]) (G_word_faults.mono (by decide)) ok.toOk m_word_faults F_word_faults.kp (F_word_faults.bindsN fun _ _ _ _ _ _ us hl => match us, hl with | [_], _ => rfl) rfl (sa_cons (se_v 0) sa_nil))) (sp_name 1 ok.toOk.nd)
 (ss_one ss_stuck)))
theorem sc_binomial : FnScope ["total", "chosen", "found", "index"] ["total", "chosen"] (defScope (top 14)) := ⟨rfl, rfl, rfl, by decide +kernel, rfl, by decide +kernel, by decide +kernel⟩
theorem W_binomial (n : Ns w K mg) (hm : ∃ f fd, mg "binomial" = some (.ref f) ∧ FnP K "binomial" (top 14) f fd) : DefOk P w K mg base 1 "binomial" (top 14) ["total", "chosen"] S_binomial := by
  obtain ⟨f, fd, m, F⟩ := hm
  refine ⟨f, fd, m, F, fnG_of F sc_binomial fun cdv A outer s H E ok => ?_⟩
  exact (ss_cons (ss_if (st_not (st_chain op_dle op_dle se_int (se_v 1) (se_v 0)))
 (ss_one (ss_ret se_int))
 ss_nil)
 (ss_cons (ss_set 2 ok.toOk.nd se_int)
 (ss_cons (ss_for ok.own ok.toOk.calm (si_range1 rfl n.range (sa_cons (se_callB (cr_dmin ok.toOk.calm ok.toOk.u1) rfl n.min boot_min (sa_cons (se_v 1) (sa_cons (se_bin op_dsub (se_v 0) (se_v 1)) sa_nil))) sa_nil)) (sp_name 3 ok.toOk.nd)
 (ss_one (ss_set 2 ok.toOk.nd (se_bin op_dfdiv (se_bin op_dmul (se_v 2) (se_bin op_dsub (se_v 0) (se_v 3))) (se_bin op_dadd (se_v 3) se_int)))))
 (ss_one (ss_ret (se_v 2))))))
theorem sc_completions : FnScope ["height", "length", "rises"] ["height", "length"] (defScope (top 15)) := ⟨rfl, rfl, rfl, by decide +kernel, rfl, by decide +kernel, by decide +kernel⟩
theorem W_completions (n : Ns w K mg) (hm : ∃ f fd, mg "completions" = some (.ref f) ∧ FnP K "completions" (top 15) f fd) (C_binomial : DefOk P w K mg base 1 "binomial" (top 14) ["total", "chosen"] S_binomial) : DefOk P w K mg base 2 "completions" (top 15) ["height", "length"] S_completions := by
  obtain ⟨f_binomial, fd_binomial, m_binomial, F_binomial, G_binomial⟩ := C_binomial.ex
  obtain ⟨f, fd, m, F⟩ := hm
  refine ⟨f, fd, m, F, fnG_of F sc_completions fun cdv A outer s H E ok => ?_⟩
  exact (ss_cons (ss_if (st_w (sw_or (st_cmp op_dgt (se_v 0) (se_v 1) (by rfl)) (sw_or1 (st_cmp (op_deq ok.toOk.u64) (se_bin op_dmod (se_bin op_dsub (se_v 1) (se_v 0)) se_int) se_int (by rfl)))))
 (ss_one (ss_ret se_int))
 ss_nil)
 (ss_cons (ss_set 2 ok.toOk.nd (se_bin op_dfdiv (se_bin op_dsub (se_v 1) (se_v 0)) se_int))
 (ss_one (ss_ret (se_bin op_dsub (se_call (ms := [false, false]) (G_binomial.mono (by decide)) ok.toOk m_binomial F_binomial.kp (F_binomial.bindsN fun _ _ _ _ _ _ us hl => match us, hl with | [_, _], _ => rfl) rfl (sa_cons (se_v 1) (sa_cons (se_v 2) sa_nil))) (se_call (ms := [false, false]) (G_binomial.mono (by decide)) ok.toOk m_binomial F_binomial.kp (F_binomial.bindsN fun _ _ _ _ _ _ us hl => match us, hl with | [_, _], _ => rfl) rfl (sa_cons (se_v 1) (sa_cons (se_bin op_dsub (se_v 2) se_int) sa_nil))))))))
theorem sc_check_size : FnScope ["size", "most"] ["size", "most"] (defScope (top 16)) := ⟨rfl, rfl, rfl, by decide +kernel, rfl, by decide +kernel, by decide +kernel⟩
theorem W_check_size (n : Ns w K mg) (hm : ∃ f fd, mg "check_size" = some (.ref f) ∧ FnP K "check_size" (top 16) f fd) (C_is_integer : DefOk P w K mg base 2 "is_integer" (top 9) ["value", "least", "most"] S_is_integer) : DefOk P w K mg base 3 "check_size" (top 16) ["size", "most"] S_check_size := by
  obtain ⟨f_is_integer, fd_is_integer, m_is_integer, F_is_integer, G_is_integer⟩ := C_is_integer.ex
  obtain ⟨f, fd, m, F⟩ := hm
  refine ⟨f, fd, m, F, fnG_of F sc_check_size fun cdv A outer s H E ok => ?_⟩
  exact (ss_one (ss_if (st_not (st_val (se_call (ms := [false, false, false]) (G_is_integer.mono (by decide)) ok.toOk m_is_integer F_is_integer.kp (F_is_integer.bindsN fun _ _ _ _ _ _ us hl => match us, hl with | [_, _, _], _ => rfl) rfl (sa_cons (se_v 0) (sa_cons se_int (sa_cons (se_v 1) sa_nil))))))
 (ss_one ss_stuck)
 ss_nil))
theorem sc_word_count : FnScope ["size"] ["size"] (defScope (top 17)) := ⟨rfl, rfl, rfl, by decide +kernel, rfl, by decide +kernel, by decide +kernel⟩
theorem W_word_count (n : Ns w K mg) (hm : ∃ f fd, mg "word_count" = some (.ref f) ∧ FnP K "word_count" (top 17) f fd) (C_check_size : DefOk P w K mg base 3 "check_size" (top 16) ["size", "most"] S_check_size) (C_completions : DefOk P w K mg base 2 "completions" (top 15) ["height", "length"] S_completions) : DefOk P w K mg base 4 "word_count" (top 17) ["size"] S_word_count := by
  obtain ⟨f_check_size, fd_check_size, m_check_size, F_check_size, G_check_size⟩ := C_check_size.ex
  obtain ⟨f_completions, fd_completions, m_completions, F_completions, G_completions⟩ := C_completions.ex
  obtain ⟨f, fd, m, F⟩ := hm
  refine ⟨f, fd, m, F, fnG_of F sc_word_count fun cdv A outer s H E ok => ?_⟩
  exact (ss_cons (ss_ex (se_call (ms := [false, false]) (G_check_size.mono (by decide)) ok.toOk m_check_size F_check_size.kp (F_check_size.bindsN fun _ _ _ _ _ _ us hl => match us, hl with | [_, _], _ => rfl) rfl (sa_cons (se_v 0) (sa_cons (se_const rfl n.MOST_COUNTED) sa_nil))))
 (ss_one (ss_ret (se_call (ms := [false, false]) (G_completions.mono (by decide)) ok.toOk m_completions F_completions.kp (F_completions.bindsN fun _ _ _ _ _ _ us hl => match us, hl with | [_, _], _ => rfl) rfl (sa_cons se_int (sa_cons (se_bin op_dmul se_int (se_v 0)) sa_nil))))))
theorem sc_word_at : FnScope ["size", "number", "found", "height", "rest", "smaller"] ["size", "number"] (defScope (top 18)) := ⟨rfl, rfl, rfl, by decide +kernel, rfl, by decide +kernel, by decide +kernel⟩
theorem W_word_at (n : Ns w K mg) (hm : ∃ f fd, mg "word_at" = some (.ref f) ∧ FnP K "word_at" (top 18) f fd) (C_check_size : DefOk P w K mg base 3 "check_size" (top 16) ["size", "most"] S_check_size) (C_completions : DefOk P w K mg base 2 "completions" (top 15) ["height", "length"] S_completions) (C_is_integer : DefOk P w K mg base 2 "is_integer" (top 9) ["value", "least", "most"] S_is_integer) : DefOk P w K mg base 4 "word_at" (top 18) ["size", "number"] S_word_at := by
  obtain ⟨f_check_size, fd_check_size, m_check_size, F_check_size, G_check_size⟩ := C_check_size.ex
  obtain ⟨f_completions, fd_completions, m_completions, F_completions, G_completions⟩ := C_completions.ex
  obtain ⟨f_is_integer, fd_is_integer, m_is_integer, F_is_integer, G_is_integer⟩ := C_is_integer.ex
  obtain ⟨f, fd, m, F⟩ := hm
  refine ⟨f, fd, m, F, fnG_of F sc_word_at fun cdv A outer s H E ok => ?_⟩
  exact (ss_cons (ss_ex (se_call (ms := [false, false]) (G_check_size.mono (by decide)) ok.toOk m_check_size F_check_size.kp (F_check_size.bindsN fun _ _ _ _ _ _ us hl => match us, hl with | [_, _], _ => rfl) rfl (sa_cons (se_v 0) (sa_cons (se_const rfl n.MOST_SIZE) sa_nil))))
 (ss_cons (ss_if (st_not (st_val (se_call (ms := [false, false, false]) (G_is_integer.mono (by decide)) ok.toOk m_is_integer F_is_integer.kp (F_is_integer.bindsN fun _ _ _ _ _ _ us hl => match us, hl with | [_, _, _], _ => rfl) rfl (sa_cons (se_v 1) (sa_cons se_int (sa_cons (se_bin op_dsub (se_call (ms := [false, false]) (G_completions.mono (by decide)) ok.toOk m_completions F_completions.kp (F_completions.bindsN fun _ _ _ _ _ _ us hl => match us, hl with | [_, _], _ => rfl) rfl (sa_cons se_int (sa_cons (se_bin op_dmul se_int (se_v 0)) sa_nil))) se_int) sa_nil))))))
 (ss_one ss_stuck)
 ss_nil)
 (ss_cons (ss_par 2 3 ok.toOk.calm ok.toOk.nd (sa_cons (se_lst sa_nil) (sa_cons se_int sa_nil)))
 (ss_cons (ss_for ok.own ok.toOk.calm (si_range3 rfl n.range (sa_cons (se_bin op_dsub (se_bin op_dmul se_int (se_v 0)) se_int) (sa_cons (se_un un_dneg se_int) (sa_cons (se_un un_dneg se_int) sa_nil)))) (sp_name 4 ok.toOk.nd)
 (ss_cons (ss_set 5 ok.toOk.nd (se_if (st_cmp op_dgt (se_v 3) se_int (by rfl)) (se_call (ms := [false, false]) (G_completions.mono (by decide)) ok.toOk m_completions F_completions.kp (F_completions.bindsN fun _ _ _ _ _ _ us hl => match us, hl with | [_, _], _ => rfl) rfl (sa_cons (se_bin op_dsub (se_v 3) se_int) (sa_cons (se_v 4) sa_nil))) se_int))
 (ss_one (ss_if (st_cmp op_dlt (se_v 1) (se_v 5) (by rfl))
 (ss_cons (ss_ex (se_chg (.inl rfl) PySem.F.plainAttrs_list PySem.F.slot_list_append PySem.F.type_list_append mt_dappend (se_v 2) (sa_cons se_str sa_nil)))
 (ss_one (ss_aug 3 ok.toOk.nd se_int ip_dsub)))
 (ss_cons (ss_aug 1 ok.toOk.nd (se_v 5) ip_dsub)
 (ss_cons (ss_ex (se_chg (.inl rfl) PySem.F.plainAttrs_list PySem.F.slot_list_append PySem.F.type_list_append mt_dappend (se_v 2) (sa_cons se_str sa_nil)))
 (ss_one (ss_aug 3 ok.toOk.nd se_int ip_dadd))))))))
 (ss_one (ss_ret (se_meth (.inl rfl) PySem.F.plainAttrs_str PySem.F.slot_str_join PySem.F.type_str_join mt_djoin se_str (sa_cons (se_v 2) sa_nil))))))))
theorem sc_number_of : FnScope ["word", "found", "height", "index", "letter"] ["word"] (defScope (top 19)) := ⟨rfl, rfl, rfl, by decide +kernel, rfl, by decide +kernel, by decide +kernel⟩
theorem W_number_of (n : Ns w K mg) (hm : ∃ f fd, mg "number_of" = some (.ref f) ∧ FnP K "number_of" (top 19) f fd) (C_completions : DefOk P w K mg base 2 "completions" (top 15) ["height", "length"] S_completions) (C_validate_word : DefOk P w K mg base 2 "validate_word" (top 11) ["word"] S_validate_word) : DefOk P w K mg base 3 "number_of" (top 19) ["word"] S_number_of := by
  obtain ⟨f_completions, fd_completions, m_completions, F_completions, G_completions⟩ := C_completions.ex
  obtain ⟨f_validate_word, fd_validate_word, m_validate_word, F_validate_word, G_validate_word⟩ := C_validate_word.ex
  obtain ⟨f, fd, m, F⟩ := hm
  refine ⟨f, fd, m, F, fnG_of F sc_number_of fun cdv A outer s H E ok => ?_⟩
  exact (ss_cons (ss_ex (se_call (ms := [false]) (G_validate_word.mono (by decide)) ok.toOk m_validate_word F_validate_word.kp (F_validate_word.bindsN fun _ _ _ _ _ _ us hl => match us, hl with | [_], _ => rfl) rfl (sa_cons (se_v 0) sa_nil)))
 (ss_cons (ss_unp ok.toOk.calm (sa_cons se_int (sa_cons se_int sa_nil)) (sgs_cons (sg_name 1 ok.toOk.nd) (sgs_cons (sg_name 2 ok.toOk.nd) sgs_nil)))
 (ss_cons (ss_for ok.own ok.toOk.calm (si_enum rfl n.enumerate (sa_cons (se_v 0) sa_nil)) (sp_tup ok.toOk.calm (sps_cons (sp_name 3 ok.toOk.nd) (sps_cons (sp_name 4 ok.toOk.nd) sps_nil)))
 (ss_one (ss_if (st_cmp (op_deq ok.toOk.u64) (se_v 4) se_str (by rfl))
 (ss_cons (ss_aug 1 ok.toOk.nd (se_if (st_cmp op_dgt (se_v 2) se_int (by rfl)) (se_call (ms := [false, false]) (G_completions.mono (by decide)) ok.toOk m_completions F_completions.kp (F_completions.bindsN fun _ _ _ _ _ _ us hl => match us, hl with | [_, _], _ => rfl) rfl (sa_cons (se_bin op_dsub (se_v 2) se_int) (sa_cons (se_bin op_dsub (se_bin op_dsub (se_callB cr_len rfl n.len boot_len (sa_cons (se_v 0) sa_nil)) se_int) (se_v 3)) sa_nil))) se_int) ip_dadd)
 (ss_one (ss_aug 2 ok.toOk.nd se_int ip_dadd)))
 (ss_one (ss_aug 2 ok.toOk.nd se_int ip_dsub)))))
 (ss_one (ss_ret (se_v 1))))))
theorem sc_changed_places : FnScope ["word", "letter", "found", "height", "index", "own"] ["word", "letter"] (defScope (top 20)) := ⟨rfl, rfl, rfl, by decide +kernel, rfl, by decide +kernel, by decide +kernel⟩
theorem W_changed_places (n : Ns w K mg) (hm : ∃ f fd, mg "changed_places" = some (.ref f) ∧ FnP K "changed_places" (top 20) f fd) : DefOk P w K mg base 1 "changed_places" (top 20) ["word", "letter"] S_changed_places := by
  obtain ⟨f, fd, m, F⟩ := hm
  refine ⟨f, fd, m, F, fnG_of F sc_changed_places fun cdv A outer s H E ok => ?_⟩
  exact (ss_cons (ss_par 2 3 ok.toOk.calm ok.toOk.nd (sa_cons (se_lst sa_nil) (sa_cons se_int sa_nil)))
 (ss_cons (ss_for ok.own ok.toOk.calm (si_enum rfl n.enumerate (sa_cons (se_v 0) sa_nil)) (sp_tup ok.toOk.calm (sps_cons (sp_name 4 ok.toOk.nd) (sps_cons (sp_name 5 ok.toOk.nd) sps_nil)))
 (ss_cons (ss_if (st_cmp (op_deq ok.toOk.u64) (se_v 5) (se_v 1) (by rfl))
 (ss_one (ss_ex (se_chg (.inl rfl) PySem.F.plainAttrs_list PySem.F.slot_list_append PySem.F.type_list_append mt_dappend (se_v 2) (sa_cons (se_tup (sa_cons (se_v 4) (sa_cons (se_v 3) (sa_cons (se_bin op_dsub (se_bin op_dsub (se_callB cr_len rfl n.len boot_len (sa_cons (se_v 0) sa_nil)) se_int) (se_v 4)) sa_nil)))) sa_nil))))
 ss_nil)
 (ss_one (ss_aug 3 ok.toOk.nd (se_if (st_cmp (op_deq ok.toOk.u64) (se_v 5) se_str (by rfl)) se_int (se_un un_dneg se_int)) ip_dadd))))
 (ss_one (ss_ret (se_back (se_v 2))))))
theorem sc_next_word : FnScope ["word", "index", "height", "rest", "pairs"] ["word"] (defScope (top 21)) := ⟨rfl, rfl, rfl, by decide +kernel, rfl, by decide +kernel, by decide +kernel⟩
theorem W_next_word (n : Ns w K mg) (hm : ∃ f fd, mg "next_word" = some (.ref f) ∧ FnP K "next_word" (top 21) f fd) (C_changed_places : DefOk P w K mg base 1 "changed_places" (top 20) ["word", "letter"] S_changed_places) (C_validate_word : DefOk P w K mg base 2 "validate_word" (top 11) ["word"] S_validate_word) : DefOk P w K mg base 3 "next_word" (top 21) ["word"] S_next_word := by
  obtain ⟨f_changed_places, fd_changed_places, m_changed_places, F_changed_places, G_changed_places⟩ := C_changed_places.ex
  obtain ⟨f_validate_word, fd_validate_word, m_validate_word, F_validate_word, G_validate_word⟩ := C_validate_word.ex
  obtain ⟨f, fd, m, F⟩ := hm
  refine ⟨f, fd, m, F, fnG_of F sc_next_word fun cdv A outer s H E ok => ?_⟩
  exact (ss_cons (ss_ex (se_call (ms := [false]) (G_validate_word.mono (by decide)) ok.toOk m_validate_word F_validate_word.kp (F_validate_word.bindsN fun _ _ _ _ _ _ us hl => match us, hl with | [_], _ => rfl) rfl (sa_cons (se_v 0) sa_nil)))
 (ss_cons (ss_for ok.own ok.toOk.calm (si_data (se_call (ms := [false, false]) (G_changed_places.mono (by decide)) ok.toOk m_changed_places F_changed_places.kp (F_changed_places.bindsN fun _ _ _ _ _ _ us hl => match us, hl with | [_, _], _ => rfl) rfl (sa_cons (se_v 0) (sa_cons se_str sa_nil)))) (sp_tup ok.toOk.calm (sps_cons (sp_name 1 ok.toOk.nd) (sps_cons (sp_name 2 ok.toOk.nd) (sps_cons (sp_name 3 ok.toOk.nd) sps_nil))))
 (ss_one (ss_if (st_cmp op_dle (se_bin op_dadd (se_v 2) se_int) (se_v 3) (by rfl))
 (ss_cons (ss_set 4 ok.toOk.nd (se_bin op_dfdiv (se_bin op_dsub (se_bin op_dsub (se_v 3) (se_v 2)) se_int) se_int))
 (ss_one (ss_ret (se_bin op_dadd (se_bin op_dadd (se_bin op_dadd (se_slice sl_d (se_v 0) so_none (so_some (se_v 1))) se_str) (se_bin op_dmul se_str (se_bin op_dadd (se_v 2) se_int))) (se_bin op_dmul se_str (se_v 4))))))
 ss_nil)))
 (ss_one (ss_ret se_non))))
theorem sc_previous_word : FnScope ["word", "index", "height", "rest", "rises"] ["word"] (defScope (top 22)) := ⟨rfl, rfl, rfl, by decide +kernel, rfl, by decide +kernel, by decide +kernel⟩
theorem W_previous_word (n : Ns w K mg) (hm : ∃ f fd, mg "previous_word" = some (.ref f) ∧ FnP K "previous_word" (top 22) f fd) (C_changed_places : DefOk P w K mg base 1 "changed_places" (top 20) ["word", "letter"] S_changed_places) (C_validate_word : DefOk P w K mg base 2 "validate_word" (top 11) ["word"] S_validate_word) : DefOk P w K mg base 3 "previous_word" (top 22) ["word"] S_previous_word := by
  obtain ⟨f_changed_places, fd_changed_places, m_changed_places, F_changed_places, G_changed_places⟩ := C_changed_places.ex
  obtain ⟨f_validate_word, fd_validate_word, m_validate_word, F_validate_word, G_validate_word⟩ := C_validate_word.ex
  obtain ⟨f, fd, m, F⟩ := hm
  refine ⟨f, fd, m, F, fnG_of F sc_previous_word fun cdv A outer s H E ok => ?_⟩
  exact (ss_cons (ss_ex (se_call (ms := [false]) (G_validate_word.mono (by decide)) ok.toOk m_validate_word F_validate_word.kp (F_validate_word.bindsN fun _ _ _ _ _ _ us hl => match us, hl with | [_], _ => rfl) rfl (sa_cons (se_v 0) sa_nil)))
 (ss_cons (ss_for ok.own ok.toOk.calm (si_data (se_call (ms := [false, false]) (G_changed_places.mono (by decide)) ok.toOk m_changed_places F_changed_places.kp (F_changed_places.bindsN fun _ _ _ _ _ _ us hl => match us, hl with | [_, _], _ => rfl) rfl (sa_cons (se_v 0) (sa_cons se_str sa_nil)))) (sp_tup ok.toOk.calm (sps_cons (sp_name 1 ok.toOk.nd) (sps_cons (sp_name 2 ok.toOk.nd) (sps_cons (sp_name 3 ok.toOk.nd) sps_nil))))
 (ss_one (ss_if (st_cmp op_dgt (se_v 2) se_int (by rfl))
 (ss_cons (ss_set 4 ok.toOk.nd (se_bin op_dfdiv (se_bin op_dadd (se_bin op_dsub (se_v 3) (se_v 2)) se_int) se_int))
 (ss_one (ss_ret (se_bin op_dadd (se_bin op_dadd (se_bin op_dadd (se_slice sl_d (se_v 0) so_none (so_some (se_v 1))) se_str) (se_bin op_dmul se_str (se_v 4))) (se_bin op_dmul se_str (se_bin op_dsub (se_v 3) (se_v 4)))))))
 ss_nil)))
 (ss_one (ss_ret se_non))))
theorem sc__law_begun : FnScope ["script"] ["script"] (defScope (top 24)) := ⟨rfl, rfl, rfl, by decide +kernel, rfl, by decide +kernel, by decide +kernel⟩
theorem W__law_begun (n : Ns w K mg) (hm : ∃ f fd, mg "_law_begun" = some (.ref f) ∧ FnP K "_law_begun" (top 24) f fd) : DefOk P w K mg base 1 "_law_begun" (top 24) ["script"] S__law_begun := by
  obtain ⟨f, fd, m, F⟩ := hm
  refine ⟨f, fd, m, F, fnG_of F sc__law_begun fun cdv A outer s H E ok => ?_⟩
  exact (ss_one (ss_ret (se_dict (sd_cons se_str (se_v 0) (sd_cons se_str se_int (sd_cons se_str se_int sd_nil))))))
theorem sc__law_next : FnScope ["m", "total", "found", "k", "cell", "mixed"] ["m", "total"] (defScope (top 25)) := ⟨rfl, rfl, rfl, by decide +kernel, rfl, by decide +kernel, by decide +kernel⟩
theorem W__law_next (n : Ns w K mg) (hm : ∃ f fd, mg "_law_next" = some (.ref f) ∧ FnP K "_law_next" (top 25) f fd) : DefOk P w K mg base 1 "_law_next" (top 25) ["m", "total"] S__law_next := by
  obtain ⟨f, fd, m, F⟩ := hm
  refine ⟨f, fd, m, F, fnG_of F sc__law_next fun cdv A outer s H E ok => ?_⟩
  exact (ss_cons (ss_if (st_cmp op_dgt (se_ix (ix_d ok.toOk.u1) (se_v 0) se_str (fun _ _ => rfl)) se_int (by rfl))
 (ss_cons (ss_set 2 ok.toOk.nd (se_bin op_dmod (se_ix (ix_d ok.toOk.u1) (se_v 0) se_str (fun _ _ => rfl)) (se_v 1)))
 (ss_cons (ss_asg (se_bin op_dfdiv (se_ix (ix_d ok.toOk.u1) (se_v 0) se_str (fun _ _ => rfl)) (se_v 1)) (sg_put (set_d ok.toOk.u1) (se_v 0) se_str))
 (ss_one (ss_ret (se_v 2)))))
 ss_nil)
 (ss_cons (ss_set 3 ok.toOk.nd (se_ix (ix_d ok.toOk.u1) (se_v 0) se_str (fun _ _ => rfl)))
 (ss_cons (ss_asg (se_bin op_dadd (se_v 3) se_int) (sg_put (set_d ok.toOk.u1) (se_v 0) se_str))
 (ss_cons (ss_set 4 ok.toOk.nd (se_if (st_cmp (op_dne ok.toOk.u64) (se_ix (ix_d ok.toOk.u1) (se_v 0) se_str (fun _ _ => rfl)) (se_lst sa_nil) (by rfl)) (se_ix (ix_d ok.toOk.u1) (se_ix (ix_d ok.toOk.u1) (se_v 0) se_str (fun _ _ => rfl)) (se_bin op_dmod (se_v 3) (se_callB cr_len rfl n.len boot_len (sa_cons (se_ix (ix_d ok.toOk.u1) (se_v 0) se_str (fun _ _ => rfl)) sa_nil))) (fun _ _ => rfl)) se_int))
 (ss_cons (ss_if (st_w (sw_and (st_cmp op_dge (se_v 4) (se_bin op_dpow se_int se_int) (by rfl)) (sw_and1 (st_cmp op_dlt (se_v 3) (se_callB cr_len rfl n.len boot_len (sa_cons (se_ix (ix_d ok.toOk.u1) (se_v 0) se_str (fun _ _ => rfl)) sa_nil)) (by rfl)))))
 (ss_cons (ss_asg (se_bin op_dfdiv (se_v 4) (se_v 1)) (sg_put (set_d ok.toOk.u1) (se_v 0) se_str))
 (ss_one (ss_ret (se_bin op_dmod (se_v 4) (se_v 1)))))
 ss_nil)
 (ss_cons (ss_set 5 ok.toOk.nd (se_bin op_dadd (se_bin op_dmul (se_bin op_dmod (se_v 4) se_int) se_int) (se_bin op_dmod (se_bin op_dfdiv (se_v 4) se_int) se_int)))
 (ss_cons (ss_set 5 ok.toOk.nd (se_bin op_dmod (se_bin op_dadd (se_bin op_dadd (se_bin op_dadd (se_v 5) (se_bin op_dmul (se_bin op_dmul se_int (se_v 3)) (se_v 3))) (se_bin op_dmul se_int (se_v 3))) se_int) se_int))
 (ss_one (ss_ret (se_bin op_dmod (se_bin op_dfdiv (se_bin op_dmod (se_bin op_dmul (se_bin op_dmod (se_bin op_dmul (se_v 5) (se_v 5)) se_int) se_int) se_int) se_int) (se_v 1)))))))))))
theorem sc__law_of : FnScope ["m", "items"] ["m", "items"] (defScope (top 26)) := ⟨rfl, rfl, rfl, by decide +kernel, rfl, by decide +kernel, by decide +kernel⟩
theorem W__law_of (n : Ns w K mg) (hm : ∃ f fd, mg "_law_of" = some (.ref f) ∧ FnP K "_law_of" (top 26) f fd) (C__law_next : DefOk P w K mg base 1 "_law_next" (top 25) ["m", "total"] S__law_next) : DefOk P w K mg base 2 "_law_of" (top 26) ["m", "items"] S__law_of := by
  obtain ⟨f__law_next, fd__law_next, m__law_next, F__law_next, G__law_next⟩ := C__law_next.ex
  obtain ⟨f, fd, m, F⟩ := hm
  refine ⟨f, fd, m, F, fnG_of F sc__law_of fun cdv A outer s H E ok => ?_⟩
  exact (ss_one (ss_ret (se_ix (ix_d ok.toOk.u1) (se_v 1) (se_call (ms := [true, false]) (G__law_next.mono (by decide)) ok.toOk m__law_next F__law_next.kp (F__law_next.bindsN fun _ _ _ _ _ _ us hl => match us, hl with | [_, _], _ => rfl) rfl (sa_cons (se_v 0) (sa_cons (se_callB cr_len rfl n.len boot_len (sa_cons (se_v 1) sa_nil)) sa_nil))) (fun _ _ => rfl))))
theorem sc__law_all_texts : FnScope ["many", "found", "behind", "longer", "text", "level"] ["many"] (defScope (top 27)) := ⟨rfl, rfl, rfl, by decide +kernel, rfl, by decide +kernel, by decide +kernel⟩
theorem W__law_all_texts (n : Ns w K mg) (hm : ∃ f fd, mg "_law_all_texts" = some (.ref f) ∧ FnP K "_law_all_texts" (top 27) f fd) : DefOk P w K mg base 1 "_law_all_texts" (top 27) ["many"] S__law_all_texts := by
  obtain ⟨f, fd, m, F⟩ := hm
  refine ⟨f, fd, m, F, fnG_of F sc__law_all_texts fun cdv A outer s H E ok => ?_⟩
  exact (ss_cons (ss_set 1 ok.toOk.nd (se_lst (sa_cons (se_tup (sa_cons se_str (sa_cons se_int sa_nil))) sa_nil)))
 (ss_cons (ss_for ok.own ok.toOk.calm (si_range3 rfl n.range (sa_cons (se_bin op_dmul se_int (se_v 0)) (sa_cons se_int (sa_cons (se_un un_dneg se_int) sa_nil)))) (sp_name 2 ok.toOk.nd)
 (ss_cons (ss_set 3 ok.toOk.nd (se_lst sa_nil))
 (ss_cons (ss_for ok.own ok.toOk.calm (si_data (se_v 1)) (sp_tup ok.toOk.calm (sps_cons (sp_name 4 ok.toOk.nd) (sps_cons (sp_name 5 ok.toOk.nd) sps_nil)))
 (ss_cons (ss_if (st_cmp op_dgt (se_v 5) se_int (by rfl))
 (ss_one (ss_ex (se_chg (.inl rfl) PySem.F.plainAttrs_list PySem.F.slot_list_append PySem.F.type_list_append mt_dappend (se_v 3) (sa_cons (se_tup (sa_cons (se_bin op_dadd (se_v 4) se_str) (sa_cons (se_bin op_dsub (se_v 5) se_int) sa_nil))) sa_nil))))
 ss_nil)
 (ss_one (ss_if (st_cmp op_dlt (se_v 5) (se_v 2) (by rfl))
 (ss_one (ss_ex (se_chg (.inl rfl) PySem.F.plainAttrs_list PySem.F.slot_list_append PySem.F.type_list_append mt_dappend (se_v 3) (sa_cons (se_tup (sa_cons (se_bin op_dadd (se_v 4) se_str) (sa_cons (se_bin op_dadd (se_v 5) se_int) sa_nil))) sa_nil))))
 ss_nil))))
 (ss_one (ss_set 1 ok.toOk.nd (se_v 3))))))
 (ss_one (ss_ret (se_lc ok.toOk.calm ok.toOk.nd (si_data (se_v 1)) (own := [("text", 4), ("level", 5)]) (blkOk_by (N := ["many", "found", "behind", "longer", "text", "level"]) (sc := defScope (top 27)) (by decide +kernel)) (fun s1 H1 C1 cl1 fp1 => (sp_tup (ok.toOk.blk s1 H1 _ _ fp1).calm (sps_cons (sp_name 4 (ok.toOk.blk s1 H1 _ _ fp1).nd) (sps_cons (sp_name 5 (ok.toOk.blk s1 H1 _ _ fp1).nd) sps_nil)))) (fun s1 H1 C1 cl1 fp1 => (se_v 4)) (by decide))))))
theorem sc__law_one_right : FnScope ["texts", "k", "text", "many", "found", "later", "earlier"] ["texts", "k"] (defScope (top 28)) := ⟨rfl, rfl, rfl, by decide +kernel, rfl, by decide +kernel, by decide +kernel⟩
theorem W__law_one_right (n : Ns w K mg) (hm : ∃ f fd, mg "_law_one_right" = some (.ref f) ∧ FnP K "_law_one_right" (top 28) f fd) (C_next_word : DefOk P w K mg base 3 "next_word" (top 21) ["word"] S_next_word) (C_number_of : DefOk P w K mg base 3 "number_of" (top 19) ["word"] S_number_of) (C_previous_word : DefOk P w K mg base 3 "previous_word" (top 22) ["word"] S_previous_word) (C_word_at : DefOk P w K mg base 4 "word_at" (top 18) ["size", "number"] S_word_at) : DefOk P w K mg base 5 "_law_one_right" (top 28) ["texts", "k"] S__law_one_right := by
  obtain ⟨f_next_word, fd_next_word, m_next_word, F_next_word, G_next_word⟩ := C_next_word.ex
  obtain ⟨f_number_of, fd_number_of, m_number_of, F_number_of, G_number_of⟩ := C_number_of.ex
  obtain ⟨f_previous_word, fd_previous_word, m_previous_word, F_previous_word, G_previous_word⟩ := C_previous_word.ex
  obtain ⟨f_word_at, fd_word_at, m_word_at, F_word_at, G_word_at⟩ := C_word_at.ex
  obtain ⟨f, fd, m, F⟩ := hm
  refine ⟨f, fd, m, F, fnG_of F sc__law_one_right fun cdv A outer s H E ok => ?_⟩
  exact (ss_cons (ss_par 2 3 ok.toOk.calm ok.toOk.nd (sa_cons (se_ix (ix_d ok.toOk.u1) (se_v 0) (se_v 1) (fun _ _ => rfl)) (sa_cons (se_bin op_dfdiv (se_callB cr_len rfl n.len boot_len (sa_cons (se_ix (ix_d ok.toOk.u1) (se_v 0) se_int (fun _ _ => rfl)) sa_nil)) se_int) sa_nil)))
 (ss_cons (ss_set 4 ok.toOk.nd (se_lst (sa_cons (se_call (ms := [false, false]) (G_word_at.mono (by decide)) ok.toOk m_word_at F_word_at.kp (F_word_at.bindsN fun _ _ _ _ _ _ us hl => match us, hl with | [_, _], _ => rfl) rfl (sa_cons (se_v 3) (sa_cons (se_v 1) sa_nil))) (sa_cons (se_callK0 (ms := [false, false]) (perm := [1, 0]) (ks := ["number", "size"]) (G_word_at.mono (by decide)) ok.toOk m_word_at F_word_at.kp (bindsP_of F_word_at fun _ _ _ _ _ _ us ws h1 h2 => match us, ws, h1, h2 with | [], [_, _], _, _ => rfl) rfl (sk_cons (se_v 1) (sk_cons (se_v 3) sk_nil))) (sa_cons (se_call (ms := [false]) (G_number_of.mono (by decide)) ok.toOk m_number_of F_number_of.kp (F_number_of.bindsN fun _ _ _ _ _ _ us hl => match us, hl with | [_], _ => rfl) rfl (sa_cons (se_v 2) sa_nil)) (sa_cons (se_callK0 (ms := [false]) (perm := [0]) (ks := ["word"]) (G_number_of.mono (by decide)) ok.toOk m_number_of F_number_of.kp (bindsP_of F_number_of fun _ _ _ _ _ _ us ws h1 h2 => match us, ws, h1, h2 with | [], [_], _, _ => rfl) rfl (sk_cons (se_v 2) sk_nil)) sa_nil))))))
 (ss_cons (ss_if (st_cmp (op_dne ok.toOk.u64) (se_callB (cr_repr ok.toOk.gd ok.toOk.u64) rfl n.repr PyProof.Rows.boot_repr (sa_cons (se_v 4) sa_nil)) (se_callB (cr_repr ok.toOk.gd ok.toOk.u64) rfl n.repr PyProof.Rows.boot_repr (sa_cons (se_lst (sa_cons (se_v 2) (sa_cons (se_v 2) (sa_cons (se_v 1) (sa_cons (se_v 1) sa_nil))))) sa_nil)) (by rfl))
 (ss_one (ss_ret se_bl))
 ss_nil)
 (ss_cons (ss_set 5 ok.toOk.nd (se_if (st_cmp op_dlt (se_bin op_dadd (se_v 1) se_int) (se_callB cr_len rfl n.len boot_len (sa_cons (se_v 0) sa_nil)) (by rfl)) (se_ix (ix_d ok.toOk.u1) (se_v 0) (se_bin op_dadd (se_v 1) se_int) (fun _ _ => rfl)) se_non))
 (ss_cons (ss_set 6 ok.toOk.nd (se_if (st_cmp op_dgt (se_v 1) se_int (by rfl)) (se_ix (ix_d ok.toOk.u1) (se_v 0) (se_bin op_dsub (se_v 1) se_int) (fun _ _ => rfl)) se_non))
 (ss_cons (ss_set 4 ok.toOk.nd (se_lst (sa_cons (se_call (ms := [false]) (G_next_word.mono (by decide)) ok.toOk m_next_word F_next_word.kp (F_next_word.bindsN fun _ _ _ _ _ _ us hl => match us, hl with | [_], _ => rfl) rfl (sa_cons (se_v 2) sa_nil)) (sa_cons (se_callK0 (ms := [false]) (perm := [0]) (ks := ["word"]) (G_next_word.mono (by decide)) ok.toOk m_next_word F_next_word.kp (bindsP_of F_next_word fun _ _ _ _ _ _ us ws h1 h2 => match us, ws, h1, h2 with | [], [_], _, _ => rfl) rfl (sk_cons (se_v 2) sk_nil)) (sa_cons (se_call (ms := [false]) (G_previous_word.mono (by decide)) ok.toOk m_previous_word F_previous_word.kp (F_previous_word.bindsN fun _ _ _ _ _ _ us hl => match us, hl with | [_], _ => rfl) rfl (sa_cons (se_v 2) sa_nil)) (sa_cons (se_callK0 (ms := [false]) (perm := [0]) (ks := ["word"]) (G_previous_word.mono (by decide)) ok.toOk m_previous_word F_previous_word.kp (bindsP_of F_previous_word fun _ _ _ _ _ _ us ws h1 h2 => match us, ws, h1, h2 with | [], [_], _, _ => rfl) rfl (sk_cons (se_v 2) sk_nil)) sa_nil))))))
 (ss_one (ss_ret (se_cmp (op_deq ok.toOk.u64) (se_callB (cr_repr ok.toOk.gd ok.toOk.u64) rfl n.repr PyProof.Rows.boot_repr (sa_cons (se_v 4) sa_nil)) (se_callB (cr_repr ok.toOk.gd ok.toOk.u64) rfl n.repr PyProof.Rows.boot_repr (sa_cons (se_lst (sa_cons (se_v 5) (sa_cons (se_v 5) (sa_cons (se_v 6) (sa_cons (se_v 6) sa_nil))))) sa_nil)) (by rfl))))))))))
theorem sc__law_size_right : FnScope ["many", "places", "texts", "some", "k"] ["many", "places"] (defScope (top 29)) := ⟨rfl, rfl, rfl, by decide +kernel, rfl, by decide +kernel, by decide +kernel⟩
theorem W__law_size_right (n : Ns w K mg) (hm : ∃ f fd, mg "_law_size_right" = some (.ref f) ∧ FnP K "_law_size_right" (top 29) f fd) (C__law_all_texts : DefOk P w K mg base 1 "_law_all_texts" (top 27) ["many"] S__law_all_texts) (C__law_one_right : DefOk P w K mg base 5 "_law_one_right" (top 28) ["texts", "k"] S__law_one_right) (C_word_count : DefOk P w K mg base 4 "word_count" (top 17) ["size"] S_word_count) : DefOk P w K mg base 6 "_law_size_right" (top 29) ["many", "places"] S__law_size_right := by
  obtain ⟨f__law_all_texts, fd__law_all_texts, m__law_all_texts, F__law_all_texts, G__law_all_texts⟩ := C__law_all_texts.ex
  obtain ⟨f__law_one_right, fd__law_one_right, m__law_one_right, F__law_one_right, G__law_one_right⟩ := C__law_one_right.ex
  obtain ⟨f_word_count, fd_word_count, m_word_count, F_word_count, G_word_count⟩ := C_word_count.ex
  obtain ⟨f, fd, m, F⟩ := hm
  refine ⟨f, fd, m, F, fnG_of F sc__law_size_right fun cdv A outer s H E ok => ?_⟩
  exact (ss_cons (ss_set 2 ok.toOk.nd (se_fz (se_call (ms := [false]) (G__law_all_texts.mono (by decide)) ok.toOk m__law_all_texts F__law_all_texts.kp (F__law_all_texts.bindsN fun _ _ _ _ _ _ us hl => match us, hl with | [_], _ => rfl) rfl (sa_cons (se_v 0) sa_nil))))
 (ss_cons (ss_if (st_cmp (op_dne ok.toOk.u64) (se_callB (cr_repr ok.toOk.gd ok.toOk.u64) rfl n.repr PyProof.Rows.boot_repr (sa_cons (se_lst (sa_cons (se_call (ms := [false]) (G_word_count.mono (by decide)) ok.toOk m_word_count F_word_count.kp (F_word_count.bindsN fun _ _ _ _ _ _ us hl => match us, hl with | [_], _ => rfl) rfl (sa_cons (se_v 0) sa_nil)) (sa_cons (se_callK0 (ms := [false]) (perm := [0]) (ks := ["size"]) (G_word_count.mono (by decide)) ok.toOk m_word_count F_word_count.kp (bindsP_of F_word_count fun _ _ _ _ _ _ us ws h1 h2 => match us, ws, h1, h2 with | [], [_], _, _ => rfl) rfl (sk_cons (se_v 0) sk_nil)) sa_nil))) sa_nil)) (se_callB (cr_repr ok.toOk.gd ok.toOk.u64) rfl n.repr PyProof.Rows.boot_repr (sa_cons (se_rep (se_lst (sa_cons (se_callB cr_len rfl n.len boot_len (sa_cons (se_v 2) sa_nil)) sa_nil)) se_int) sa_nil)) (by rfl))
 (ss_one (ss_ret se_bl))
 ss_nil)
 (ss_cons (ss_set 3 ok.toOk.nd (se_if (st_cmp (op_dne ok.toOk.u64) (se_v 1) (se_lst sa_nil) (by rfl)) (se_lc ok.toOk.calm ok.toOk.nd (si_data (se_v 1)) (own := [("k", 4)]) (blkOk_by (N := ["many", "places", "texts", "some", "k"]) (sc := defScope (top 29)) (by decide +kernel)) (fun s1 H1 C1 cl1 fp1 => (sp_name 4 (ok.toOk.blk s1 H1 _ _ fp1).nd)) (fun s1 H1 C1 cl1 fp1 => (se_bin op_dmod (se_v 4) (se_callB cr_len rfl n.len boot_len (sa_cons (se_v 2) sa_nil)))) (by decide)) (se_lr1 ok.toOk.calm rfl n.list rfl n.range (se_callB cr_len rfl n.len boot_len (sa_cons (se_v 2) sa_nil)))))
 (ss_one (ss_ret (se_cmp (op_deq ok.toOk.u64) (se_lcIf ok.toOk.calm ok.toOk.nd (si_data (se_v 3)) (own := [("k", 4)]) (blkOk_by (N := ["many", "places", "texts", "some", "k"]) (sc := defScope (top 29)) (by decide +kernel)) (fun s2 H2 C2 cl2 fp2 => (sp_name 4 (ok.toOk.blk s2 H2 _ _ fp2).nd)) (fun s2 H2 C2 cl2 fp2 => (st_not (st_val (se_call (ms := [false, false]) (G__law_one_right.mono (by decide)) (ok.toOk.blk s2 H2 _ _ fp2) m__law_one_right F__law_one_right.kp (F__law_one_right.bindsN fun _ _ _ _ _ _ us hl => match us, hl with | [_, _], _ => rfl) rfl (sa_cons (se_v 2) (sa_cons (se_v 4) sa_nil)))))) (fun s2 H2 C2 cl2 fp2 => (se_v 4)) (by decide)) (se_lst sa_nil) (by rfl)))))))
theorem sc_law : FnScope ["script", "m", "many", "turn", "k"] ["script"] (defScope (top 30)) := ⟨rfl, rfl, rfl, by decide +kernel, rfl, by decide +kernel, by decide +kernel⟩
theorem W_law (n : Ns w K mg) (hm : ∃ f fd, mg "law" = some (.ref f) ∧ FnP K "law" (top 30) f fd) (C__law_begun : DefOk P w K mg base 1 "_law_begun" (top 24) ["script"] S__law_begun) (C__law_next : DefOk P w K mg base 1 "_law_next" (top 25) ["m", "total"] S__law_next) (C__law_size_right : DefOk P w K mg base 6 "_law_size_right" (top 29) ["many", "places"] S__law_size_right) : DefOk P w K mg base 7 "law" (top 30) ["script"] S_law := by
  obtain ⟨f__law_begun, fd__law_begun, m__law_begun, F__law_begun, G__law_begun⟩ := C__law_begun.ex
  obtain ⟨f__law_next, fd__law_next, m__law_next, F__law_next, G__law_next⟩ := C__law_next.ex
  obtain ⟨f__law_size_right, fd__law_size_right, m__law_size_right, F__law_size_right, G__law_size_right⟩ := C__law_size_right.ex
  obtain ⟨f, fd, m, F⟩ := hm
  refine ⟨f, fd, m, F, fnG_of F sc_law fun cdv A outer s H E ok => ?_⟩
  exact (ss_cons (ss_set 1 ok.toOk.nd (se_call (ms := [false]) (G__law_begun.mono (by decide)) ok.toOk m__law_begun F__law_begun.kp (F__law_begun.bindsN fun _ _ _ _ _ _ us hl => match us, hl with | [_], _ => rfl) rfl (sa_cons (se_v 0) sa_nil)))
 (ss_cons (ss_for ok.own ok.toOk.calm (si_data (se_sset ok.toOk.calm rfl n.sorted rfl n.set (se_lst (sa_cons (se_call (ms := [true, false]) (G__law_next.mono (by decide)) ok.toOk m__law_next F__law_next.kp (F__law_next.bindsN fun _ _ _ _ _ _ us hl => match us, hl with | [_, _], _ => rfl) rfl (sa_cons (se_v 1) (sa_cons se_int sa_nil))) (sa_cons (se_bin op_dadd se_int (se_call (ms := [true, false]) (G__law_next.mono (by decide)) ok.toOk m__law_next F__law_next.kp (F__law_next.bindsN fun _ _ _ _ _ _ us hl => match us, hl with | [_, _], _ => rfl) rfl (sa_cons (se_v 1) (sa_cons se_int sa_nil)))) sa_nil))))) (sp_name 2 ok.toOk.nd)
 (ss_one (ss_if (st_not (st_val (se_call (ms := [false, false]) (G__law_size_right.mono (by decide)) ok.toOk m__law_size_right F__law_size_right.kp (F__law_size_right.bindsN fun _ _ _ _ _ _ us hl => match us, hl with | [_, _], _ => rfl) rfl (sa_cons (se_v 2) (sa_cons (se_lst sa_nil) sa_nil)))))
 (ss_one (ss_ret se_bl))
 ss_nil)))
 (ss_cons (ss_for ok.own ok.toOk.calm (si_range1 rfl n.range (sa_cons (se_bin op_dadd se_int (se_callB (cr_dmin ok.toOk.calm ok.toOk.u1) rfl n.min boot_min (sa_cons se_int (sa_cons (se_callB cr_len rfl n.len boot_len (sa_cons (se_v 0) sa_nil)) sa_nil)))) sa_nil)) (sp_name 3 ok.toOk.nd)
 (ss_cons (ss_set 2 ok.toOk.nd (se_bin op_dadd se_int (se_call (ms := [true, false]) (G__law_next.mono (by decide)) ok.toOk m__law_next F__law_next.kp (F__law_next.bindsN fun _ _ _ _ _ _ us hl => match us, hl with | [_, _], _ => rfl) rfl (sa_cons (se_v 1) (sa_cons se_int sa_nil)))))
 (ss_one (ss_if (st_not (st_val (se_call (ms := [false, false]) (G__law_size_right.mono (by decide)) ok.toOk m__law_size_right F__law_size_right.kp (F__law_size_right.bindsN fun _ _ _ _ _ _ us hl => match us, hl with | [_, _], _ => rfl) rfl (sa_cons (se_v 2) (sa_cons (se_bin op_dadd (se_lst (sa_cons se_int (sa_cons (se_un un_dneg se_int) sa_nil))) (se_lc ok.toOk.calm ok.toOk.nd (si_range1 rfl n.range (sa_cons se_int sa_nil)) (own := [("k", 4)]) (blkOk_by (N := ["script", "m", "many", "turn", "k"]) (sc := defScope (top 30)) (by decide +kernel)) (fun s1 H1 C1 cl1 fp1 => (sp_name 4 (ok.toOk.blk s1 H1 _ _ fp1).nd)) (fun s1 H1 C1 cl1 fp1 => (se_call (ms := [true, false]) (G__law_next.mono (by decide)) (ok.toOk.blk s1 H1 _ _ fp1) m__law_next F__law_next.kp (F__law_next.bindsN fun _ _ _ _ _ _ us hl => match us, hl with | [_, _], _ => rfl) rfl (sa_cons (se_v 1) (sa_cons se_int sa_nil)))) (by decide))) sa_nil)))))
 (ss_one (ss_ret se_bl))
 ss_nil))))
 (ss_one (ss_ret se_bl)))))
end
end k27
namespace k27
open PySem Fd Ty
structure Rc0 where
  f_script : (List Int)
  f_at : Int
  f_left : Int
def eRc0 (m : Rc0) : D := .dict [(.str "script", (eL eI) m.f_script), (.str "at", eI m.f_at), (.str "left", eI m.f_left)]
theorem eRc0_ix_script (m : Rc0) : opIx (eRc0 m) (.str "script") = some (.sh ((eL eI) m.f_script)) := rfl
theorem eRc0_put_script (m : Rc0) (x : (List Int)) : putIx (.str "script") ((eL eI) x) (eRc0 m) = some (eRc0 { m with f_script := x }) := rfl
theorem eRc0_ix_at (m : Rc0) : opIx (eRc0 m) (.str "at") = some (.sh (eI m.f_at)) := rfl
theorem eRc0_put_at (m : Rc0) (x : Int) : putIx (.str "at") (eI x) (eRc0 m) = some (eRc0 { m with f_at := x }) := rfl
theorem eRc0_ix_left (m : Rc0) : opIx (eRc0 m) (.str "left") = some (.sh (eI m.f_left)) := rfl
theorem eRc0_put_left (m : Rc0) (x : Int) : putIx (.str "left") (eI x) (eRc0 m) = some (eRc0 { m with f_left := x }) := rfl
def t__law_begun (script_1 : (List Int)) : Rs Rc0 :=
  Rs.ok (⟨script_1, 0, 0⟩ : Rc0)
theorem F__law_begun (script_1 : (List Int)) : TF false S__law_begun [.sh ((eL eI) script_1)] (t__law_begun script_1) (fun z => (.new (eRc0 z), [.sh ((eL eI) script_1)])) := by
  refine tf_run0 (Δ := [S ((eL eI) script_1)]) (Θ := [.sh ((eL eI) script_1)]) rfl ⟨rfl, trivial⟩ ?_
  refine kLast ?_
  refine kRet ?_
  refine kDct ?_
  refine kP (pmS (pmC _) (pmS (pmV rfl) (pmS (pmC _) (pmS (pmC _) (pmS (pmC _) (pmS (pmC _) pmS0)))))) ?_
  refine kFzs (Δ := [S ((eL eI) script_1)]) rfl ?_
  refine kFin (r := .new (eRc0 (⟨script_1, 0, 0⟩ : Rc0))) rfl rfl ?_
  exact kFE rfl rfl
def t__law_next (m_1 : Rc0) (total_2 : Int) : Rs (Int × Rc0) :=
  if (decide (0 < m_1.f_left)) = true then (ob (modI m_1.f_left total_2) fun mod_3 => ob (fdivI m_1.f_left total_2) fun quo_4 => (Rs.ok ({ m_1 with f_left := quo_4 } : Rc0) : Rs Rc0).bind fun m_5 => Rs.ok (mod_3, m_5)) else ((Rs.ok ({ m_1 with f_at := (m_1.f_at + 1) } : Rc0) : Rs Rc0).bind fun m_3 => (if (!decide (m_3.f_script = ([] : (List Int)))) = true then (ob (modI m_1.f_at (m_3.f_script.length : Int)) fun mod_4 => ob (ixL m_3.f_script mod_4) fun at_5 => Rs.ok (at_5)) else (Rs.ok (0)) : Rs (Int)).bind fun w_4 => ob (powI 10 18) fun pow_5 => (if (decide (pow_5 ≤ w_4)) = true then (Rs.ok ((decide (m_1.f_at < (m_3.f_script.length : Int))))) else (Rs.ok (false)) : Rs (Bool)).bind fun w_6 => if w_6 = true then (ob (fdivI w_4 total_2) fun quo_7 => (Rs.ok ({ m_3 with f_left := quo_7 } : Rc0) : Rs Rc0).bind fun m_8 => ob (modI w_4 total_2) fun mod_9 => Rs.ok (mod_9, m_8)) else (ob (mulI (w_4 % 1000003) 48271) fun mul_7 => (Rs.ok (mul_7 + ((w_4 / 1000003) % 1000003)) : Rs Int).bind fun mixed_8 => ob (mulI 7919 m_1.f_at) fun mul_9 => ob (mulI mul_9 m_1.f_at) fun mul_10 => ob (mulI 104729 m_1.f_at) fun mul_11 => (Rs.ok ((((mixed_8 + mul_10) + mul_11) + 43) % 2147483647) : Rs Int).bind fun mixed_12 => ob (mulI mixed_12 mixed_12) fun mul_13 => ob (mulI (mul_13 % 2147483629) 69621) fun mul_14 => ob (modI ((mul_14 % 2147483587) / 7) total_2) fun mod_15 => Rs.ok (mod_15, m_3)))
theorem F__law_next (m_1 : Rc0) (total_2 : Int) : TF false S__law_next [.arg (eRc0 m_1), .sh (eI total_2)] (t__law_next m_1 total_2) (fun z => (.sh (eI z.1), [.arg (eRc0 z.2), .sh (eI total_2)])) := by
  refine tf_run0 (Δ := [A (eRc0 m_1), S (eI total_2), U, U, U, U]) (Θ := [.arg (eRc0 m_1), .sh (eI total_2), .un, .un, .un, .un]) rfl ⟨rfl, rfl, rfl, rfl, rfl, rfl, trivial⟩ ?_
  refine kSeq ?_
  refine kIf ?_
  refine kP (pmT (pmB (pmB (pmV rfl) (pmC _) rfl rfl (eRc0_ix_left m_1) rfl) (pmC _) rfl rfl rfl rfl) rfl) ?_
  refine kIteD ?_ ?_
  · refine kSS ?_
    refine kSeq ?_
    refine kSet ?_
    refine kB ?_
    refine kP (pmB (pmV rfl) (pmC _) rfl rfl (eRc0_ix_left m_1) rfl) ?_
    refine kP (pmV rfl) ?_
    refine kPO (fun z h => pmAp2 rfl rfl (modI_ok z h) rfl) ?_; intro mod_3
    refine kAsg (Δ := [A (eRc0 m_1), S (eI total_2), S (eI mod_3), U, U, U]) rfl ?_
    refine kSeq ?_
    refine kSS ?_
    refine kSeq ?_
    refine kSet ?_
    refine kB ?_
    refine kP (pmB (pmV rfl) (pmC _) rfl rfl (eRc0_ix_left m_1) rfl) ?_
    refine kP (pmV rfl) ?_
    refine kPO (fun z h => pmAp2 rfl rfl (fdivI_ok z h) rfl) ?_; intro quo_4
    refine kGPut ?_
    refine kP (pmV rfl) ?_
    refine kP (pmC _) ?_
    refine kFzs (Δ := [A (eRc0 m_1), S (eI total_2), S (eI mod_3), U, U, U]) rfl ?_
    refine kPutAt rfl (eRc0_put_left m_1 quo_4) ?_
    refine kLetG (a := ({ m_1 with f_left := quo_4 } : Rc0)) (G := fun a => [A (eRc0 a), S (eI total_2), S (eI mod_3), U, U, U]) rfl ?_; intro m_5
    refine kSeq ?_
    refine kRet ?_
    refine kP (pmV rfl) ?_
    exact kFE rfl rfl
  · refine kR ?_
    refine kSeq ?_
    refine kSet ?_
    refine kP (pmB (pmV rfl) (pmC _) rfl rfl (eRc0_ix_at m_1) rfl) ?_
    refine kAsg (Δ := [A (eRc0 m_1), S (eI total_2), U, S (eI m_1.f_at), U, U]) rfl ?_
    refine kSeq ?_
    refine kSet ?_
    refine kP (pmB (pmV rfl) (pmC _) rfl rfl rfl rfl) ?_
    refine kGPut ?_
    refine kP (pmV rfl) ?_
    refine kP (pmC _) ?_
    refine kFzs (Δ := [A (eRc0 m_1), S (eI total_2), U, S (eI m_1.f_at), U, U]) rfl ?_
    refine kPutAt rfl (eRc0_put_at m_1 (m_1.f_at + 1)) ?_
    refine kLetG (a := ({ m_1 with f_at := (m_1.f_at + 1) } : Rc0)) (G := fun a => [A (eRc0 a), S (eI total_2), U, S (eI m_1.f_at), U, U]) rfl ?_; intro m_3
    refine kSeq ?_
    refine kSet ?_
    refine kEIf ?_
    refine kP (pmT (pmB (pmB (pmV rfl) (pmC _) rfl rfl (eRc0_ix_script m_3) rfl) (pmLst pmS0 rfl) rfl rfl (ne_en (En.list En.int) (by decide) m_3.f_script ([] : (List Int))) rfl) rfl) ?_
    refine kIte (v := fun z => RV.sh (eI z)) (G := fun z => [A (eRc0 m_3), S (eI total_2), U, S (eI m_1.f_at), U, U]) ?_ ?_ ?_
    · refine kE ?_
      refine kB ?_
      refine kP (pmB (pmV rfl) (pmC _) rfl rfl (eRc0_ix_script m_3) rfl) ?_
      refine kB ?_
      refine kP (pmV rfl) ?_
      refine kP (pmN (pmS (pmB (pmV rfl) (pmC _) rfl rfl (eRc0_ix_script m_3) rfl) pmS0) rfl (len_L (e := eI) m_3.f_script) rfl) ?_
      refine kPO (fun z h => pmAp2 rfl rfl (modI_ok z h) rfl) ?_; intro mod_4
      refine kPO (fun z h => pmAp2 rfl rfl ((ixL_ok (e := eI)) z h) rfl) ?_; intro at_5
      exact kJ rfl ⟨rfl, rfl, rfl, rfl, rfl, rfl, trivial⟩
    · refine kE ?_
      refine kP (pmC _) ?_
      exact kJ rfl ⟨rfl, rfl, rfl, rfl, rfl, rfl, trivial⟩
    intro w_4
    refine kAsg (Δ := [A (eRc0 m_3), S (eI total_2), U, S (eI m_1.f_at), S (eI w_4), U]) rfl ?_
    refine kSeq ?_
    refine kIf ?_
    refine kTAnd ?_
    refine kT ?_
    refine kB ?_
    refine kP (pmV rfl) ?_
    refine kB ?_
    refine kP (pmC _) ?_
    refine kP (pmC _) ?_
    refine kPO (fun z h => pmAp2 rfl rfl (powI_ok z h) rfl) ?_; intro pow_5
    refine kP (pmAp2 rfl rfl rfl rfl) ?_
    refine kP (pmTR rfl) ?_
    refine kIte (v := fun z => z) (G := fun z => [A (eRc0 m_3), S (eI total_2), U, S (eI m_1.f_at), S (eI w_4), U]) ?_ ?_ ?_
    · refine kE ?_
      refine kP (pmT (pmB (pmV rfl) (pmN (pmS (pmB (pmV rfl) (pmC _) rfl rfl (eRc0_ix_script m_3) rfl) pmS0) rfl (len_L (e := eI) m_3.f_script) rfl) rfl rfl rfl rfl) rfl) ?_
      exact kJ rfl ⟨rfl, rfl, rfl, rfl, rfl, rfl, trivial⟩
    · refine kE ?_
      refine kR ?_
      exact kJ rfl ⟨rfl, rfl, rfl, rfl, rfl, rfl, trivial⟩
    intro w_6
    refine kIteD ?_ ?_
    · refine kSS ?_
      refine kSeq ?_
      refine kSet ?_
      refine kB ?_
      refine kP (pmV rfl) ?_
      refine kP (pmV rfl) ?_
      refine kPO (fun z h => pmAp2 rfl rfl (fdivI_ok z h) rfl) ?_; intro quo_7
      refine kGPut ?_
      refine kP (pmV rfl) ?_
      refine kP (pmC _) ?_
      refine kFzs (Δ := [A (eRc0 m_3), S (eI total_2), U, S (eI m_1.f_at), S (eI w_4), U]) rfl ?_
      refine kPutAt rfl (eRc0_put_left m_3 quo_7) ?_
      refine kLetG (a := ({ m_3 with f_left := quo_7 } : Rc0)) (G := fun a => [A (eRc0 a), S (eI total_2), U, S (eI m_1.f_at), S (eI w_4), U]) rfl ?_; intro m_8
      refine kSeq ?_
      refine kRet ?_
      refine kB ?_
      refine kP (pmV rfl) ?_
      refine kP (pmV rfl) ?_
      refine kPO (fun z h => pmAp2 rfl rfl (modI_ok z h) rfl) ?_; intro mod_9
      exact kFE rfl rfl
    · refine kR ?_
      refine kSeq ?_
      refine kSet ?_
      refine kB ?_
      refine kB ?_
      refine kP (pmB (pmV rfl) (pmC _) rfl rfl (mod_lit (by decide)) rfl) ?_
      refine kP (pmC _) ?_
      refine kPO (fun z h => pmAp2 rfl rfl (mulI_ok z h) rfl) ?_; intro mul_7
      refine kP (pmB (pmB (pmV rfl) (pmC _) rfl rfl (fdiv_lit (by decide)) rfl) (pmC _) rfl rfl (mod_lit (by decide)) rfl) ?_
      refine kP (pmAp2 rfl rfl rfl rfl) ?_
      refine kAsgL (a := ((mul_7 + ((w_4 / 1000003) % 1000003)) : Int)) (R := fun a => RV.sh (eI a)) (G := fun a => [A (eRc0 m_3), S (eI total_2), U, S (eI m_1.f_at), S (eI w_4), S (eI a)]) (fun _ => rfl) ?_; intro mixed_8
      refine kSeq ?_
      refine kSet ?_
      refine kB ?_
      refine kB ?_
      refine kB ?_
      refine kB ?_
      refine kP (pmV rfl) ?_
      refine kB ?_
      refine kB ?_
      refine kP (pmC _) ?_
      refine kP (pmV rfl) ?_
      refine kPO (fun z h => pmAp2 rfl rfl (mulI_ok z h) rfl) ?_; intro mul_9
      refine kP (pmV rfl) ?_
      refine kPO (fun z h => pmAp2 rfl rfl (mulI_ok z h) rfl) ?_; intro mul_10
      refine kP (pmAp2 rfl rfl rfl rfl) ?_
      refine kB ?_
      refine kP (pmC _) ?_
      refine kP (pmV rfl) ?_
      refine kPO (fun z h => pmAp2 rfl rfl (mulI_ok z h) rfl) ?_; intro mul_11
      refine kP (pmAp2 rfl rfl rfl rfl) ?_
      refine kP (pmC _) ?_
      refine kP (pmAp2 rfl rfl rfl rfl) ?_
      refine kP (pmC _) ?_
      refine kP (pmAp2 rfl rfl (mod_lit (by decide)) rfl) ?_
      refine kAsgL (a := (((((mixed_8 + mul_10) + mul_11) + 43) % 2147483647) : Int)) (R := fun a => RV.sh (eI a)) (G := fun a => [A (eRc0 m_3), S (eI total_2), U, S (eI m_1.f_at), S (eI w_4), S (eI a)]) (fun _ => rfl) ?_; intro mixed_12
      refine kLast ?_
      refine kRet ?_
      refine kB ?_
      refine kB ?_
      refine kB ?_
      refine kB ?_
      refine kB ?_
      refine kB ?_
      refine kP (pmV rfl) ?_
      refine kP (pmV rfl) ?_
      refine kPO (fun z h => pmAp2 rfl rfl (mulI_ok z h) rfl) ?_; intro mul_13
      refine kP (pmC _) ?_
      refine kP (pmAp2 rfl rfl (mod_lit (by decide)) rfl) ?_
      refine kP (pmC _) ?_
      refine kPO (fun z h => pmAp2 rfl rfl (mulI_ok z h) rfl) ?_; intro mul_14
      refine kP (pmC _) ?_
      refine kP (pmAp2 rfl rfl (mod_lit (by decide)) rfl) ?_
      refine kP (pmC _) ?_
      refine kP (pmAp2 rfl rfl (fdiv_lit (by decide)) rfl) ?_
      refine kP (pmV rfl) ?_
      refine kPO (fun z h => pmAp2 rfl rfl (modI_ok z h) rfl) ?_; intro mod_15
      exact kFE rfl rfl
def t__law_all_texts_2 (x_5 : Int) (x_8 : (Str × Int)) (s_9 : ((List (Str × Int)))) : Rs ((List (Str × Int))) :=
  (if (decide (0 < x_8.2)) = true then (ob (addS x_8.1 ("D" : Str)) fun add_10 => ob (appL s_9 (add_10, (x_8.2 - 1))) fun longer_11 => Rs.ok (longer_11)) else (Rs.ok (s_9)) : Rs ((List (Str × Int)))).bind fun longer_10 =>
  (if (decide (x_8.2 < x_5)) = true then (ob (addS x_8.1 ("U" : Str)) fun add_11 => ob (appL longer_10 (add_11, (x_8.2 + 1))) fun longer_12 => Rs.ok (longer_12)) else (Rs.ok (longer_10)) : Rs ((List (Str × Int)))).bind fun longer_11 =>
  Rs.ok (longer_11)
def t__law_all_texts_1  (x_5 : Int) (s_6 : ((List (Str × Int)))) : Rs ((List (Str × Int))) :=
  (Rs.ok ([] : (List (Str × Int))) : Rs (List (Str × Int))).bind fun longer_7 =>
  (foldR (t__law_all_texts_2 x_5) s_6 longer_7).bind fun longer_12 =>
  Rs.ok (longer_12)
def t__law_all_texts (many_1 : Int) : Rs (List Str) :=
  (Rs.ok ([(("" : Str), 0)]) : Rs (List (Str × Int))).bind fun found_2 =>
  ob (mulI 2 many_1) fun mul_3 =>
  ob (rangeD mul_3 0) fun ks_4 =>
  (foldR (t__law_all_texts_1 ) ks_4 found_2).bind fun found_13 =>
  ob (mapP (fun x_14 => (x_14.1 : Str)) found_13) fun ys_15 =>
  Rs.ok ys_15
theorem F__law_all_texts (many_1 : Int) : TF false S__law_all_texts [.sh (eI many_1)] (t__law_all_texts many_1) (fun z => (.new ((eL eS') z), [.sh (eI many_1)])) := by
  refine tf_run0 (Δ := [S (eI many_1), U, U, U, U, U]) (Θ := [.sh (eI many_1), .un, .un, .un, .un, .un]) rfl ⟨rfl, rfl, rfl, rfl, rfl, rfl, trivial⟩ ?_
  refine kSeq ?_
  refine kSet ?_
  refine kP (pmLst (pmS (pmTup (pmS (pmC _) (pmS (pmC _) pmS0)) rfl) pmS0) rfl) ?_
  refine kAsgL (a := ([(("" : Str), 0)] : (List (Str × Int)))) (R := fun a => RV.new ((eL (e2 eS' eI)) a)) (G := fun a => [S (eI many_1), O ((eL (e2 eS' eI)) a), U, U, U, U]) (fun _ => rfl) ?_; intro found_2
  refine kSeq ?_
  refine kForS ?_
  refine kIN ?_
  refine kS ?_
  refine kB ?_
  refine kP (pmC _) ?_
  refine kP (pmV rfl) ?_
  refine kPO (fun z h => pmAp2 rfl rfl (mulI_ok z h) rfl) ?_; intro mul_3
  refine kS ?_
  refine kP (pmC _) ?_
  refine kS ?_
  refine kP (pmU (pmC _) rfl rfl rfl) ?_
  refine kS0 ?_
  refine kINR rfl rangeD_ok ?_; intro ks_4
  refine kFor (en := eI) (f := t__law_all_texts_1 ) (s := found_2) (xs := ks_4) (G := fun s : ((List (Str × Int))) => [S (eI many_1), .os ((eL (e2 eS' eI)) s), .pl, .pl, .pl, .pl]) ⟨rfl, .inl rfl, rfl, rfl, rfl, rfl, trivial⟩ ?_ ?_
  · intro x_5 s_6
    refine kPat (Δ := [S (eI many_1), .os ((eL (e2 eS' eI)) s_6), S (eI x_5), .pl, .pl, .pl]) rfl ?_
    refine kOs 1 (d := (eL (e2 eS' eI)) s_6) rfl (Δ := [S (eI many_1), O ((eL (e2 eS' eI)) s_6), S (eI x_5), .pl, .pl, .pl]) (Θ := [S (eI many_1), S ((eL (e2 eS' eI)) s_6), S (eI x_5), .pl, .pl, .pl]) rfl rfl ?_ ?_
    · refine kSeq ?_
      refine kSet ?_
      refine kP (pmLst pmS0 rfl) ?_
      refine kAsgL (a := (([] : (List (Str × Int))) : (List (Str × Int)))) (R := fun a => RV.new ((eL (e2 eS' eI)) a)) (G := fun a => [S (eI many_1), O ((eL (e2 eS' eI)) s_6), S (eI x_5), O ((eL (e2 eS' eI)) a), .pl, .pl]) (fun _ => rfl) ?_; intro longer_7
      refine kSeq ?_
      refine kForS ?_
      refine kIDx ?_
      refine kP (pmV rfl) ?_
      refine kFz (Δ := [S (eI many_1), S ((eL (e2 eS' eI)) s_6), S (eI x_5), O ((eL (e2 eS' eI)) longer_7), .pl, .pl]) rfl ?_
      refine kIt (ds := List.map (e2 eS' eI) s_6) (items_L _) ?_
      refine kFor (en := (e2 eS' eI)) (f := t__law_all_texts_2 x_5) (s := longer_7) (xs := s_6) (G := fun s : ((List (Str × Int))) => [S (eI many_1), S ((eL (e2 eS' eI)) s_6), S (eI x_5), O ((eL (e2 eS' eI)) s), .pl, .pl]) ⟨rfl, rfl, rfl, rfl, trivial, trivial, trivial⟩ ?_ ?_
      · intro x_8 s_9
        refine kPat (Δ := [S (eI many_1), S ((eL (e2 eS' eI)) s_6), S (eI x_5), O ((eL (e2 eS' eI)) s_9), S (eS' x_8.1), S (eI x_8.2)]) rfl ?_
        refine kSeq ?_
        refine kIf ?_
        refine kP (pmT (pmB (pmV rfl) (pmC _) rfl rfl rfl rfl) rfl) ?_
        refine kIte (v := fun _ => Fl.nx) (G := fun z : ((List (Str × Int))) => [S (eI many_1), S ((eL (e2 eS' eI)) s_6), S (eI x_5), O ((eL (e2 eS' eI)) z), S (eS' x_8.1), S (eI x_8.2)]) ?_ ?_ ?_
        · refine kLast ?_
          refine kEx ?_
          refine kChg (pmV rfl) rfl rfl (.inl ⟨_, rfl⟩) ?_
          refine kS ?_
          refine kTup ?_
          refine kS ?_
          refine kB ?_
          refine kP (pmV rfl) ?_
          refine kP (pmC _) ?_
          refine kPO (fun z h => pmAp2 rfl rfl (addS_ok z h) rfl) ?_; intro add_10
          refine kS ?_
          refine kP (pmB (pmV rfl) (pmC _) rfl rfl rfl rfl) ?_
          refine kS0 ?_
          refine kFzs (Δ := [S (eI many_1), S ((eL (e2 eS' eI)) s_6), S (eI x_5), O ((eL (e2 eS' eI)) s_9), S (eS' x_8.1), S (eI x_8.2)]) rfl ?_
          refine kS0 ?_
          refine kFzs (Δ := [S (eI many_1), S ((eL (e2 eS' eI)) s_6), S (eI x_5), O ((eL (e2 eS' eI)) s_9), S (eS' x_8.1), S (eI x_8.2)]) rfl ?_
          refine kChO rfl (appL_ok (e := (e2 eS' eI)) (v := (add_10, (x_8.2 - 1)))) ?_; intro longer_11
          exact kJ rfl ⟨rfl, rfl, rfl, rfl, rfl, rfl, trivial⟩
        · exact kJ rfl ⟨rfl, rfl, rfl, rfl, rfl, rfl, trivial⟩
        intro longer_10
        refine kLast ?_
        refine kIf ?_
        refine kP (pmT (pmB (pmV rfl) (pmV rfl) rfl rfl rfl rfl) rfl) ?_
        refine kIte (v := fun _ => Fl.nx) (G := fun z : ((List (Str × Int))) => [S (eI many_1), S ((eL (e2 eS' eI)) s_6), S (eI x_5), O ((eL (e2 eS' eI)) z), S (eS' x_8.1), S (eI x_8.2)]) ?_ ?_ ?_
        · refine kLast ?_
          refine kEx ?_
          refine kChg (pmV rfl) rfl rfl (.inl ⟨_, rfl⟩) ?_
          refine kS ?_
          refine kTup ?_
          refine kS ?_
          refine kB ?_
          refine kP (pmV rfl) ?_
          refine kP (pmC _) ?_
          refine kPO (fun z h => pmAp2 rfl rfl (addS_ok z h) rfl) ?_; intro add_11
          refine kS ?_
          refine kP (pmB (pmV rfl) (pmC _) rfl rfl rfl rfl) ?_
          refine kS0 ?_
          refine kFzs (Δ := [S (eI many_1), S ((eL (e2 eS' eI)) s_6), S (eI x_5), O ((eL (e2 eS' eI)) longer_10), S (eS' x_8.1), S (eI x_8.2)]) rfl ?_
          refine kS0 ?_
          refine kFzs (Δ := [S (eI many_1), S ((eL (e2 eS' eI)) s_6), S (eI x_5), O ((eL (e2 eS' eI)) longer_10), S (eS' x_8.1), S (eI x_8.2)]) rfl ?_
          refine kChO rfl (appL_ok (e := (e2 eS' eI)) (v := (add_11, (x_8.2 + 1)))) ?_; intro longer_12
          exact kJ rfl ⟨rfl, rfl, rfl, rfl, rfl, rfl, trivial⟩
        · exact kJ rfl ⟨rfl, rfl, rfl, rfl, rfl, rfl, trivial⟩
        intro longer_11
        exact kNx ⟨rfl, rfl, rfl, rfl, rfl, rfl, trivial⟩
      intro longer_12
      refine kLast ?_
      refine kSet ?_
      refine kP (pmV rfl) ?_
      refine kAsg (Δ := [S (eI many_1), S ((eL (e2 eS' eI)) longer_12), S (eI x_5), S ((eL (e2 eS' eI)) longer_12), .pl, .pl]) rfl ?_
      exact kNx ⟨rfl, .inr rfl, rfl, rfl, trivial, trivial, trivial⟩
    · refine kSeq ?_
      refine kSet ?_
      refine kP (pmLst pmS0 rfl) ?_
      refine kAsgL (a := (([] : (List (Str × Int))) : (List (Str × Int)))) (R := fun a => RV.new ((eL (e2 eS' eI)) a)) (G := fun a => [S (eI many_1), S ((eL (e2 eS' eI)) s_6), S (eI x_5), O ((eL (e2 eS' eI)) a), .pl, .pl]) (fun _ => rfl) ?_; intro longer_7
      refine kSeq ?_
      refine kForS ?_
      refine kIDx ?_
      refine kP (pmV rfl) ?_
      refine kFz (Δ := [S (eI many_1), S ((eL (e2 eS' eI)) s_6), S (eI x_5), O ((eL (e2 eS' eI)) longer_7), .pl, .pl]) rfl ?_
      refine kIt (ds := List.map (e2 eS' eI) s_6) (items_L _) ?_
      refine kFor (en := (e2 eS' eI)) (f := t__law_all_texts_2 x_5) (s := longer_7) (xs := s_6) (G := fun s : ((List (Str × Int))) => [S (eI many_1), S ((eL (e2 eS' eI)) s_6), S (eI x_5), O ((eL (e2 eS' eI)) s), .pl, .pl]) ⟨rfl, rfl, rfl, rfl, trivial, trivial, trivial⟩ ?_ ?_
      · intro x_8 s_9
        refine kPat (Δ := [S (eI many_1), S ((eL (e2 eS' eI)) s_6), S (eI x_5), O ((eL (e2 eS' eI)) s_9), S (eS' x_8.1), S (eI x_8.2)]) rfl ?_
        refine kSeq ?_
        refine kIf ?_
        refine kP (pmT (pmB (pmV rfl) (pmC _) rfl rfl rfl rfl) rfl) ?_
        refine kIte (v := fun _ => Fl.nx) (G := fun z : ((List (Str × Int))) => [S (eI many_1), S ((eL (e2 eS' eI)) s_6), S (eI x_5), O ((eL (e2 eS' eI)) z), S (eS' x_8.1), S (eI x_8.2)]) ?_ ?_ ?_
        · refine kLast ?_
          refine kEx ?_
          refine kChg (pmV rfl) rfl rfl (.inl ⟨_, rfl⟩) ?_
          refine kS ?_
          refine kTup ?_
          refine kS ?_
          refine kB ?_
          refine kP (pmV rfl) ?_
          refine kP (pmC _) ?_
          refine kPO (fun z h => pmAp2 rfl rfl (addS_ok z h) rfl) ?_; intro add_10
          refine kS ?_
          refine kP (pmB (pmV rfl) (pmC _) rfl rfl rfl rfl) ?_
          refine kS0 ?_
          refine kFzs (Δ := [S (eI many_1), S ((eL (e2 eS' eI)) s_6), S (eI x_5), O ((eL (e2 eS' eI)) s_9), S (eS' x_8.1), S (eI x_8.2)]) rfl ?_
          refine kS0 ?_
          refine kFzs (Δ := [S (eI many_1), S ((eL (e2 eS' eI)) s_6), S (eI x_5), O ((eL (e2 eS' eI)) s_9), S (eS' x_8.1), S (eI x_8.2)]) rfl ?_
          refine kChO rfl (appL_ok (e := (e2 eS' eI)) (v := (add_10, (x_8.2 - 1)))) ?_; intro longer_11
          exact kJ rfl ⟨rfl, rfl, rfl, rfl, rfl, rfl, trivial⟩
        · exact kJ rfl ⟨rfl, rfl, rfl, rfl, rfl, rfl, trivial⟩
        intro longer_10
        refine kLast ?_
        refine kIf ?_
        refine kP (pmT (pmB (pmV rfl) (pmV rfl) rfl rfl rfl rfl) rfl) ?_
        refine kIte (v := fun _ => Fl.nx) (G := fun z : ((List (Str × Int))) => [S (eI many_1), S ((eL (e2 eS' eI)) s_6), S (eI x_5), O ((eL (e2 eS' eI)) z), S (eS' x_8.1), S (eI x_8.2)]) ?_ ?_ ?_
        · refine kLast ?_
          refine kEx ?_
          refine kChg (pmV rfl) rfl rfl (.inl ⟨_, rfl⟩) ?_
          refine kS ?_
          refine kTup ?_
          refine kS ?_
          refine kB ?_
          refine kP (pmV rfl) ?_
          refine kP (pmC _) ?_
          refine kPO (fun z h => pmAp2 rfl rfl (addS_ok z h) rfl) ?_; intro add_11
          refine kS ?_
          refine kP (pmB (pmV rfl) (pmC _) rfl rfl rfl rfl) ?_
          refine kS0 ?_
          refine kFzs (Δ := [S (eI many_1), S ((eL (e2 eS' eI)) s_6), S (eI x_5), O ((eL (e2 eS' eI)) longer_10), S (eS' x_8.1), S (eI x_8.2)]) rfl ?_
          refine kS0 ?_
          refine kFzs (Δ := [S (eI many_1), S ((eL (e2 eS' eI)) s_6), S (eI x_5), O ((eL (e2 eS' eI)) longer_10), S (eS' x_8.1), S (eI x_8.2)]) rfl ?_
          refine kChO rfl (appL_ok (e := (e2 eS' eI)) (v := (add_11, (x_8.2 + 1)))) ?_; intro longer_12
          exact kJ rfl ⟨rfl, rfl, rfl, rfl, rfl, rfl, trivial⟩
        · exact kJ rfl ⟨rfl, rfl, rfl, rfl, rfl, rfl, trivial⟩
        intro longer_11
        exact kNx ⟨rfl, rfl, rfl, rfl, rfl, rfl, trivial⟩
      intro longer_12
      refine kLast ?_
      refine kSet ?_
      refine kP (pmV rfl) ?_
      refine kAsg (Δ := [S (eI many_1), S ((eL (e2 eS' eI)) longer_12), S (eI x_5), S ((eL (e2 eS' eI)) longer_12), .pl, .pl]) rfl ?_
      exact kNx ⟨rfl, .inr rfl, rfl, rfl, trivial, trivial, trivial⟩
  intro found_13
  refine kOs 1 (d := (eL (e2 eS' eI)) found_13) rfl (Δ := [S (eI many_1), O ((eL (e2 eS' eI)) found_13), .pl, .pl, .pl, .pl]) (Θ := [S (eI many_1), S ((eL (e2 eS' eI)) found_13), .pl, .pl, .pl, .pl]) rfl rfl ?_ ?_
  · refine kLast ?_
    refine kRet ?_
    refine kLc ?_
    refine kIDx ?_
    refine kP (pmV rfl) ?_
    refine kFz (Δ := [S (eI many_1), S ((eL (e2 eS' eI)) found_13), .pl, .pl, .pl, .pl]) rfl ?_
    refine kIt (ds := List.map (e2 eS' eI) found_13) (items_L _) ?_
    refine tMap (Γ := [S (eI many_1), S ((eL (e2 eS' eI)) found_13), .pl, .pl, .pl, .pl]) (own := [4, 5]) (en := (e2 eS' eI)) (em := eS') (g := fun x_14 => (x_14.1 : Str)) rfl rfl ?_ rfl ?_
    · intro x_14
      refine kPat (Δ := [S (eI many_1), S ((eL (e2 eS' eI)) found_13), .pl, .pl, S (eS' x_14.1), S (eI x_14.2)]) rfl ?_
      refine kYes ?_
      refine kP (pmV rfl) ?_
      refine kFz (Δ := [S (eI many_1), S ((eL (e2 eS' eI)) found_13), .pl, .pl, S (eS' x_14.1), S (eI x_14.2)]) rfl ?_
      refine kWipe rfl ?_
      exact kJ rfl (Wk.refl _)
    intro ys_15
    exact kFE rfl rfl
  · refine kLast ?_
    refine kRet ?_
    refine kLc ?_
    refine kIDx ?_
    refine kP (pmV rfl) ?_
    refine kFz (Δ := [S (eI many_1), S ((eL (e2 eS' eI)) found_13), .pl, .pl, .pl, .pl]) rfl ?_
    refine kIt (ds := List.map (e2 eS' eI) found_13) (items_L _) ?_
    refine tMap (Γ := [S (eI many_1), S ((eL (e2 eS' eI)) found_13), .pl, .pl, .pl, .pl]) (own := [4, 5]) (en := (e2 eS' eI)) (em := eS') (g := fun x_14 => (x_14.1 : Str)) rfl rfl ?_ rfl ?_
    · intro x_14
      refine kPat (Δ := [S (eI many_1), S ((eL (e2 eS' eI)) found_13), .pl, .pl, S (eS' x_14.1), S (eI x_14.2)]) rfl ?_
      refine kYes ?_
      refine kP (pmV rfl) ?_
      refine kFz (Δ := [S (eI many_1), S ((eL (e2 eS' eI)) found_13), .pl, .pl, S (eS' x_14.1), S (eI x_14.2)]) rfl ?_
      refine kWipe rfl ?_
      exact kJ rfl (Wk.refl _)
    intro ys_15
    exact kFE rfl rfl
def t_changed_places_1 (word_1 : Str) (letter_2 : Str) (x_4 : (Int × Str)) (s_5 : ((List (Int × Int × Int)) × Int)) : Rs ((List (Int × Int × Int)) × Int) :=
  (if (decide (x_4.2 = letter_2)) = true then (ob (lenS word_1) fun len_6 => ob (appL s_5.1 (x_4.1, s_5.2, ((len_6 - 1) - x_4.1))) fun found_7 => Rs.ok (found_7)) else (Rs.ok (s_5.1)) : Rs ((List (Int × Int × Int)))).bind fun found_6 =>
  (Rs.ok (s_5.2 + (if (decide (x_4.2 = ("U" : Str))) = true then 1 else (-1))) : Rs Int).bind fun height_7 =>
  Rs.ok (found_6, height_7)
def t_changed_places (word_1 : Str) (letter_2 : Str) : Rs (List (Int × Int × Int)) :=
  (Rs.ok ([] : (List (Int × Int × Int))) : Rs (List (Int × Int × Int))).bind fun found_3 =>
  (foldR (t_changed_places_1 word_1 letter_2) (enumT 0 (chars word_1)) (found_3, 0)).bind fun st_8 =>
  Rs.ok st_8.1.reverse
theorem F_changed_places (word_1 : Str) (letter_2 : Str) : TF false S_changed_places [.sh (eS' word_1), .sh (eS' letter_2)] (t_changed_places word_1 letter_2) (fun z => (.new ((eL (e3 eI eI eI)) z), [.sh (eS' word_1), .sh (eS' letter_2)])) := by
  refine tf_run0 (Δ := [S (eS' word_1), S (eS' letter_2), U, U, U, U]) (Θ := [.sh (eS' word_1), .sh (eS' letter_2), .un, .un, .un, .un]) rfl ⟨rfl, rfl, rfl, rfl, rfl, rfl, trivial⟩ ?_
  refine kSeq ?_
  refine kUnpR ?_
  refine kP (pmS (pmLst pmS0 rfl) (pmS (pmC _) pmS0)) ?_
  refine kFzl (Δ := [S (eS' word_1), S (eS' letter_2), U, U, U, U]) rfl ?_
  refine kG ?_
  refine kAsg (Δ := [S (eS' word_1), S (eS' letter_2), U, S (eI 0), U, U]) rfl ?_
  refine kG ?_
  refine kAsgL (a := (([] : (List (Int × Int × Int))) : (List (Int × Int × Int)))) (R := fun a => RV.new ((eL (e3 eI eI eI)) a)) (G := fun a => [S (eS' word_1), S (eS' letter_2), O ((eL (e3 eI eI eI)) a), S (eI 0), U, U]) (fun _ => rfl) ?_; intro found_3
  refine kG0 ?_
  refine kSeq ?_
  refine kForS ?_
  refine kIEx ?_
  refine kP (pmV rfl) ?_
  refine kFz (Δ := [S (eS' word_1), S (eS' letter_2), O ((eL (e3 eI eI eI)) found_3), S (eI 0), U, U]) rfl ?_
  refine kItE (e := eS') (xs := (chars word_1)) (items_S _) ?_
  refine kFor (en := (e2 eI eS')) (f := t_changed_places_1 word_1 letter_2) (s := (found_3, 0)) (xs := (enumT 0 (chars word_1))) (G := fun s : ((List (Int × Int × Int)) × Int) => [S (eS' word_1), S (eS' letter_2), O ((eL (e3 eI eI eI)) s.1), S (eI s.2), .pl, .pl]) ⟨rfl, rfl, rfl, rfl, rfl, rfl, trivial⟩ ?_ ?_
  · intro x_4 s_5
    refine kPat (Δ := [S (eS' word_1), S (eS' letter_2), O ((eL (e3 eI eI eI)) s_5.1), S (eI s_5.2), S (eI x_4.1), S (eS' x_4.2)]) rfl ?_
    refine kSeq ?_
    refine kIf ?_
    refine kP (pmT (pmB (pmV rfl) (pmV rfl) rfl rfl rfl rfl) rfl) ?_
    refine kIte (v := fun _ => Fl.nx) (G := fun z : ((List (Int × Int × Int))) => [S (eS' word_1), S (eS' letter_2), O ((eL (e3 eI eI eI)) z), S (eI s_5.2), S (eI x_4.1), S (eS' x_4.2)]) ?_ ?_ ?_
    · refine kLast ?_
      refine kEx ?_
      refine kChg (pmV rfl) rfl rfl (.inl ⟨_, rfl⟩) ?_
      refine kS ?_
      refine kTup ?_
      refine kS ?_
      refine kP (pmV rfl) ?_
      refine kS ?_
      refine kP (pmV rfl) ?_
      refine kS ?_
      refine kB ?_
      refine kB ?_
      refine kN ?_
      refine kP (pmS (pmV rfl) pmS0) ?_
      refine kPO (fun z h => pmApN rfl (lenS_ok z h) rfl) ?_; intro len_6
      refine kP (pmC _) ?_
      refine kP (pmAp2 rfl rfl rfl rfl) ?_
      refine kP (pmV rfl) ?_
      refine kP (pmAp2 rfl rfl rfl rfl) ?_
      refine kS0 ?_
      refine kFzs (Δ := [S (eS' word_1), S (eS' letter_2), O ((eL (e3 eI eI eI)) s_5.1), S (eI s_5.2), S (eI x_4.1), S (eS' x_4.2)]) rfl ?_
      refine kS0 ?_
      refine kFzs (Δ := [S (eS' word_1), S (eS' letter_2), O ((eL (e3 eI eI eI)) s_5.1), S (eI s_5.2), S (eI x_4.1), S (eS' x_4.2)]) rfl ?_
      refine kChO rfl (appL_ok (e := (e3 eI eI eI)) (v := (x_4.1, s_5.2, ((len_6 - 1) - x_4.1)))) ?_; intro found_7
      exact kJ rfl ⟨rfl, rfl, rfl, rfl, rfl, rfl, trivial⟩
    · exact kJ rfl ⟨rfl, rfl, rfl, rfl, rfl, rfl, trivial⟩
    intro found_6
    refine kLast ?_
    refine kAug rfl ?_
    refine kP (pmIf (fun z => RV.sh (eI z)) (x := 1) (y := (-1)) (pmT (pmB (pmV rfl) (pmC _) rfl rfl rfl rfl) rfl) (pmC _) (pmU (pmC _) rfl rfl rfl)) ?_
    refine kP (pmAp2 rfl rfl rfl rfl) ?_
    refine kAsgL (a := ((s_5.2 + (if (decide (x_4.2 = ("U" : Str))) = true then 1 else (-1))) : Int)) (R := fun a => RV.sh (eI a)) (G := fun a => [S (eS' word_1), S (eS' letter_2), O ((eL (e3 eI eI eI)) found_6), S (eI a), S (eI x_4.1), S (eS' x_4.2)]) (fun _ => rfl) ?_; intro height_7
    exact kNx ⟨rfl, rfl, rfl, rfl, rfl, rfl, trivial⟩
  intro st_8
  refine kLast ?_
  refine kRet ?_
  refine kP (pmU (pmV rfl) rfl (rev_L (e := (e3 eI eI eI)) st_8.1) rfl) ?_
  exact kFE rfl rfl
def t_word_faults_1  (x_3 : (Int × Str)) (s_4 : (Int)) : Rs (Bo (Int) (List (Option Int))) :=
  if ((!(tab_EXCHANGED.lookup x_3.2).isSome) || ((decide (x_3.2 = ("D" : Str))) && (decide (s_4 = 0)))) = true then (Rs.ok (.rt [(some x_3.1)])) else ((Rs.ok (s_4 + (if (decide (x_3.2 = ("U" : Str))) = true then 1 else (-1))) : Rs Int).bind fun height_5 => Rs.ok (.nx (height_5)))
def t_word_faults (value_1 : Str) : Rs (List (Option Int)) :=
  (if (!true) = true then (Rs.ok (true)) else (ob (lenS value_1) fun len_2 => ob (mulI 2 30) fun mul_3 => Rs.ok ((decide (mul_3 < len_2)))) : Rs (Bool)).bind fun w_2 =>
  if w_2 = true then (Rs.ok [(none)]) else ((forR (t_word_faults_1 ) (enumT 0 (chars value_1)) 0).bind (aft (fun height_5 => (if (decide (0 < height_5)) = true then (ob (lenS value_1) fun len_6 => Rs.ok ([(some len_6)])) else (Rs.ok (([] : (List (Option Int))))) : Rs ((List (Option Int)))).bind fun w_6 => Rs.ok w_6) id))
theorem F_word_faults (value_1 : Str) : TF false S_word_faults [.sh (eS' value_1)] (t_word_faults value_1) (fun z => (.new ((eL (eO eI)) z), [.sh (eS' value_1)])) := by
  refine tf_run0 (Δ := [S (eS' value_1), U, U, U]) (Θ := [.sh (eS' value_1), .un, .un, .un]) rfl ⟨rfl, rfl, rfl, rfl, trivial⟩ ?_
  refine kSeq ?_
  refine kIf ?_
  refine kTOr ?_
  refine kP (pmNot (pmT (pmU (pmV rfl) rfl rfl rfl) rfl)) ?_
  refine kIte (v := fun z => z) (G := fun z => [S (eS' value_1), U, U, U]) ?_ ?_ ?_
  · refine kE ?_
    refine kR ?_
    exact kJ rfl ⟨rfl, rfl, rfl, rfl, trivial⟩
  · refine kE ?_
    refine kT ?_
    refine kB ?_
    refine kN ?_
    refine kP (pmS (pmV rfl) pmS0) ?_
    refine kPO (fun z h => pmApN rfl (lenS_ok z h) rfl) ?_; intro len_2
    refine kB ?_
    refine kP (pmC _) ?_
    refine kP (pmC _) ?_
    refine kPO (fun z h => pmAp2 rfl rfl (mulI_ok z h) rfl) ?_; intro mul_3
    refine kP (pmAp2 rfl rfl rfl rfl) ?_
    refine kP (pmTR rfl) ?_
    exact kJ rfl ⟨rfl, rfl, rfl, rfl, trivial⟩
  intro w_2
  refine kIteD ?_ ?_
  · refine kRet ?_
    refine kP (pmLst (pmS (pmC _) pmS0) rfl) ?_
    exact kFE rfl rfl
  · refine kR ?_
    refine kSeq ?_
    refine kSet ?_
    refine kP (pmC _) ?_
    refine kAsg (Δ := [S (eS' value_1), S (eI 0), U, U]) rfl ?_
    refine kSeq ?_
    refine kForS ?_
    refine kIEx ?_
    refine kP (pmV rfl) ?_
    refine kFz (Δ := [S (eS' value_1), S (eI 0), U, U]) rfl ?_
    refine kItE (e := eS') (xs := (chars value_1)) (items_S _) ?_
    refine kForR (en := (e2 eI eS')) (f := t_word_faults_1 ) (s := 0) (xs := (enumT 0 (chars value_1))) (G := fun s : (Int) => [S (eS' value_1), S (eI s), .pl, .pl]) ⟨rfl, rfl, rfl, rfl, trivial⟩ ?_ ?_
    · intro x_3 s_4
      refine kPat (Δ := [S (eS' value_1), S (eI s_4), S (eI x_3.1), S (eS' x_3.2)]) rfl ?_
      refine kSeq ?_
      refine kIf ?_
      refine kP (pmOr (pmT (pmU (pmV rfl) rfl rfl rfl) rfl) (pmAnd (pmT (pmB (pmV rfl) (pmC _) rfl rfl rfl rfl) rfl) (pmT (pmB (pmV rfl) (pmC _) rfl rfl (eq_en En.int (by decide) s_4 0) rfl) rfl))) ?_
      refine kIteD ?_ ?_
      · refine kRet ?_
        refine kP (pmLst (pmS (pmV rfl) pmS0) rfl) ?_
        exact kRtB (kFE rfl rfl)
      · refine kR ?_
        refine kLast ?_
        refine kAug rfl ?_
        refine kP (pmIf (fun z => RV.sh (eI z)) (x := 1) (y := (-1)) (pmT (pmB (pmV rfl) (pmC _) rfl rfl rfl rfl) rfl) (pmC _) (pmU (pmC _) rfl rfl rfl)) ?_
        refine kP (pmAp2 rfl rfl rfl rfl) ?_
        refine kAsgL (a := ((s_4 + (if (decide (x_3.2 = ("U" : Str))) = true then 1 else (-1))) : Int)) (R := fun a => RV.sh (eI a)) (G := fun a => [S (eS' value_1), S (eI a), S (eI x_3.1), S (eS' x_3.2)]) (fun _ => rfl) ?_; intro height_5
        exact kNxB ⟨rfl, rfl, rfl, rfl, trivial⟩
    intro height_5
    refine kLast ?_
    refine kRet ?_
    refine kEIf ?_
    refine kP (pmT (pmB (pmV rfl) (pmC _) rfl rfl rfl rfl) rfl) ?_
    refine kIte (v := fun z => RV.new ((eL (eO eI)) z)) (G := fun z => [S (eS' value_1), S (eI height_5), .pl, .pl]) ?_ ?_ ?_
    · refine kE ?_
      refine kLst ?_
      refine kS ?_
      refine kN ?_
      refine kP (pmS (pmV rfl) pmS0) ?_
      refine kPO (fun z h => pmApN rfl (lenS_ok z h) rfl) ?_; intro len_6
      refine kS0 ?_
      refine kFzs (Δ := [S (eS' value_1), S (eI height_5), .pl, .pl]) rfl ?_
      exact kJ rfl ⟨rfl, rfl, trivial, trivial, trivial⟩
    · refine kE ?_
      refine kP (pmLst pmS0 rfl) ?_
      exact kJ rfl ⟨rfl, rfl, trivial, trivial, trivial⟩
    intro w_6
    exact kFE rfl rfl
def t_validate_word_1  (x_3 : (Option Int)) (s_4 : Unit) : Rs Unit :=
  .bad
def t_validate_word (word_1 : Str) : Rs Unit :=
  (t_word_faults word_1).bind fun word_faults_2 =>
  (foldR (t_validate_word_1 ) word_faults_2 ()).bind fun st_5 =>
  Rs.ok ()
theorem F_validate_word (word_1 : Str) : TF false S_validate_word [.sh (eS' word_1)] (t_validate_word word_1) (fun z => (.sh (eN' z), [.sh (eS' word_1)])) := by
  refine tf_run0 (Δ := [S (eS' word_1), U]) (Θ := [.sh (eS' word_1), .un]) rfl ⟨rfl, rfl, trivial⟩ ?_
  refine kLast ?_
  refine kForS ?_
  refine kIDx ?_
  refine kF ?_
  refine kP (pmS (pmV rfl) pmS0) ?_
  refine kFzm (Δ := [S (eS' word_1), U]) rfl ?_
  refine kCall (F_word_faults word_1) rfl (lend_nd rfl) rfl (G := fun a => [S (eS' word_1), U]) (fun _ => rfl) (fun _ => List.cons_ne_nil _ _) ?_; intro word_faults_2
  refine kFz (Δ := [S (eS' word_1), U]) rfl ?_
  refine kIt (ds := List.map (eO eI) word_faults_2) (items_L _) ?_
  refine kFor (en := (eO eI)) (f := t_validate_word_1 ) (s := ()) (xs := word_faults_2) (G := fun s : Unit => [S (eS' word_1), .pl]) ⟨rfl, rfl, trivial⟩ ?_ ?_
  · intro x_3 s_4
    refine kPat (Δ := [S (eS' word_1), S ((eO eI) x_3)]) rfl ?_
    refine kLast ?_
    exact kBad
  intro st_5
  exact kFE rfl rfl
def t_next_word_1 (word_1 : Str) (x_4 : (Int × Int × Int)) (s_5 : Unit) : Rs (Bo Unit (Option Str)) :=
  if (decide ((x_4.2.1 + 1) ≤ x_4.2.2)) = true then ((Rs.ok (((x_4.2.2 - x_4.2.1) - 1) / 2) : Rs Int).bind fun pairs_6 => ob (cutT word_1 none (some x_4.1)) fun cut_7 => ob (addS cut_7 ("U" : Str)) fun add_8 => ob (mulS ("D" : Str) (x_4.2.1 + 1)) fun mul_9 => ob (addS add_8 mul_9) fun add_10 => ob (mulS ("UD" : Str) pairs_6) fun mul_11 => ob (addS add_10 mul_11) fun add_12 => Rs.ok (.rt (some add_12))) else (Rs.ok (.nx ()))
def t_next_word (word_1 : Str) : Rs (Option Str) :=
  (t_validate_word word_1).bind fun validate_word_2 =>
  (t_changed_places word_1 ("D" : Str)).bind fun changed_places_3 =>
  (forR (t_next_word_1 word_1) changed_places_3 ()).bind (aft (fun st_6 =>
  Rs.ok (none)) id)
theorem F_next_word (word_1 : Str) : TF false S_next_word [.sh (eS' word_1)] (t_next_word word_1) (fun z => (.sh ((eO eS') z), [.sh (eS' word_1)])) := by
  refine tf_run0 (Δ := [S (eS' word_1), U, U, U, U]) (Θ := [.sh (eS' word_1), .un, .un, .un, .un]) rfl ⟨rfl, rfl, rfl, rfl, rfl, trivial⟩ ?_
  refine kSeq ?_
  refine kEx ?_
  refine kF ?_
  refine kP (pmS (pmV rfl) pmS0) ?_
  refine kFzm (Δ := [S (eS' word_1), U, U, U, U]) rfl ?_
  refine kCall (F_validate_word word_1) rfl (lend_nd rfl) rfl (G := fun a => [S (eS' word_1), U, U, U, U]) (fun _ => rfl) (fun _ => List.cons_ne_nil _ _) ?_; intro validate_word_2
  refine kSeq ?_
  refine kForS ?_
  refine kIDx ?_
  refine kF ?_
  refine kP (pmS (pmV rfl) (pmS (pmC _) pmS0)) ?_
  refine kFzm (Δ := [S (eS' word_1), U, U, U, U]) rfl ?_
  refine kCall (F_changed_places word_1 ("D" : Str)) rfl (lend_nd rfl) rfl (G := fun a => [S (eS' word_1), U, U, U, U]) (fun _ => rfl) (fun _ => List.cons_ne_nil _ _) ?_; intro changed_places_3
  refine kFz (Δ := [S (eS' word_1), U, U, U, U]) rfl ?_
  refine kIt (ds := List.map (e3 eI eI eI) changed_places_3) (items_L _) ?_
  refine kForR (en := (e3 eI eI eI)) (f := t_next_word_1 word_1) (s := ()) (xs := changed_places_3) (G := fun s : Unit => [S (eS' word_1), .pl, .pl, .pl, .pl]) ⟨rfl, rfl, rfl, rfl, rfl, trivial⟩ ?_ ?_
  · intro x_4 s_5
    refine kPat (Δ := [S (eS' word_1), S (eI x_4.1), S (eI x_4.2.1), S (eI x_4.2.2), .pl]) rfl ?_
    refine kLast ?_
    refine kIf ?_
    refine kP (pmT (pmB (pmB (pmV rfl) (pmC _) rfl rfl rfl rfl) (pmV rfl) rfl rfl rfl rfl) rfl) ?_
    refine kIteD ?_ ?_
    · refine kSS ?_
      refine kSeq ?_
      refine kSet ?_
      refine kP (pmB (pmB (pmB (pmV rfl) (pmV rfl) rfl rfl rfl rfl) (pmC _) rfl rfl rfl rfl) (pmC _) rfl rfl (fdiv_lit (by decide)) rfl) ?_
      refine kAsgL (a := ((((x_4.2.2 - x_4.2.1) - 1) / 2) : Int)) (R := fun a => RV.sh (eI a)) (G := fun a => [S (eS' word_1), S (eI x_4.1), S (eI x_4.2.1), S (eI x_4.2.2), S (eI a)]) (fun _ => rfl) ?_; intro pairs_6
      refine kSeq ?_
      refine kRet ?_
      refine kB ?_
      refine kB ?_
      refine kB ?_
      refine kSl ?_
      refine kP (pmV rfl) ?_
      refine kP pmPart0 ?_
      refine kPart ?_
      refine kP (pmV rfl) ?_
      refine kP (pmPR rfl) ?_
      refine kPO (fun z h => pmAp3 rfl (cutT_ok z h) rfl) ?_; intro cut_7
      refine kP (pmC _) ?_
      refine kPO (fun z h => pmAp2 rfl rfl (addS_ok z h) rfl) ?_; intro add_8
      refine kB ?_
      refine kP (pmC _) ?_
      refine kP (pmB (pmV rfl) (pmC _) rfl rfl rfl rfl) ?_
      refine kPO (fun z h => pmAp2 rfl rfl (mulS_ok z h) rfl) ?_; intro mul_9
      refine kPO (fun z h => pmAp2 rfl rfl (addS_ok z h) rfl) ?_; intro add_10
      refine kB ?_
      refine kP (pmC _) ?_
      refine kP (pmV rfl) ?_
      refine kPO (fun z h => pmAp2 rfl rfl (mulS_ok z h) rfl) ?_; intro mul_11
      refine kPO (fun z h => pmAp2 rfl rfl (addS_ok z h) rfl) ?_; intro add_12
      exact kRtB (kFE rfl rfl)
    · refine kR ?_
      exact kNxB ⟨rfl, rfl, rfl, rfl, trivial, trivial⟩
  intro st_6
  refine kLast ?_
  refine kRet ?_
  refine kP (pmC _) ?_
  exact kFE rfl rfl
def t_binomial_1 (total_1 : Int) (x_4 : Int) (s_5 : (Int)) : Rs (Int) :=
  ob (mulI s_5 (total_1 - x_4)) fun mul_6 =>
  ob (fdivI mul_6 (x_4 + 1)) fun quo_7 =>
  Rs.ok (quo_7)
def t_binomial (total_1 : Int) (chosen_2 : Int) : Rs Int :=
  if (!((decide (0 ≤ chosen_2)) && (decide (chosen_2 ≤ total_1)))) = true then (Rs.ok 0) else (ob (range1 (minI2 chosen_2 (total_1 - chosen_2))) fun ks_3 => (foldR (t_binomial_1 total_1) ks_3 1).bind fun found_8 => Rs.ok found_8)
theorem F_binomial (total_1 : Int) (chosen_2 : Int) : TF false S_binomial [.sh (eI total_1), .sh (eI chosen_2)] (t_binomial total_1 chosen_2) (fun z => (.sh (eI z), [.sh (eI total_1), .sh (eI chosen_2)])) := by
  refine tf_run0 (Δ := [S (eI total_1), S (eI chosen_2), U, U]) (Θ := [.sh (eI total_1), .sh (eI chosen_2), .un, .un]) rfl ⟨rfl, rfl, rfl, rfl, trivial⟩ ?_
  refine kSeq ?_
  refine kIf ?_
  refine kP (pmNot (pmT (pmCh (pmC _) (pmV rfl) (pmV rfl) rfl rfl rfl rfl rfl) rfl)) ?_
  refine kIteD ?_ ?_
  · refine kRet ?_
    refine kP (pmC _) ?_
    exact kFE rfl rfl
  · refine kR ?_
    refine kSeq ?_
    refine kSet ?_
    refine kP (pmC _) ?_
    refine kAsg (Δ := [S (eI total_1), S (eI chosen_2), S (eI 1), U]) rfl ?_
    refine kSeq ?_
    refine kForS ?_
    refine kIN ?_
    refine kP (pmS (pmN (pmS (pmV rfl) (pmS (pmB (pmV rfl) (pmV rfl) rfl rfl rfl rfl) pmS0)) rfl rfl rfl) pmS0) ?_
    refine kINR rfl range1_ok ?_; intro ks_3
    refine kFor (en := eI) (f := t_binomial_1 total_1) (s := 1) (xs := ks_3) (G := fun s : (Int) => [S (eI total_1), S (eI chosen_2), S (eI s), .pl]) ⟨rfl, rfl, rfl, rfl, trivial⟩ ?_ ?_
    · intro x_4 s_5
      refine kPat (Δ := [S (eI total_1), S (eI chosen_2), S (eI s_5), S (eI x_4)]) rfl ?_
      refine kLast ?_
      refine kSet ?_
      refine kB ?_
      refine kB ?_
      refine kP (pmV rfl) ?_
      refine kP (pmB (pmV rfl) (pmV rfl) rfl rfl rfl rfl) ?_
      refine kPO (fun z h => pmAp2 rfl rfl (mulI_ok z h) rfl) ?_; intro mul_6
      refine kP (pmB (pmV rfl) (pmC _) rfl rfl rfl rfl) ?_
      refine kPO (fun z h => pmAp2 rfl rfl (fdivI_ok z h) rfl) ?_; intro quo_7
      refine kAsg (Δ := [S (eI total_1), S (eI chosen_2), S (eI quo_7), S (eI x_4)]) rfl ?_
      exact kNx ⟨rfl, rfl, rfl, rfl, trivial⟩
    intro found_8
    refine kLast ?_
    refine kRet ?_
    refine kP (pmV rfl) ?_
    exact kFE rfl rfl
def t_completions (height_1 : Int) (length_2 : Int) : Rs Int :=
  if ((decide (length_2 < height_1)) || (decide (((length_2 - height_1) % 2) = 1))) = true then (Rs.ok 0) else ((Rs.ok ((length_2 - height_1) / 2) : Rs Int).bind fun rises_3 => (t_binomial length_2 rises_3).bind fun binomial_4 => (t_binomial length_2 (rises_3 - 1)).bind fun binomial_5 => Rs.ok (binomial_4 - binomial_5))
theorem F_completions (height_1 : Int) (length_2 : Int) : TF false S_completions [.sh (eI height_1), .sh (eI length_2)] (t_completions height_1 length_2) (fun z => (.sh (eI z), [.sh (eI height_1), .sh (eI length_2)])) := by
  refine tf_run0 (Δ := [S (eI height_1), S (eI length_2), U]) (Θ := [.sh (eI height_1), .sh (eI length_2), .un]) rfl ⟨rfl, rfl, rfl, trivial⟩ ?_
  refine kSeq ?_
  refine kIf ?_
  refine kP (pmOr (pmT (pmB (pmV rfl) (pmV rfl) rfl rfl rfl rfl) rfl) (pmT (pmB (pmB (pmB (pmV rfl) (pmV rfl) rfl rfl rfl rfl) (pmC _) rfl rfl (mod_lit (by decide)) rfl) (pmC _) rfl rfl (eq_en En.int (by decide) ((length_2 - height_1) % 2) 1) rfl) rfl)) ?_
  refine kIteD ?_ ?_
  · refine kRet ?_
    refine kP (pmC _) ?_
    exact kFE rfl rfl
  · refine kR ?_
    refine kSeq ?_
    refine kSet ?_
    refine kP (pmB (pmB (pmV rfl) (pmV rfl) rfl rfl rfl rfl) (pmC _) rfl rfl (fdiv_lit (by decide)) rfl) ?_
    refine kAsgL (a := (((length_2 - height_1) / 2) : Int)) (R := fun a => RV.sh (eI a)) (G := fun a => [S (eI height_1), S (eI length_2), S (eI a)]) (fun _ => rfl) ?_; intro rises_3
    refine kLast ?_
    refine kRet ?_
    refine kB ?_
    refine kF ?_
    refine kP (pmS (pmV rfl) (pmS (pmV rfl) pmS0)) ?_
    refine kFzm (Δ := [S (eI height_1), S (eI length_2), S (eI rises_3)]) rfl ?_
    refine kCall (F_binomial length_2 rises_3) rfl (lend_nd rfl) rfl (G := fun a => [S (eI height_1), S (eI length_2), S (eI rises_3)]) (fun _ => rfl) (fun _ => List.cons_ne_nil _ _) ?_; intro binomial_4
    refine kF ?_
    refine kP (pmS (pmV rfl) (pmS (pmB (pmV rfl) (pmC _) rfl rfl rfl rfl) pmS0)) ?_
    refine kFzm (Δ := [S (eI height_1), S (eI length_2), S (eI rises_3)]) rfl ?_
    refine kCall (F_binomial length_2 (rises_3 - 1)) rfl (lend_nd rfl) rfl (G := fun a => [S (eI height_1), S (eI length_2), S (eI rises_3)]) (fun _ => rfl) (fun _ => List.cons_ne_nil _ _) ?_; intro binomial_5
    refine kP (pmAp2 rfl rfl rfl rfl) ?_
    exact kFE rfl rfl
def t_number_of_1 (word_1 : Str) (x_3 : (Int × Str)) (s_4 : (Int × Int)) : Rs (Int × Int) :=
  (if (decide (x_3.2 = ("U" : Str))) = true then ((if (decide (0 < s_4.2)) = true then (ob (lenS word_1) fun len_5 => (t_completions (s_4.2 - 1) ((len_5 - 1) - x_3.1)).bind fun completions_6 => Rs.ok (completions_6)) else (Rs.ok (0)) : Rs (Int)).bind fun w_5 => (Rs.ok (s_4.1 + w_5) : Rs Int).bind fun found_6 => (Rs.ok (s_4.2 + 1) : Rs Int).bind fun height_7 => Rs.ok (found_6, height_7)) else ((Rs.ok (s_4.2 - 1) : Rs Int).bind fun height_5 => Rs.ok (s_4.1, height_5)) : Rs (Int × Int)).bind fun st_5 =>
  Rs.ok (st_5.1, st_5.2)
def t_number_of (word_1 : Str) : Rs Int :=
  (t_validate_word word_1).bind fun validate_word_2 =>
  (foldR (t_number_of_1 word_1) (enumT 0 (chars word_1)) (0, 0)).bind fun st_6 =>
  Rs.ok st_6.1
theorem F_number_of (word_1 : Str) : TF false S_number_of [.sh (eS' word_1)] (t_number_of word_1) (fun z => (.sh (eI z), [.sh (eS' word_1)])) := by
  refine tf_run0 (Δ := [S (eS' word_1), U, U, U, U]) (Θ := [.sh (eS' word_1), .un, .un, .un, .un]) rfl ⟨rfl, rfl, rfl, rfl, rfl, trivial⟩ ?_
  refine kSeq ?_
  refine kEx ?_
  refine kF ?_
  refine kP (pmS (pmV rfl) pmS0) ?_
  refine kFzm (Δ := [S (eS' word_1), U, U, U, U]) rfl ?_
  refine kCall (F_validate_word word_1) rfl (lend_nd rfl) rfl (G := fun a => [S (eS' word_1), U, U, U, U]) (fun _ => rfl) (fun _ => List.cons_ne_nil _ _) ?_; intro validate_word_2
  refine kSeq ?_
  refine kUnp ?_
  refine kP (pmS (pmC _) (pmS (pmC _) pmS0)) ?_
  refine kFzl (Δ := [S (eS' word_1), U, U, U, U]) rfl ?_
  refine kG ?_
  refine kAsg (Δ := [S (eS' word_1), S (eI 0), U, U, U]) rfl ?_
  refine kG ?_
  refine kAsg (Δ := [S (eS' word_1), S (eI 0), S (eI 0), U, U]) rfl ?_
  refine kG0 ?_
  refine kSeq ?_
  refine kForS ?_
  refine kIEx ?_
  refine kP (pmV rfl) ?_
  refine kFz (Δ := [S (eS' word_1), S (eI 0), S (eI 0), U, U]) rfl ?_
  refine kItE (e := eS') (xs := (chars word_1)) (items_S _) ?_
  refine kFor (en := (e2 eI eS')) (f := t_number_of_1 word_1) (s := (0, 0)) (xs := (enumT 0 (chars word_1))) (G := fun s : (Int × Int) => [S (eS' word_1), S (eI s.1), S (eI s.2), .pl, .pl]) ⟨rfl, rfl, rfl, rfl, rfl, trivial⟩ ?_ ?_
  · intro x_3 s_4
    refine kPat (Δ := [S (eS' word_1), S (eI s_4.1), S (eI s_4.2), S (eI x_3.1), S (eS' x_3.2)]) rfl ?_
    refine kLast ?_
    refine kIf ?_
    refine kP (pmT (pmB (pmV rfl) (pmC _) rfl rfl rfl rfl) rfl) ?_
    refine kIte (v := fun _ => Fl.nx) (G := fun z : (Int × Int) => [S (eS' word_1), S (eI z.1), S (eI z.2), S (eI x_3.1), S (eS' x_3.2)]) ?_ ?_ ?_
    · refine kSeq ?_
      refine kAug rfl ?_
      refine kEIf ?_
      refine kP (pmT (pmB (pmV rfl) (pmC _) rfl rfl rfl rfl) rfl) ?_
      refine kIte (v := fun z => RV.sh (eI z)) (G := fun z => [S (eS' word_1), S (eI s_4.1), S (eI s_4.2), S (eI x_3.1), S (eS' x_3.2)]) ?_ ?_ ?_
      · refine kE ?_
        refine kF ?_
        refine kS ?_
        refine kP (pmB (pmV rfl) (pmC _) rfl rfl rfl rfl) ?_
        refine kS ?_
        refine kB ?_
        refine kB ?_
        refine kN ?_
        refine kP (pmS (pmV rfl) pmS0) ?_
        refine kPO (fun z h => pmApN rfl (lenS_ok z h) rfl) ?_; intro len_5
        refine kP (pmC _) ?_
        refine kP (pmAp2 rfl rfl rfl rfl) ?_
        refine kP (pmV rfl) ?_
        refine kP (pmAp2 rfl rfl rfl rfl) ?_
        refine kS0 ?_
        refine kFzm (Δ := [S (eS' word_1), S (eI s_4.1), S (eI s_4.2), S (eI x_3.1), S (eS' x_3.2)]) rfl ?_
        refine kCall (F_completions (s_4.2 - 1) ((len_5 - 1) - x_3.1)) rfl (lend_nd rfl) rfl (G := fun a => [S (eS' word_1), S (eI s_4.1), S (eI s_4.2), S (eI x_3.1), S (eS' x_3.2)]) (fun _ => rfl) (fun _ => List.cons_ne_nil _ _) ?_; intro completions_6
        exact kJ rfl ⟨rfl, rfl, rfl, rfl, rfl, trivial⟩
      · refine kE ?_
        refine kP (pmC _) ?_
        exact kJ rfl ⟨rfl, rfl, rfl, rfl, rfl, trivial⟩
      intro w_5
      refine kP (pmAp2 rfl rfl rfl rfl) ?_
      refine kAsgL (a := ((s_4.1 + w_5) : Int)) (R := fun a => RV.sh (eI a)) (G := fun a => [S (eS' word_1), S (eI a), S (eI s_4.2), S (eI x_3.1), S (eS' x_3.2)]) (fun _ => rfl) ?_; intro found_6
      refine kLast ?_
      refine kAug rfl ?_
      refine kP (pmC _) ?_
      refine kP (pmAp2 rfl rfl rfl rfl) ?_
      refine kAsgL (a := ((s_4.2 + 1) : Int)) (R := fun a => RV.sh (eI a)) (G := fun a => [S (eS' word_1), S (eI found_6), S (eI a), S (eI x_3.1), S (eS' x_3.2)]) (fun _ => rfl) ?_; intro height_7
      exact kJ rfl ⟨rfl, rfl, rfl, rfl, rfl, trivial⟩
    · refine kLast ?_
      refine kAug rfl ?_
      refine kP (pmC _) ?_
      refine kP (pmAp2 rfl rfl rfl rfl) ?_
      refine kAsgL (a := ((s_4.2 - 1) : Int)) (R := fun a => RV.sh (eI a)) (G := fun a => [S (eS' word_1), S (eI s_4.1), S (eI a), S (eI x_3.1), S (eS' x_3.2)]) (fun _ => rfl) ?_; intro height_5
      exact kJ rfl ⟨rfl, rfl, rfl, rfl, rfl, trivial⟩
    intro st_5
    exact kNx ⟨rfl, rfl, rfl, rfl, rfl, trivial⟩
  intro st_6
  refine kLast ?_
  refine kRet ?_
  refine kP (pmV rfl) ?_
  exact kFE rfl rfl
def t_previous_word_1 (word_1 : Str) (x_4 : (Int × Int × Int)) (s_5 : Unit) : Rs (Bo Unit (Option Str)) :=
  if (decide (0 < x_4.2.1)) = true then ((Rs.ok (((x_4.2.2 - x_4.2.1) + 1) / 2) : Rs Int).bind fun rises_6 => ob (cutT word_1 none (some x_4.1)) fun cut_7 => ob (addS cut_7 ("D" : Str)) fun add_8 => ob (mulS ("U" : Str) rises_6) fun mul_9 => ob (addS add_8 mul_9) fun add_10 => ob (mulS ("D" : Str) (x_4.2.2 - rises_6)) fun mul_11 => ob (addS add_10 mul_11) fun add_12 => Rs.ok (.rt (some add_12))) else (Rs.ok (.nx ()))
def t_previous_word (word_1 : Str) : Rs (Option Str) :=
  (t_validate_word word_1).bind fun validate_word_2 =>
  (t_changed_places word_1 ("U" : Str)).bind fun changed_places_3 =>
  (forR (t_previous_word_1 word_1) changed_places_3 ()).bind (aft (fun st_6 =>
  Rs.ok (none)) id)
theorem F_previous_word (word_1 : Str) : TF false S_previous_word [.sh (eS' word_1)] (t_previous_word word_1) (fun z => (.sh ((eO eS') z), [.sh (eS' word_1)])) := by
  refine tf_run0 (Δ := [S (eS' word_1), U, U, U, U]) (Θ := [.sh (eS' word_1), .un, .un, .un, .un]) rfl ⟨rfl, rfl, rfl, rfl, rfl, trivial⟩ ?_
  refine kSeq ?_
  refine kEx ?_
  refine kF ?_
  refine kP (pmS (pmV rfl) pmS0) ?_
  refine kFzm (Δ := [S (eS' word_1), U, U, U, U]) rfl ?_
  refine kCall (F_validate_word word_1) rfl (lend_nd rfl) rfl (G := fun a => [S (eS' word_1), U, U, U, U]) (fun _ => rfl) (fun _ => List.cons_ne_nil _ _) ?_; intro validate_word_2
  refine kSeq ?_
  refine kForS ?_
  refine kIDx ?_
  refine kF ?_
  refine kP (pmS (pmV rfl) (pmS (pmC _) pmS0)) ?_
  refine kFzm (Δ := [S (eS' word_1), U, U, U, U]) rfl ?_
  refine kCall (F_changed_places word_1 ("U" : Str)) rfl (lend_nd rfl) rfl (G := fun a => [S (eS' word_1), U, U, U, U]) (fun _ => rfl) (fun _ => List.cons_ne_nil _ _) ?_; intro changed_places_3
  refine kFz (Δ := [S (eS' word_1), U, U, U, U]) rfl ?_
  refine kIt (ds := List.map (e3 eI eI eI) changed_places_3) (items_L _) ?_
  refine kForR (en := (e3 eI eI eI)) (f := t_previous_word_1 word_1) (s := ()) (xs := changed_places_3) (G := fun s : Unit => [S (eS' word_1), .pl, .pl, .pl, .pl]) ⟨rfl, rfl, rfl, rfl, rfl, trivial⟩ ?_ ?_
  · intro x_4 s_5
    refine kPat (Δ := [S (eS' word_1), S (eI x_4.1), S (eI x_4.2.1), S (eI x_4.2.2), .pl]) rfl ?_
    refine kLast ?_
    refine kIf ?_
    refine kP (pmT (pmB (pmV rfl) (pmC _) rfl rfl rfl rfl) rfl) ?_
    refine kIteD ?_ ?_
    · refine kSS ?_
      refine kSeq ?_
      refine kSet ?_
      refine kP (pmB (pmB (pmB (pmV rfl) (pmV rfl) rfl rfl rfl rfl) (pmC _) rfl rfl rfl rfl) (pmC _) rfl rfl (fdiv_lit (by decide)) rfl) ?_
      refine kAsgL (a := ((((x_4.2.2 - x_4.2.1) + 1) / 2) : Int)) (R := fun a => RV.sh (eI a)) (G := fun a => [S (eS' word_1), S (eI x_4.1), S (eI x_4.2.1), S (eI x_4.2.2), S (eI a)]) (fun _ => rfl) ?_; intro rises_6
      refine kSeq ?_
      refine kRet ?_
      refine kB ?_
      refine kB ?_
      refine kB ?_
      refine kSl ?_
      refine kP (pmV rfl) ?_
      refine kP pmPart0 ?_
      refine kPart ?_
      refine kP (pmV rfl) ?_
      refine kP (pmPR rfl) ?_
      refine kPO (fun z h => pmAp3 rfl (cutT_ok z h) rfl) ?_; intro cut_7
      refine kP (pmC _) ?_
      refine kPO (fun z h => pmAp2 rfl rfl (addS_ok z h) rfl) ?_; intro add_8
      refine kB ?_
      refine kP (pmC _) ?_
      refine kP (pmV rfl) ?_
      refine kPO (fun z h => pmAp2 rfl rfl (mulS_ok z h) rfl) ?_; intro mul_9
      refine kPO (fun z h => pmAp2 rfl rfl (addS_ok z h) rfl) ?_; intro add_10
      refine kB ?_
      refine kP (pmC _) ?_
      refine kP (pmB (pmV rfl) (pmV rfl) rfl rfl rfl rfl) ?_
      refine kPO (fun z h => pmAp2 rfl rfl (mulS_ok z h) rfl) ?_; intro mul_11
      refine kPO (fun z h => pmAp2 rfl rfl (addS_ok z h) rfl) ?_; intro add_12
      exact kRtB (kFE rfl rfl)
    · refine kR ?_
      exact kNxB ⟨rfl, rfl, rfl, rfl, trivial, trivial⟩
  intro st_6
  refine kLast ?_
  refine kRet ?_
  refine kP (pmC _) ?_
  exact kFE rfl rfl
def t_is_any_integer (value_1 : Int) : Rs Bool :=
  Rs.ok (true && (!false))
theorem F_is_any_integer (value_1 : Int) : TF false S_is_any_integer [.sh (eI value_1)] (t_is_any_integer value_1) (fun z => (.sh (eB' z), [.sh (eI value_1)])) := by
  refine tf_run0 (Δ := [S (eI value_1)]) (Θ := [.sh (eI value_1)]) rfl ⟨rfl, trivial⟩ ?_
  refine kLast ?_
  refine kRet ?_
  refine kP (pmEAnd (pmT (pmU (pmV rfl) rfl rfl rfl) rfl) (pmENot (pmT (pmU (pmV rfl) rfl rfl rfl) rfl))) ?_
  exact kFE rfl rfl
def t_is_integer (value_1 : Int) (least_2 : Int) (most_3 : Int) : Rs Bool :=
  (t_is_any_integer value_1).bind fun is_any_integer_4 =>
  (if is_any_integer_4 = true then (Rs.ok (((decide (least_2 ≤ value_1)) && (decide (value_1 ≤ most_3))))) else (Rs.ok (false)) : Rs (Bool)).bind fun w_5 =>
  Rs.ok w_5
theorem F_is_integer (value_1 : Int) (least_2 : Int) (most_3 : Int) : TF false S_is_integer [.sh (eI value_1), .sh (eI least_2), .sh (eI most_3)] (t_is_integer value_1 least_2 most_3) (fun z => (.sh (eB' z), [.sh (eI value_1), .sh (eI least_2), .sh (eI most_3)])) := by
  refine tf_run0 (Δ := [S (eI value_1), S (eI least_2), S (eI most_3)]) (Θ := [.sh (eI value_1), .sh (eI least_2), .sh (eI most_3)]) rfl ⟨rfl, rfl, rfl, trivial⟩ ?_
  refine kLast ?_
  refine kRet ?_
  refine kEAnd ?_
  refine kT ?_
  refine kF ?_
  refine kP (pmS (pmV rfl) pmS0) ?_
  refine kFzm (Δ := [S (eI value_1), S (eI least_2), S (eI most_3)]) rfl ?_
  refine kCall (F_is_any_integer value_1) rfl (lend_nd rfl) rfl (G := fun a => [S (eI value_1), S (eI least_2), S (eI most_3)]) (fun _ => rfl) (fun _ => List.cons_ne_nil _ _) ?_; intro is_any_integer_4
  refine kP (pmTR rfl) ?_
  refine kIte (v := fun z => RV.sh (eB' z)) (G := fun z => [S (eI value_1), S (eI least_2), S (eI most_3)]) ?_ ?_ ?_
  · refine kE ?_
    refine kP (pmCh (pmV rfl) (pmV rfl) (pmV rfl) rfl rfl rfl rfl rfl) ?_
    exact kJ rfl ⟨rfl, rfl, rfl, trivial⟩
  · refine kE ?_
    refine kR ?_
    exact kJ rfl ⟨rfl, rfl, rfl, trivial⟩
  intro w_5
  exact kFE rfl rfl
def t_check_size (size_1 : Int) (most_2 : Int) : Rs Unit :=
  (t_is_integer size_1 0 most_2).bind fun is_integer_3 =>
  if (!is_integer_3) = true then (.bad) else (Rs.ok ())
theorem F_check_size (size_1 : Int) (most_2 : Int) : TF false S_check_size [.sh (eI size_1), .sh (eI most_2)] (t_check_size size_1 most_2) (fun z => (.sh (eN' z), [.sh (eI size_1), .sh (eI most_2)])) := by
  refine tf_run0 (Δ := [S (eI size_1), S (eI most_2)]) (Θ := [.sh (eI size_1), .sh (eI most_2)]) rfl ⟨rfl, rfl, trivial⟩ ?_
  refine kLast ?_
  refine kIf ?_
  refine kTNot ?_
  refine kT ?_
  refine kF ?_
  refine kP (pmS (pmV rfl) (pmS (pmC _) (pmS (pmV rfl) pmS0))) ?_
  refine kFzm (Δ := [S (eI size_1), S (eI most_2)]) rfl ?_
  refine kCall (F_is_integer size_1 0 most_2) rfl (lend_nd rfl) rfl (G := fun a => [S (eI size_1), S (eI most_2)]) (fun _ => rfl) (fun _ => List.cons_ne_nil _ _) ?_; intro is_integer_3
  refine kP (pmTR rfl) ?_
  refine kIteD ?_ ?_
  · exact kBad
  · refine kR ?_
    exact kFE rfl rfl
def t_word_at_1  (x_10 : Int) (s_11 : (Int × (List Str) × Int)) : Rs (Int × (List Str) × Int) :=
  (if (decide (0 < s_11.2.2)) = true then ((t_completions (s_11.2.2 - 1) x_10).bind fun completions_12 => Rs.ok (completions_12)) else (Rs.ok (0)) : Rs (Int)).bind fun w_12 =>
  (if (decide (s_11.1 < w_12)) = true then (ob (appL s_11.2.1 ("D" : Str)) fun found_13 => (Rs.ok (s_11.2.2 - 1) : Rs Int).bind fun height_14 => Rs.ok (s_11.1, found_13, height_14)) else ((Rs.ok (s_11.1 - w_12) : Rs Int).bind fun number_13 => ob (appL s_11.2.1 ("U" : Str)) fun found_14 => (Rs.ok (s_11.2.2 + 1) : Rs Int).bind fun height_15 => Rs.ok (number_13, found_14, height_15)) : Rs (Int × (List Str) × Int)).bind fun st_13 =>
  Rs.ok (st_13.1, st_13.2.1, st_13.2.2)
def t_word_at (size_1 : Int) (number_2 : Int) : Rs Str :=
  (t_check_size size_1 30).bind fun check_size_3 =>
  ob (mulI 2 size_1) fun mul_4 =>
  (t_completions 0 mul_4).bind fun completions_5 =>
  (t_is_integer number_2 0 (completions_5 - 1)).bind fun is_integer_6 =>
  if (!is_integer_6) = true then (.bad) else ((Rs.ok ([] : (List Str)) : Rs (List Str)).bind fun found_7 => ob (mulI 2 size_1) fun mul_8 => ob (rangeD (mul_8 - 1) (-1)) fun ks_9 => (foldR (t_word_at_1 ) ks_9 (number_2, found_7, 0)).bind fun st_14 => ob (joinT ("" : Str) st_14.2.1) fun join_15 => Rs.ok join_15)
theorem F_word_at (size_1 : Int) (number_2 : Int) : TF false S_word_at [.sh (eI size_1), .sh (eI number_2)] (t_word_at size_1 number_2) (fun z => (.sh (eS' z), [.sh (eI size_1), .sh (eI number_2)])) := by
  refine tf_run0 (Δ := [S (eI size_1), S (eI number_2), U, U, U, U]) (Θ := [.sh (eI size_1), .sh (eI number_2), .un, .un, .un, .un]) rfl ⟨rfl, rfl, rfl, rfl, rfl, rfl, trivial⟩ ?_
  refine kSeq ?_
  refine kEx ?_
  refine kF ?_
  refine kP (pmS (pmV rfl) (pmS (pmC _) pmS0)) ?_
  refine kFzm (Δ := [S (eI size_1), S (eI number_2), U, U, U, U]) rfl ?_
  refine kCall (F_check_size size_1 30) rfl (lend_nd rfl) rfl (G := fun a => [S (eI size_1), S (eI number_2), U, U, U, U]) (fun _ => rfl) (fun _ => List.cons_ne_nil _ _) ?_; intro check_size_3
  refine kSeq ?_
  refine kIf ?_
  refine kTNot ?_
  refine kT ?_
  refine kF ?_
  refine kS ?_
  refine kP (pmV rfl) ?_
  refine kS ?_
  refine kP (pmC _) ?_
  refine kS ?_
  refine kB ?_
  refine kF ?_
  refine kS ?_
  refine kP (pmC _) ?_
  refine kS ?_
  refine kB ?_
  refine kP (pmC _) ?_
  refine kP (pmV rfl) ?_
  refine kPO (fun z h => pmAp2 rfl rfl (mulI_ok z h) rfl) ?_; intro mul_4
  refine kS0 ?_
  refine kFzm (Δ := [S (eI size_1), S (eI number_2), U, U, U, U]) rfl ?_
  refine kCall (F_completions 0 mul_4) rfl (lend_nd rfl) rfl (G := fun a => [S (eI size_1), S (eI number_2), U, U, U, U]) (fun _ => rfl) (fun _ => List.cons_ne_nil _ _) ?_; intro completions_5
  refine kP (pmC _) ?_
  refine kP (pmAp2 rfl rfl rfl rfl) ?_
  refine kS0 ?_
  refine kFzm (Δ := [S (eI size_1), S (eI number_2), U, U, U, U]) rfl ?_
  refine kCall (F_is_integer number_2 0 (completions_5 - 1)) rfl (lend_nd rfl) rfl (G := fun a => [S (eI size_1), S (eI number_2), U, U, U, U]) (fun _ => rfl) (fun _ => List.cons_ne_nil _ _) ?_; intro is_integer_6
  refine kP (pmTR rfl) ?_
  refine kIteD ?_ ?_
  · exact kBad
  · refine kR ?_
    refine kSeq ?_
    refine kUnpR ?_
    refine kP (pmS (pmLst pmS0 rfl) (pmS (pmC _) pmS0)) ?_
    refine kFzl (Δ := [S (eI size_1), S (eI number_2), U, U, U, U]) rfl ?_
    refine kG ?_
    refine kAsg (Δ := [S (eI size_1), S (eI number_2), U, S (eI 0), U, U]) rfl ?_
    refine kG ?_
    refine kAsgL (a := (([] : (List Str)) : (List Str))) (R := fun a => RV.new ((eL eS') a)) (G := fun a => [S (eI size_1), S (eI number_2), O ((eL eS') a), S (eI 0), U, U]) (fun _ => rfl) ?_; intro found_7
    refine kG0 ?_
    refine kSeq ?_
    refine kForS ?_
    refine kIN ?_
    refine kS ?_
    refine kB ?_
    refine kB ?_
    refine kP (pmC _) ?_
    refine kP (pmV rfl) ?_
    refine kPO (fun z h => pmAp2 rfl rfl (mulI_ok z h) rfl) ?_; intro mul_8
    refine kP (pmC _) ?_
    refine kP (pmAp2 rfl rfl rfl rfl) ?_
    refine kS ?_
    refine kP (pmU (pmC _) rfl rfl rfl) ?_
    refine kS ?_
    refine kP (pmU (pmC _) rfl rfl rfl) ?_
    refine kS0 ?_
    refine kINR rfl rangeD_ok ?_; intro ks_9
    refine kFor (en := eI) (f := t_word_at_1 ) (s := (number_2, found_7, 0)) (xs := ks_9) (G := fun s : (Int × (List Str) × Int) => [S (eI size_1), S (eI s.1), O ((eL eS') s.2.1), S (eI s.2.2), .pl, .pl]) ⟨rfl, rfl, rfl, rfl, rfl, rfl, trivial⟩ ?_ ?_
    · intro x_10 s_11
      refine kPat (Δ := [S (eI size_1), S (eI s_11.1), O ((eL eS') s_11.2.1), S (eI s_11.2.2), S (eI x_10), .pl]) rfl ?_
      refine kSeq ?_
      refine kSet ?_
      refine kEIf ?_
      refine kP (pmT (pmB (pmV rfl) (pmC _) rfl rfl rfl rfl) rfl) ?_
      refine kIte (v := fun z => RV.sh (eI z)) (G := fun z => [S (eI size_1), S (eI s_11.1), O ((eL eS') s_11.2.1), S (eI s_11.2.2), S (eI x_10), .pl]) ?_ ?_ ?_
      · refine kE ?_
        refine kF ?_
        refine kP (pmS (pmB (pmV rfl) (pmC _) rfl rfl rfl rfl) (pmS (pmV rfl) pmS0)) ?_
        refine kFzm (Δ := [S (eI size_1), S (eI s_11.1), O ((eL eS') s_11.2.1), S (eI s_11.2.2), S (eI x_10), .pl]) rfl ?_
        refine kCall (F_completions (s_11.2.2 - 1) x_10) rfl (lend_nd rfl) rfl (G := fun a => [S (eI size_1), S (eI s_11.1), O ((eL eS') s_11.2.1), S (eI s_11.2.2), S (eI x_10), .pl]) (fun _ => rfl) (fun _ => List.cons_ne_nil _ _) ?_; intro completions_12
        exact kJ rfl ⟨rfl, rfl, rfl, rfl, rfl, trivial, trivial⟩
      · refine kE ?_
        refine kP (pmC _) ?_
        exact kJ rfl ⟨rfl, rfl, rfl, rfl, rfl, trivial, trivial⟩
      intro w_12
      refine kAsg (Δ := [S (eI size_1), S (eI s_11.1), O ((eL eS') s_11.2.1), S (eI s_11.2.2), S (eI x_10), S (eI w_12)]) rfl ?_
      refine kLast ?_
      refine kIf ?_
      refine kP (pmT (pmB (pmV rfl) (pmV rfl) rfl rfl rfl rfl) rfl) ?_
      refine kIte (v := fun _ => Fl.nx) (G := fun z : (Int × (List Str) × Int) => [S (eI size_1), S (eI z.1), O ((eL eS') z.2.1), S (eI z.2.2), S (eI x_10), S (eI w_12)]) ?_ ?_ ?_
      · refine kSeq ?_
        refine kEx ?_
        refine kChg (pmV rfl) rfl rfl (.inl ⟨_, rfl⟩) ?_
        refine kP (pmS (pmC _) pmS0) ?_
        refine kFzs (Δ := [S (eI size_1), S (eI s_11.1), O ((eL eS') s_11.2.1), S (eI s_11.2.2), S (eI x_10), S (eI w_12)]) rfl ?_
        refine kChO rfl (appL_ok (e := eS') (v := ("D" : Str))) ?_; intro found_13
        refine kLast ?_
        refine kAug rfl ?_
        refine kP (pmC _) ?_
        refine kP (pmAp2 rfl rfl rfl rfl) ?_
        refine kAsgL (a := ((s_11.2.2 - 1) : Int)) (R := fun a => RV.sh (eI a)) (G := fun a => [S (eI size_1), S (eI s_11.1), O ((eL eS') found_13), S (eI a), S (eI x_10), S (eI w_12)]) (fun _ => rfl) ?_; intro height_14
        exact kJ rfl ⟨rfl, rfl, rfl, rfl, rfl, rfl, trivial⟩
      · refine kSeq ?_
        refine kAug rfl ?_
        refine kP (pmV rfl) ?_
        refine kP (pmAp2 rfl rfl rfl rfl) ?_
        refine kAsgL (a := ((s_11.1 - w_12) : Int)) (R := fun a => RV.sh (eI a)) (G := fun a => [S (eI size_1), S (eI a), O ((eL eS') s_11.2.1), S (eI s_11.2.2), S (eI x_10), S (eI w_12)]) (fun _ => rfl) ?_; intro number_13
        refine kSeq ?_
        refine kEx ?_
        refine kChg (pmV rfl) rfl rfl (.inl ⟨_, rfl⟩) ?_
        refine kP (pmS (pmC _) pmS0) ?_
        refine kFzs (Δ := [S (eI size_1), S (eI number_13), O ((eL eS') s_11.2.1), S (eI s_11.2.2), S (eI x_10), S (eI w_12)]) rfl ?_
        refine kChO rfl (appL_ok (e := eS') (v := ("U" : Str))) ?_; intro found_14
        refine kLast ?_
        refine kAug rfl ?_
        refine kP (pmC _) ?_
        refine kP (pmAp2 rfl rfl rfl rfl) ?_
        refine kAsgL (a := ((s_11.2.2 + 1) : Int)) (R := fun a => RV.sh (eI a)) (G := fun a => [S (eI size_1), S (eI number_13), O ((eL eS') found_14), S (eI a), S (eI x_10), S (eI w_12)]) (fun _ => rfl) ?_; intro height_15
        exact kJ rfl ⟨rfl, rfl, rfl, rfl, rfl, rfl, trivial⟩
      intro st_13
      exact kNx ⟨rfl, rfl, rfl, rfl, rfl, rfl, trivial⟩
    intro st_14
    refine kLast ?_
    refine kRet ?_
    refine kMth ?_
    refine kP (pmC _) ?_
    refine kP (pmChk rfl rfl) ?_
    refine kP (pmS (pmV rfl) pmS0) ?_
    refine kPO (fun z h => pmApN rfl (joinT_ok z h) rfl) ?_; intro join_15
    exact kFE rfl rfl
def t__law_one_right (texts_1 : (List Str)) (k_2 : Int) : Rs Bool :=
  ob (ixL texts_1 k_2) fun at_3 =>
  ob (ixL texts_1 0) fun at_4 =>
  ob (lenS at_4) fun len_5 =>
  (Rs.ok (len_5 / 2) : Rs Int).bind fun many_6 =>
  (t_word_at many_6 k_2).bind fun word_at_7 =>
  (t_word_at many_6 k_2).bind fun word_at_8 =>
  (t_number_of at_3).bind fun number_of_9 =>
  (t_number_of at_3).bind fun number_of_10 =>
  (Rs.ok ([(eS' word_at_7), (eS' word_at_8), (eI number_of_9), (eI number_of_10)]) : Rs (List D)).bind fun found_11 =>
  ob (reprG ((eL eD) found_11)) fun rep_12 =>
  ob (reprG ((eL eD) [(eS' at_3), (eS' at_3), (eI k_2), (eI k_2)])) fun rep_13 =>
  if (!decide (rep_12 = rep_13)) = true then (Rs.ok false) else ((if (decide ((k_2 + 1) < (texts_1.length : Int))) = true then (ob (ixL texts_1 (k_2 + 1)) fun at_14 => Rs.ok ((some at_14))) else (Rs.ok ((none))) : Rs ((Option Str))).bind fun w_14 => (if (decide (0 < k_2)) = true then (ob (ixL texts_1 (k_2 - 1)) fun at_15 => Rs.ok ((some at_15))) else (Rs.ok ((none))) : Rs ((Option Str))).bind fun w_15 => (t_next_word at_3).bind fun next_word_16 => (t_next_word at_3).bind fun next_word_17 => (t_previous_word at_3).bind fun previous_word_18 => (t_previous_word at_3).bind fun previous_word_19 => (Rs.ok ([next_word_16, next_word_17, previous_word_18, previous_word_19]) : Rs (List (Option Str))).bind fun found_20 => ob (reprG ((eL (eO eS')) found_20)) fun rep_21 => ob (reprG ((eL (eO eS')) [w_14, w_14, w_15, w_15])) fun rep_22 => Rs.ok (decide (rep_21 = rep_22)))
theorem F__law_one_right (texts_1 : (List Str)) (k_2 : Int) : TF false S__law_one_right [.sh ((eL eS') texts_1), .sh (eI k_2)] (t__law_one_right texts_1 k_2) (fun z => (.sh (eB' z), [.sh ((eL eS') texts_1), .sh (eI k_2)])) := by
  refine tf_run0 (Δ := [S ((eL eS') texts_1), S (eI k_2), U, U, U, U, U]) (Θ := [.sh ((eL eS') texts_1), .sh (eI k_2), .un, .un, .un, .un, .un]) rfl ⟨rfl, rfl, rfl, rfl, rfl, rfl, rfl, trivial⟩ ?_
  refine kSeq ?_
  refine kUnpR ?_
  refine kS ?_
  refine kB ?_
  refine kP (pmV rfl) ?_
  refine kP (pmV rfl) ?_
  refine kPO (fun z h => pmAp2 rfl rfl ((ixL_ok (e := eS')) z h) rfl) ?_; intro at_3
  refine kS ?_
  refine kB ?_
  refine kN ?_
  refine kS ?_
  refine kB ?_
  refine kP (pmV rfl) ?_
  refine kP (pmC _) ?_
  refine kPO (fun z h => pmAp2 rfl rfl ((ixL_ok (e := eS')) z h) rfl) ?_; intro at_4
  refine kS0 ?_
  refine kPO (fun z h => pmApN rfl (lenS_ok z h) rfl) ?_; intro len_5
  refine kP (pmC _) ?_
  refine kP (pmAp2 rfl rfl (fdiv_lit (by decide)) rfl) ?_
  refine kS0 ?_
  refine kFzl (Δ := [S ((eL eS') texts_1), S (eI k_2), U, U, U, U, U]) rfl ?_
  refine kG ?_
  refine kAsgL (a := ((len_5 / 2) : Int)) (R := fun a => RV.sh (eI a)) (G := fun a => [S ((eL eS') texts_1), S (eI k_2), U, S (eI a), U, U, U]) (fun _ => rfl) ?_; intro many_6
  refine kG ?_
  refine kAsg (Δ := [S ((eL eS') texts_1), S (eI k_2), S (eS' at_3), S (eI many_6), U, U, U]) rfl ?_
  refine kG0 ?_
  refine kSeq ?_
  refine kSet ?_
  refine kLst ?_
  refine kS ?_
  refine kF ?_
  refine kP (pmS (pmV rfl) (pmS (pmV rfl) pmS0)) ?_
  refine kFzm (Δ := [S ((eL eS') texts_1), S (eI k_2), S (eS' at_3), S (eI many_6), U, U, U]) rfl ?_
  refine kCall (F_word_at many_6 k_2) rfl (lend_nd rfl) rfl (G := fun a => [S ((eL eS') texts_1), S (eI k_2), S (eS' at_3), S (eI many_6), U, U, U]) (fun _ => rfl) (fun _ => List.cons_ne_nil _ _) ?_; intro word_at_7
  refine kS ?_
  refine kFK ?_
  refine kP (pmS (pmV rfl) (pmS (pmV rfl) pmS0)) ?_
  refine kFzm (Δ := [S ((eL eS') texts_1), S (eI k_2), S (eS' at_3), S (eI many_6), U, U, U]) rfl ?_
  refine kCall (F_word_at many_6 k_2) rfl (lend_nd rfl) rfl (G := fun a => [S ((eL eS') texts_1), S (eI k_2), S (eS' at_3), S (eI many_6), U, U, U]) (fun _ => rfl) (fun _ => List.cons_ne_nil _ _) ?_; intro word_at_8
  refine kS ?_
  refine kF ?_
  refine kP (pmS (pmV rfl) pmS0) ?_
  refine kFzm (Δ := [S ((eL eS') texts_1), S (eI k_2), S (eS' at_3), S (eI many_6), U, U, U]) rfl ?_
  refine kCall (F_number_of at_3) rfl (lend_nd rfl) rfl (G := fun a => [S ((eL eS') texts_1), S (eI k_2), S (eS' at_3), S (eI many_6), U, U, U]) (fun _ => rfl) (fun _ => List.cons_ne_nil _ _) ?_; intro number_of_9
  refine kS ?_
  refine kFK ?_
  refine kP (pmS (pmV rfl) pmS0) ?_
  refine kFzm (Δ := [S ((eL eS') texts_1), S (eI k_2), S (eS' at_3), S (eI many_6), U, U, U]) rfl ?_
  refine kCall (F_number_of at_3) rfl (lend_nd rfl) rfl (G := fun a => [S ((eL eS') texts_1), S (eI k_2), S (eS' at_3), S (eI many_6), U, U, U]) (fun _ => rfl) (fun _ => List.cons_ne_nil _ _) ?_; intro number_of_10
  refine kS0 ?_
  refine kFzs (Δ := [S ((eL eS') texts_1), S (eI k_2), S (eS' at_3), S (eI many_6), U, U, U]) rfl ?_
  refine kAsgL (a := ([(eS' word_at_7), (eS' word_at_8), (eI number_of_9), (eI number_of_10)] : (List D))) (R := fun a => RV.new ((eL eD) a)) (G := fun a => [S ((eL eS') texts_1), S (eI k_2), S (eS' at_3), S (eI many_6), O ((eL eD) a), U, U]) (fun _ => rfl) ?_; intro found_11
  refine kSeq ?_
  refine kIf ?_
  refine kT ?_
  refine kB ?_
  refine kN ?_
  refine kP (pmS (pmV rfl) pmS0) ?_
  refine kPO (fun z h => pmApN rfl (reprL_ok z h) rfl) ?_; intro rep_12
  refine kN ?_
  refine kP (pmS (pmLst (pmS (pmV rfl) (pmS (pmV rfl) (pmS (pmV rfl) (pmS (pmV rfl) pmS0)))) rfl) pmS0) ?_
  refine kPO (fun z h => pmApN rfl (reprL_ok z h) rfl) ?_; intro rep_13
  refine kP (pmAp2 rfl rfl rfl rfl) ?_
  refine kP (pmTR rfl) ?_
  refine kIteD ?_ ?_
  · refine kRet ?_
    refine kP (pmC _) ?_
    exact kFE rfl rfl
  · refine kR ?_
    refine kSeq ?_
    refine kSet ?_
    refine kEIf ?_
    refine kP (pmT (pmB (pmB (pmV rfl) (pmC _) rfl rfl rfl rfl) (pmN (pmS (pmV rfl) pmS0) rfl (len_L (e := eS') texts_1) rfl) rfl rfl rfl rfl) rfl) ?_
    refine kIte (v := fun z => RV.sh ((eO eS') z)) (G := fun z => [S ((eL eS') texts_1), S (eI k_2), S (eS' at_3), S (eI many_6), O ((eL eD) found_11), U, U]) ?_ ?_ ?_
    · refine kE ?_
      refine kB ?_
      refine kP (pmV rfl) ?_
      refine kP (pmB (pmV rfl) (pmC _) rfl rfl rfl rfl) ?_
      refine kPO (fun z h => pmAp2 rfl rfl ((ixL_ok (e := eS')) z h) rfl) ?_; intro at_14
      exact kJ rfl ⟨rfl, rfl, rfl, rfl, rfl, rfl, rfl, trivial⟩
    · refine kE ?_
      refine kP (pmC _) ?_
      exact kJ rfl ⟨rfl, rfl, rfl, rfl, rfl, rfl, rfl, trivial⟩
    intro w_14
    refine kAsg (Δ := [S ((eL eS') texts_1), S (eI k_2), S (eS' at_3), S (eI many_6), O ((eL eD) found_11), S ((eO eS') w_14), U]) rfl ?_
    refine kSeq ?_
    refine kSet ?_
    refine kEIf ?_
    refine kP (pmT (pmB (pmV rfl) (pmC _) rfl rfl rfl rfl) rfl) ?_
    refine kIte (v := fun z => RV.sh ((eO eS') z)) (G := fun z => [S ((eL eS') texts_1), S (eI k_2), S (eS' at_3), S (eI many_6), O ((eL eD) found_11), S ((eO eS') w_14), U]) ?_ ?_ ?_
    · refine kE ?_
      refine kB ?_
      refine kP (pmV rfl) ?_
      refine kP (pmB (pmV rfl) (pmC _) rfl rfl rfl rfl) ?_
      refine kPO (fun z h => pmAp2 rfl rfl ((ixL_ok (e := eS')) z h) rfl) ?_; intro at_15
      exact kJ rfl ⟨rfl, rfl, rfl, rfl, rfl, rfl, rfl, trivial⟩
    · refine kE ?_
      refine kP (pmC _) ?_
      exact kJ rfl ⟨rfl, rfl, rfl, rfl, rfl, rfl, rfl, trivial⟩
    intro w_15
    refine kAsg (Δ := [S ((eL eS') texts_1), S (eI k_2), S (eS' at_3), S (eI many_6), O ((eL eD) found_11), S ((eO eS') w_14), S ((eO eS') w_15)]) rfl ?_
    refine kSeq ?_
    refine kSet ?_
    refine kLst ?_
    refine kS ?_
    refine kF ?_
    refine kP (pmS (pmV rfl) pmS0) ?_
    refine kFzm (Δ := [S ((eL eS') texts_1), S (eI k_2), S (eS' at_3), S (eI many_6), O ((eL eD) found_11), S ((eO eS') w_14), S ((eO eS') w_15)]) rfl ?_
    refine kCall (F_next_word at_3) rfl (lend_nd rfl) rfl (G := fun a => [S ((eL eS') texts_1), S (eI k_2), S (eS' at_3), S (eI many_6), O ((eL eD) found_11), S ((eO eS') w_14), S ((eO eS') w_15)]) (fun _ => rfl) (fun _ => List.cons_ne_nil _ _) ?_; intro next_word_16
    refine kS ?_
    refine kFK ?_
    refine kP (pmS (pmV rfl) pmS0) ?_
    refine kFzm (Δ := [S ((eL eS') texts_1), S (eI k_2), S (eS' at_3), S (eI many_6), O ((eL eD) found_11), S ((eO eS') w_14), S ((eO eS') w_15)]) rfl ?_
    refine kCall (F_next_word at_3) rfl (lend_nd rfl) rfl (G := fun a => [S ((eL eS') texts_1), S (eI k_2), S (eS' at_3), S (eI many_6), O ((eL eD) found_11), S ((eO eS') w_14), S ((eO eS') w_15)]) (fun _ => rfl) (fun _ => List.cons_ne_nil _ _) ?_; intro next_word_17
    refine kS ?_
    refine kF ?_
    refine kP (pmS (pmV rfl) pmS0) ?_
    refine kFzm (Δ := [S ((eL eS') texts_1), S (eI k_2), S (eS' at_3), S (eI many_6), O ((eL eD) found_11), S ((eO eS') w_14), S ((eO eS') w_15)]) rfl ?_
    refine kCall (F_previous_word at_3) rfl (lend_nd rfl) rfl (G := fun a => [S ((eL eS') texts_1), S (eI k_2), S (eS' at_3), S (eI many_6), O ((eL eD) found_11), S ((eO eS') w_14), S ((eO eS') w_15)]) (fun _ => rfl) (fun _ => List.cons_ne_nil _ _) ?_; intro previous_word_18
    refine kS ?_
    refine kFK ?_
    refine kP (pmS (pmV rfl) pmS0) ?_
    refine kFzm (Δ := [S ((eL eS') texts_1), S (eI k_2), S (eS' at_3), S (eI many_6), O ((eL eD) found_11), S ((eO eS') w_14), S ((eO eS') w_15)]) rfl ?_
    refine kCall (F_previous_word at_3) rfl (lend_nd rfl) rfl (G := fun a => [S ((eL eS') texts_1), S (eI k_2), S (eS' at_3), S (eI many_6), O ((eL eD) found_11), S ((eO eS') w_14), S ((eO eS') w_15)]) (fun _ => rfl) (fun _ => List.cons_ne_nil _ _) ?_; intro previous_word_19
    refine kS0 ?_
    refine kFzs (Δ := [S ((eL eS') texts_1), S (eI k_2), S (eS' at_3), S (eI many_6), O ((eL eD) found_11), S ((eO eS') w_14), S ((eO eS') w_15)]) rfl ?_
    refine kAsgL (a := ([next_word_16, next_word_17, previous_word_18, previous_word_19] : (List (Option Str)))) (R := fun a => RV.new ((eL (eO eS')) a)) (G := fun a => [S ((eL eS') texts_1), S (eI k_2), S (eS' at_3), S (eI many_6), O ((eL (eO eS')) a), S ((eO eS') w_14), S ((eO eS') w_15)]) (fun _ => rfl) ?_; intro found_20
    refine kLast ?_
    refine kRet ?_
    refine kB ?_
    refine kN ?_
    refine kP (pmS (pmV rfl) pmS0) ?_
    refine kPO (fun z h => pmApN rfl (reprL_ok z h) rfl) ?_; intro rep_21
    refine kN ?_
    refine kP (pmS (pmLst (pmS (pmV rfl) (pmS (pmV rfl) (pmS (pmV rfl) (pmS (pmV rfl) pmS0)))) rfl) pmS0) ?_
    refine kPO (fun z h => pmApN rfl (reprL_ok z h) rfl) ?_; intro rep_22
    refine kP (pmAp2 rfl rfl rfl rfl) ?_
    exact kFE rfl rfl
def t_word_count (size_1 : Int) : Rs Int :=
  (t_check_size size_1 500).bind fun check_size_2 =>
  ob (mulI 2 size_1) fun mul_3 =>
  (t_completions 0 mul_3).bind fun completions_4 =>
  Rs.ok completions_4
theorem F_word_count (size_1 : Int) : TF false S_word_count [.sh (eI size_1)] (t_word_count size_1) (fun z => (.sh (eI z), [.sh (eI size_1)])) := by
  refine tf_run0 (Δ := [S (eI size_1)]) (Θ := [.sh (eI size_1)]) rfl ⟨rfl, trivial⟩ ?_
  refine kSeq ?_
  refine kEx ?_
  refine kF ?_
  refine kP (pmS (pmV rfl) (pmS (pmC _) pmS0)) ?_
  refine kFzm (Δ := [S (eI size_1)]) rfl ?_
  refine kCall (F_check_size size_1 500) rfl (lend_nd rfl) rfl (G := fun a => [S (eI size_1)]) (fun _ => rfl) (fun _ => List.cons_ne_nil _ _) ?_; intro check_size_2
  refine kLast ?_
  refine kRet ?_
  refine kF ?_
  refine kS ?_
  refine kP (pmC _) ?_
  refine kS ?_
  refine kB ?_
  refine kP (pmC _) ?_
  refine kP (pmV rfl) ?_
  refine kPO (fun z h => pmAp2 rfl rfl (mulI_ok z h) rfl) ?_; intro mul_3
  refine kS0 ?_
  refine kFzm (Δ := [S (eI size_1)]) rfl ?_
  refine kCall (F_completions 0 mul_3) rfl (lend_nd rfl) rfl (G := fun a => [S (eI size_1)]) (fun _ => rfl) (fun _ => List.cons_ne_nil _ _) ?_; intro completions_4
  exact kFE rfl rfl
def t__law_size_right_c1 (all_texts_3 : (List Str)) (x_10 : Int) : Rs Int :=
  ob (modI x_10 (all_texts_3.length : Int)) fun mod_11 =>
  Rs.ok mod_11
def t__law_size_right_c2 (all_texts_3 : (List Str)) (x_11 : Int) : Rs (Option Int) :=
  (t__law_one_right all_texts_3 x_11).bind fun one_right_12 =>
  if (!one_right_12) = true then (Rs.ok (some x_11)) else (Rs.ok none)
def t__law_size_right (many_1 : Int) (places_2 : (List Int)) : Rs Bool :=
  (t__law_all_texts many_1).bind fun all_texts_3 =>
  (t_word_count many_1).bind fun word_count_4 =>
  (t_word_count many_1).bind fun word_count_5 =>
  ob (reprG ((eL eI) [word_count_4, word_count_5])) fun rep_6 =>
  ob (repL [(all_texts_3.length : Int)] 2) fun rep_7 =>
  ob (reprG ((eL eI) rep_7)) fun rep_8 =>
  if (!decide (rep_6 = rep_8)) = true then (Rs.ok false) else ((if (!decide (places_2 = ([] : (List Int)))) = true then ((mpR (t__law_size_right_c1 all_texts_3) places_2).bind fun ys_10 => Rs.ok (ys_10)) else (ob (lr1 (all_texts_3.length : Int)) fun lst_9 => Rs.ok (lst_9)) : Rs ((List Int))).bind fun w_9 => (lcR (t__law_size_right_c2 all_texts_3) w_9).bind fun ys_11 => Rs.ok (decide (ys_11 = ([] : (List Int)))))
theorem F__law_size_right (many_1 : Int) (places_2 : (List Int)) : TF false S__law_size_right [.sh (eI many_1), .sh ((eL eI) places_2)] (t__law_size_right many_1 places_2) (fun z => (.sh (eB' z), [.sh (eI many_1), .sh ((eL eI) places_2)])) := by
  refine tf_run0 (Δ := [S (eI many_1), S ((eL eI) places_2), U, U, U]) (Θ := [.sh (eI many_1), .sh ((eL eI) places_2), .un, .un, .un]) rfl ⟨rfl, rfl, rfl, rfl, rfl, trivial⟩ ?_
  refine kSeq ?_
  refine kSet ?_
  refine kFzE ?_
  refine kF ?_
  refine kP (pmS (pmV rfl) pmS0) ?_
  refine kFzm (Δ := [S (eI many_1), S ((eL eI) places_2), U, U, U]) rfl ?_
  refine kCall (F__law_all_texts many_1) rfl (lend_nd rfl) rfl (G := fun a => [S (eI many_1), S ((eL eI) places_2), U, U, U]) (fun _ => rfl) (fun _ => List.cons_ne_nil _ _) ?_; intro all_texts_3
  refine kFz (Δ := [S (eI many_1), S ((eL eI) places_2), U, U, U]) rfl ?_
  refine kAsg (Δ := [S (eI many_1), S ((eL eI) places_2), S ((eL eS') all_texts_3), U, U]) rfl ?_
  refine kSeq ?_
  refine kIf ?_
  refine kT ?_
  refine kB ?_
  refine kN ?_
  refine kS ?_
  refine kLst ?_
  refine kS ?_
  refine kF ?_
  refine kP (pmS (pmV rfl) pmS0) ?_
  refine kFzm (Δ := [S (eI many_1), S ((eL eI) places_2), S ((eL eS') all_texts_3), U, U]) rfl ?_
  refine kCall (F_word_count many_1) rfl (lend_nd rfl) rfl (G := fun a => [S (eI many_1), S ((eL eI) places_2), S ((eL eS') all_texts_3), U, U]) (fun _ => rfl) (fun _ => List.cons_ne_nil _ _) ?_; intro word_count_4
  refine kS ?_
  refine kFK ?_
  refine kP (pmS (pmV rfl) pmS0) ?_
  refine kFzm (Δ := [S (eI many_1), S ((eL eI) places_2), S ((eL eS') all_texts_3), U, U]) rfl ?_
  refine kCall (F_word_count many_1) rfl (lend_nd rfl) rfl (G := fun a => [S (eI many_1), S ((eL eI) places_2), S ((eL eS') all_texts_3), U, U]) (fun _ => rfl) (fun _ => List.cons_ne_nil _ _) ?_; intro word_count_5
  refine kS0 ?_
  refine kFzs (Δ := [S (eI many_1), S ((eL eI) places_2), S ((eL eS') all_texts_3), U, U]) rfl ?_
  refine kS0 ?_
  refine kPO (fun z h => pmApN rfl (reprL_ok z h) rfl) ?_; intro rep_6
  refine kN ?_
  refine kS ?_
  refine kRep ?_
  refine kP (pmLst (pmS (pmN (pmS (pmV rfl) pmS0) rfl (len_L (e := eS') all_texts_3) rfl) pmS0) rfl) ?_
  refine kP (pmC _) ?_
  refine kNew ?_
  refine kPO (fun z h => pmAp2 rfl rfl ((repL_ok (e := eI)) z h) rfl) ?_; intro rep_7
  refine kS0 ?_
  refine kPO (fun z h => pmApN rfl (reprL_ok z h) rfl) ?_; intro rep_8
  refine kP (pmAp2 rfl rfl rfl rfl) ?_
  refine kP (pmTR rfl) ?_
  refine kIteD ?_ ?_
  · refine kRet ?_
    refine kP (pmC _) ?_
    exact kFE rfl rfl
  · refine kR ?_
    refine kSeq ?_
    refine kSet ?_
    refine kEIf ?_
    refine kP (pmT (pmB (pmV rfl) (pmLst pmS0 rfl) rfl rfl (ne_en (En.list En.int) (by decide) places_2 ([] : (List Int))) rfl) rfl) ?_
    refine kIte (v := fun z => RV.new ((eL eI) z)) (G := fun z => [S (eI many_1), S ((eL eI) places_2), S ((eL eS') all_texts_3), U, U]) ?_ ?_ ?_
    · refine kE ?_
      refine kLc ?_
      refine kIDx ?_
      refine kP (pmV rfl) ?_
      refine kFz (Δ := [S (eI many_1), S ((eL eI) places_2), S ((eL eS') all_texts_3), U, U]) rfl ?_
      refine kIt (ds := List.map eI places_2) (items_L _) ?_
      refine tMpR (Γ := [S (eI many_1), S ((eL eI) places_2), S ((eL eS') all_texts_3), U, U]) (own := [4]) (en := eI) (em := eI) (g := t__law_size_right_c1 all_texts_3) rfl rfl ?_ rfl ?_
      · intro x_10
        refine kPat (Δ := [S (eI many_1), S ((eL eI) places_2), S ((eL eS') all_texts_3), U, S (eI x_10)]) rfl ?_
        refine kYes ?_
        refine kB ?_
        refine kP (pmV rfl) ?_
        refine kP (pmN (pmS (pmV rfl) pmS0) rfl (len_L (e := eS') all_texts_3) rfl) ?_
        refine kPO (fun z h => pmAp2 rfl rfl (modI_ok z h) rfl) ?_; intro mod_11
        refine kFz (Δ := [S (eI many_1), S ((eL eI) places_2), S ((eL eS') all_texts_3), U, S (eI x_10)]) rfl ?_
        refine kWipe rfl ?_
        exact kJ rfl ⟨rfl, rfl, rfl, rfl, rfl, trivial⟩
      intro ys_10
      exact kJ rfl ⟨rfl, rfl, rfl, rfl, rfl, trivial⟩
    · refine kE ?_
      refine kN ?_
      refine kP (pmS (pmN (pmS (pmV rfl) pmS0) rfl (len_L (e := eS') all_texts_3) rfl) pmS0) ?_
      refine kPO (fun z h => pmApN rfl (lr1_ok z h) rfl) ?_; intro lst_9
      exact kJ rfl ⟨rfl, rfl, rfl, rfl, rfl, trivial⟩
    intro w_9
    refine kAsg (Δ := [S (eI many_1), S ((eL eI) places_2), S ((eL eS') all_texts_3), O ((eL eI) w_9), U]) rfl ?_
    refine kLast ?_
    refine kRet ?_
    refine kB ?_
    refine kLc ?_
    refine kIDx ?_
    refine kP (pmV rfl) ?_
    refine kFz (Δ := [S (eI many_1), S ((eL eI) places_2), S ((eL eS') all_texts_3), S ((eL eI) w_9), U]) rfl ?_
    refine kIt (ds := List.map eI w_9) (items_L _) ?_
    refine tLcR (Γ := [S (eI many_1), S ((eL eI) places_2), S ((eL eS') all_texts_3), S ((eL eI) w_9), U]) (own := [4]) (en := eI) (em := eI) (g := t__law_size_right_c2 all_texts_3) rfl rfl ?_ rfl ?_
    · intro x_11
      refine kPat (Δ := [S (eI many_1), S ((eL eI) places_2), S ((eL eS') all_texts_3), S ((eL eI) w_9), S (eI x_11)]) rfl ?_
      refine kTNot ?_
      refine kT ?_
      refine kF ?_
      refine kP (pmS (pmV rfl) (pmS (pmV rfl) pmS0)) ?_
      refine kFzm (Δ := [S (eI many_1), S ((eL eI) places_2), S ((eL eS') all_texts_3), S ((eL eI) w_9), S (eI x_11)]) rfl ?_
      refine kCall (F__law_one_right all_texts_3 x_11) rfl (lend_nd rfl) rfl (G := fun a => [S (eI many_1), S ((eL eI) places_2), S ((eL eS') all_texts_3), S ((eL eI) w_9), S (eI x_11)]) (fun _ => rfl) (fun _ => List.cons_ne_nil _ _) ?_; intro one_right_12
      refine kP (pmTR rfl) ?_
      refine kIf0 ?_ ?_
      · refine kP (pmV rfl) ?_
        refine kFz (Δ := [S (eI many_1), S ((eL eI) places_2), S ((eL eS') all_texts_3), S ((eL eI) w_9), S (eI x_11)]) rfl ?_
        refine kWipe rfl ?_
        exact kJ rfl ⟨rfl, rfl, rfl, rfl, rfl, trivial⟩
      · refine kWipe rfl ?_
        exact kJ rfl ⟨rfl, rfl, rfl, rfl, rfl, trivial⟩
    intro ys_11
    refine kP (pmLst pmS0 rfl) ?_
    refine kP (pmAp2 rfl rfl (eq_en (En.list En.int) (by decide) ys_11 ([] : (List Int))) rfl) ?_
    exact kFE rfl rfl
def t_law_1  (x_6 : Int) (s_7 : Unit) : Rs (Bo Unit Bool) :=
  (t__law_size_right x_6 ([] : (List Int))).bind fun size_right_8 =>
  if (!size_right_8) = true then (Rs.ok (.rt false)) else (Rs.ok (.nx ()))
def t_law_c1  (x_17 : Int) (s_18 : (Rc0)) : Rs (Int × (Rc0)) :=
  (t__law_next s_18 1430).bind fun next_19 =>
  Rs.ok (next_19.1, next_19.2)
def t_law_2  (x_11 : Int) (s_12 : (Rc0)) : Rs (Bo (Rc0) Bool) :=
  (t__law_next s_12 2).bind fun next_13 =>
  (Rs.ok (7 + next_13.1) : Rs Int).bind fun many_14 =>
  ob (range1 12) fun ks_15 =>
  (mpS (t_law_c1 ) ks_15 (next_13.2)).bind fun ys_17 =>
  ob (addL [0, (-1)] ys_17.1) fun add_18 =>
  (t__law_size_right many_14 add_18).bind fun size_right_19 =>
  if (!size_right_19) = true then (Rs.ok (.rt false)) else (Rs.ok (.nx (ys_17.2)))
def t_law (script_1 : (List Int)) : Rs Bool :=
  (t__law_begun script_1).bind fun begun_2 =>
  (t__law_next begun_2 7).bind fun next_3 =>
  (t__law_next next_3.2 4).bind fun next_4 =>
  ob (ssetI [next_3.1, (2 + next_4.1)]) fun sset_5 =>
  (forR (t_law_1 ) sset_5 ()).bind (aft (fun st_9 =>
  ob (range1 (1 + (minI2 3 (script_1.length : Int)))) fun ks_10 => (forR (t_law_2 ) ks_10 next_4.2).bind (aft (fun m_20 => Rs.ok true) id)) id)
theorem F_law (script_1 : (List Int)) : TF false S_law [.sh ((eL eI) script_1)] (t_law script_1) (fun z => (.sh (eB' z), [.sh ((eL eI) script_1)])) := by
  refine tf_run0 (Δ := [S ((eL eI) script_1), U, U, U, U]) (Θ := [.sh ((eL eI) script_1), .un, .un, .un, .un]) rfl ⟨rfl, rfl, rfl, rfl, rfl, trivial⟩ ?_
  refine kSeq ?_
  refine kSet ?_
  refine kF ?_
  refine kP (pmS (pmV rfl) pmS0) ?_
  refine kFzm (Δ := [S ((eL eI) script_1), U, U, U, U]) rfl ?_
  refine kCall (F__law_begun script_1) rfl (lend_nd rfl) rfl (G := fun a => [S ((eL eI) script_1), U, U, U, U]) (fun _ => rfl) (fun _ => List.cons_ne_nil _ _) ?_; intro begun_2
  refine kAsg (Δ := [S ((eL eI) script_1), O (eRc0 begun_2), U, U, U]) rfl ?_
  refine kSeq ?_
  refine kForS ?_
  refine kIDx ?_
  refine kN ?_
  refine kS ?_
  refine kLst ?_
  refine kS ?_
  refine kF ?_
  refine kP (pmS (pmV rfl) (pmS (pmC _) pmS0)) ?_
  refine kFzm (Δ := [S ((eL eI) script_1), O (eRc0 begun_2), U, U, U]) rfl ?_
  refine kCall (F__law_next begun_2 7) rfl (lend_nd rfl) rfl (G := fun a => [S ((eL eI) script_1), O (eRc0 a.2), U, U, U]) (fun _ => rfl) (fun _ => List.cons_ne_nil _ _) ?_; intro next_3
  refine kS ?_
  refine kB ?_
  refine kP (pmC _) ?_
  refine kF ?_
  refine kP (pmS (pmV rfl) (pmS (pmC _) pmS0)) ?_
  refine kFzm (Δ := [S ((eL eI) script_1), O (eRc0 next_3.2), U, U, U]) rfl ?_
  refine kCall (F__law_next next_3.2 4) rfl (lend_nd rfl) rfl (G := fun a => [S ((eL eI) script_1), O (eRc0 a.2), U, U, U]) (fun _ => rfl) (fun _ => List.cons_ne_nil _ _) ?_; intro next_4
  refine kP (pmAp2 rfl rfl rfl rfl) ?_
  refine kS0 ?_
  refine kFzs (Δ := [S ((eL eI) script_1), O (eRc0 next_4.2), U, U, U]) rfl ?_
  refine kS0 ?_
  refine kPO (fun z h => pmApN rfl (sset_ok z h) rfl) ?_; intro sset_5
  refine kFz (Δ := [S ((eL eI) script_1), O (eRc0 next_4.2), U, U, U]) rfl ?_
  refine kIt (ds := List.map eI sset_5) (items_L _) ?_
  refine kForR (en := eI) (f := t_law_1 ) (s := ()) (xs := sset_5) (G := fun s : Unit => [S ((eL eI) script_1), O (eRc0 next_4.2), .pl, U, U]) ⟨rfl, rfl, rfl, rfl, rfl, trivial⟩ ?_ ?_
  · intro x_6 s_7
    refine kPat (Δ := [S ((eL eI) script_1), O (eRc0 next_4.2), S (eI x_6), U, U]) rfl ?_
    refine kLast ?_
    refine kIf ?_
    refine kTNot ?_
    refine kT ?_
    refine kF ?_
    refine kP (pmS (pmV rfl) (pmS (pmLst pmS0 rfl) pmS0)) ?_
    refine kFzm (Δ := [S ((eL eI) script_1), O (eRc0 next_4.2), S (eI x_6), U, U]) rfl ?_
    refine kCall (F__law_size_right x_6 ([] : (List Int))) rfl (lend_nd rfl) rfl (G := fun a => [S ((eL eI) script_1), O (eRc0 next_4.2), S (eI x_6), U, U]) (fun _ => rfl) (fun _ => List.cons_ne_nil _ _) ?_; intro size_right_8
    refine kP (pmTR rfl) ?_
    refine kIteD ?_ ?_
    · refine kRet ?_
      refine kP (pmC _) ?_
      exact kRtB (kFE rfl rfl)
    · refine kR ?_
      exact kNxB ⟨rfl, rfl, rfl, rfl, rfl, trivial⟩
  intro st_9
  refine kSeq ?_
  refine kForS ?_
  refine kIN ?_
  refine kP (pmS (pmB (pmC _) (pmN (pmS (pmC _) (pmS (pmN (pmS (pmV rfl) pmS0) rfl (len_L (e := eI) script_1) rfl) pmS0)) rfl rfl rfl) rfl rfl rfl rfl) pmS0) ?_
  refine kINR rfl range1_ok ?_; intro ks_10
  refine kForR (en := eI) (f := t_law_2 ) (s := next_4.2) (xs := ks_10) (G := fun s : (Rc0) => [S ((eL eI) script_1), O (eRc0 s), .pl, .pl, U]) ⟨rfl, rfl, trivial, rfl, rfl, trivial⟩ ?_ ?_
  · intro x_11 s_12
    refine kPat (Δ := [S ((eL eI) script_1), O (eRc0 s_12), .pl, S (eI x_11), U]) rfl ?_
    refine kSeq ?_
    refine kSet ?_
    refine kB ?_
    refine kP (pmC _) ?_
    refine kF ?_
    refine kP (pmS (pmV rfl) (pmS (pmC _) pmS0)) ?_
    refine kFzm (Δ := [S ((eL eI) script_1), O (eRc0 s_12), .pl, S (eI x_11), U]) rfl ?_
    refine kCall (F__law_next s_12 2) rfl (lend_nd rfl) rfl (G := fun a => [S ((eL eI) script_1), O (eRc0 a.2), .pl, S (eI x_11), U]) (fun _ => rfl) (fun _ => List.cons_ne_nil _ _) ?_; intro next_13
    refine kP (pmAp2 rfl rfl rfl rfl) ?_
    refine kAsgL (a := ((7 + next_13.1) : Int)) (R := fun a => RV.sh (eI a)) (G := fun a => [S ((eL eI) script_1), O (eRc0 next_13.2), S (eI a), S (eI x_11), U]) (fun _ => rfl) ?_; intro many_14
    refine kLast ?_
    refine kIf ?_
    refine kTNot ?_
    refine kT ?_
    refine kF ?_
    refine kS ?_
    refine kP (pmV rfl) ?_
    refine kS ?_
    refine kB ?_
    refine kP (pmLst (pmS (pmC _) (pmS (pmU (pmC _) rfl rfl rfl) pmS0)) rfl) ?_
    refine kLc ?_
    refine kIN ?_
    refine kP (pmS (pmC _) pmS0) ?_
    refine kINR rfl range1_ok ?_; intro ks_15
    refine tMpS (Γ := [S ((eL eI) script_1), O (eRc0 next_13.2), S (eI many_14), S (eI x_11), U]) (own := [4]) (en := eI) (em := eI) (g := t_law_c1 ) (G := fun s => [S ((eL eI) script_1), O (eRc0 s), S (eI many_14), S (eI x_11), U]) (s := (next_13.2)) rfl rfl ⟨rfl, rfl, rfl, rfl, rfl, trivial⟩ ?_ ?_
    · intro x_17 s_18
      refine kPat (Δ := [S ((eL eI) script_1), O (eRc0 s_18), S (eI many_14), S (eI x_11), S (eI x_17)]) rfl ?_
      refine kYes ?_
      refine kF ?_
      refine kP (pmS (pmV rfl) (pmS (pmC _) pmS0)) ?_
      refine kFzm (Δ := [S ((eL eI) script_1), O (eRc0 s_18), S (eI many_14), S (eI x_11), S (eI x_17)]) rfl ?_
      refine kCall (F__law_next s_18 1430) rfl (lend_nd rfl) rfl (G := fun a => [S ((eL eI) script_1), O (eRc0 a.2), S (eI many_14), S (eI x_11), S (eI x_17)]) (fun _ => rfl) (fun _ => List.cons_ne_nil _ _) ?_; intro next_19
      refine kFz (Δ := [S ((eL eI) script_1), O (eRc0 next_19.2), S (eI many_14), S (eI x_11), S (eI x_17)]) rfl ?_
      refine kWipe rfl ?_
      exact kJ rfl ⟨rfl, rfl, rfl, rfl, rfl, trivial⟩
    intro ys_17
    refine kSched (Δ := [S ((eL eI) script_1), O (eRc0 ys_17.2), S (eI many_14), S (eI x_11), U]) rfl ?_
    refine kPO (fun z h => pmAp2 rfl rfl ((addL_ok (e := eI)) z h) rfl) ?_; intro add_18
    refine kS0 ?_
    refine kFzm (Δ := [S ((eL eI) script_1), O (eRc0 ys_17.2), S (eI many_14), S (eI x_11), U]) rfl ?_
    refine kCall (F__law_size_right many_14 add_18) rfl (lend_nd rfl) rfl (G := fun a => [S ((eL eI) script_1), O (eRc0 ys_17.2), S (eI many_14), S (eI x_11), U]) (fun _ => rfl) (fun _ => List.cons_ne_nil _ _) ?_; intro size_right_19
    refine kP (pmTR rfl) ?_
    refine kIteD ?_ ?_
    · refine kRet ?_
      refine kP (pmC _) ?_
      exact kRtB (kFE rfl rfl)
    · refine kR ?_
      exact kNxB ⟨rfl, rfl, rfl, rfl, rfl, trivial⟩
  intro m_20
  refine kLast ?_
  refine kRet ?_
  refine kP (pmC _) ?_
  exact kFE rfl rfl
end k27
namespace k27
open PySem Fd Ty
/-! ### the supply of draws (second kind) -/
structure Su (m : Rc0) (n : Nat) : Prop where
  at0 : 0 ≤ m.f_at
  atn : m.f_at ≤ n
theorem Su.mono {m : Rc0} {n k : Nat} (h : Su m n) (hk : n ≤ k) : Su m k := ⟨h.at0, Int.le_trans h.atn (by omega)⟩
theorem begun_ok (ns : List Int) : ∃ m, t__law_begun ns = .ok m ∧ Su m 0 := ⟨_, rfl, by constructor <;> exact Int.le_refl 0⟩
theorem next_ok {m : Rc0} {n : Nat} {total : Int} (h : Su m n) (hn : n ≤ 1000000000) (ht : 0 < total) (hb : Ma.Bd total 5000) : ∃ r m', t__law_next m total = .ok (r, m') ∧ 0 ≤ r ∧ r < total ∧ Su m' (n + 1) := by
  have md : ∀ i, modI i total = some (i % total) := fun i => modI_pos ht
  have fd : ∀ i, fdivI i total = some (i / total) := fun i => fdivI_bd ht hb
  have r0 : ∀ i : Int, 0 ≤ i % total := fun i => Int.emod_nonneg _ (by omega)
  have r1 : ∀ i : Int, i % total < total := fun i => Int.emod_lt_of_pos _ ht
  have h0 := h.at0
  have h1 := h.atn
  unfold t__law_next
  by_cases hl : 0 < m.f_left
  · refine ⟨m.f_left % total, { m with f_left := m.f_left / total }, by simp [hl, md, fd], r0 _, r1 _, ⟨h0, by show m.f_at ≤ _; omega⟩⟩
  · obtain ⟨c, hc⟩ : ∃ c, (if (!decide (m.f_script = ([] : List Int))) = true then (ob (modI m.f_at (m.f_script.length : Int)) fun mod_4 => ob (ixL m.f_script mod_4) fun at_5 => Rs.ok (at_5)) else (Rs.ok (0)) : Rs Int) = .ok c := by
      by_cases e : m.f_script = []
      · exact ⟨0, by simp [e]⟩
      · have hlen : 0 < m.f_script.length := List.length_pos_iff.mpr e
        have q0 : 0 ≤ m.f_at % (m.f_script.length : Int) := Int.emod_nonneg _ (by omega)
        have q1 : m.f_at % (m.f_script.length : Int) < (m.f_script.length : Int) := Int.emod_lt_of_pos _ (by omega)
        refine ⟨m.f_script[(m.f_at % (m.f_script.length : Int)).toNat]'(by omega), ?_⟩
        have i1 := ixL_int q0 (List.getElem?_eq_getElem (l := m.f_script) (i := (m.f_at % (m.f_script.length : Int)).toNat) (by omega))
        simp [e, modI_pos (show (0 : Int) < (m.f_script.length : Int) by omega), i1]
    have a1 : 0 ≤ c % 1000003 := Int.emod_nonneg _ (by decide)
    have a2 : c % 1000003 < 1000003 := Int.emod_lt_of_pos _ (by decide)
    have su : Su { m with f_at := m.f_at + 1 } (n + 1) := ⟨by show 0 ≤ m.f_at + 1; omega, by show m.f_at + 1 ≤ _; omega⟩
    have e1 := mulI_sm (i := c % 1000003) (j := 48271) (by omega) (by omega) (by omega) (by omega)
    have bk : Ma.Bd m.f_at 100 := .few h0 (by omega)
    have e2 := mulI_bd (show Ma.Bd 7919 13 by decide) bk
    have e3 := mulI_bd ((show Ma.Bd 7919 13 by decide).mul bk) bk
    have e4 := mulI_bd (show Ma.Bd 104729 17 by decide) bk
    have mx : ∀ z : Int, mulI (z % 2147483647) (z % 2147483647) = some (z % 2147483647 * (z % 2147483647)) := fun z => by
      have u0 : 0 ≤ z % 2147483647 := Int.emod_nonneg _ (by decide)
      have u1 : z % 2147483647 < 2147483647 := Int.emod_lt_of_pos _ (by decide)
      exact mulI_sm (by omega) (by omega) (by omega) (by omega)
    have my : ∀ z : Int, mulI (z % 2147483629) 69621 = some (z % 2147483629 * 69621) := fun z => by
      have u0 : 0 ≤ z % 2147483629 := Int.emod_nonneg _ (by decide)
      have u1 : z % 2147483629 < 2147483629 := Int.emod_lt_of_pos _ (by decide)
      exact mulI_sm (by omega) (by omega) (by omega) (by omega)
    by_cases b1 : (1000000000000000000 : Int) ≤ c <;> by_cases b2 : m.f_at < (m.f_script.length : Int)
    · refine ⟨_, _, by simp only [hl, hc, decide_false, bind_ok, pow18, ob_some, b1, b2, decide_true, if_true, md, fd, Bool.false_eq_true, if_false]; rfl, r0 _, r1 _, ?_⟩
      exact ⟨su.at0, su.atn⟩
    · refine ⟨_, _, by simp only [hl, hc, decide_false, bind_ok, pow18, ob_some, b1, b2, decide_true, if_true, md, fd, Bool.false_eq_true, if_false, e1, e2, e3, e4, mx, my]; rfl, r0 _, r1 _, su⟩
    · refine ⟨_, _, by simp only [hl, hc, decide_false, bind_ok, pow18, ob_some, b1, b2, decide_true, if_true, md, fd, Bool.false_eq_true, if_false, e1, e2, e3, e4, mx, my]; rfl, r0 _, r1 _, su⟩
    · refine ⟨_, _, by simp only [hl, hc, decide_false, bind_ok, pow18, ob_some, b1, b2, decide_true, if_true, md, fd, Bool.false_eq_true, if_false, e1, e2, e3, e4, mx, my]; rfl, r0 _, r1 _, su⟩
/-- a draw below a small number -/
theorem next_nat {m : Rc0} {n : Nat} {total : Int} (h : Su m n) (hn : n ≤ 1000000000) (ht : 0 < total) (hb : total < 1099511627776) : ∃ (r : Nat) (m' : Rc0), t__law_next m total = .ok ((r : Int), m') ∧ (r : Int) < total ∧ Su m' (n + 1) := by
  obtain ⟨r, m', e, h1, h2, h3⟩ := next_ok h hn ht ((Ma.Bd.few (by omega) hb).mono (by decide))
  obtain ⟨k, rfl⟩ := Int.eq_ofNat_of_zero_le h1
  exact ⟨k, m', e, h2, h3⟩

theorem isInt_ok (v a b : Int) : t_is_integer v a b = .ok (decide (a ≤ v) && decide (v ≤ b)) := rfl

/-! ### the program's counts -/
theorem checkSize_ok {v b : Int} (h0 : 0 ≤ v) (h1 : v ≤ b) : t_check_size v b = .ok () := by
  unfold t_check_size
  rw [isInt_ok]
  simp [h0, h1]
theorem binomial_ok {n k : Nat} (hn : n ≤ 1002) (hk : k ≤ n) : t_binomial n k = .ok (Ma.C n k : Int) := by
  unfold t_binomial
  have c1 : (!(decide ((0 : Int) ≤ (k : Int)) && decide ((k : Int) ≤ (n : Int)))) = false := by simp; omega
  obtain ⟨j, hj, hj2, hs⟩ : ∃ j : Nat, minI2 (k : Int) ((n : Int) - k) = j ∧ j ≤ n ∧ Ma.C n j = Ma.C n k := by
    unfold minI2
    by_cases c : (n : Int) - k < k
    · exact ⟨n - k, by rw [if_pos c]; omega, by omega, Ma.C_sym n _ _ (by omega)⟩
    · exact ⟨k, if_neg c, hk, rfl⟩
  obtain ⟨s, e, i⟩ := foldR_inv (f := t_binomial_1 (n : Int)) (fun i s => s = (Ma.C n i : Int)) (xs := ups j) (s := 1) (by rw [Ma.C_zero]; rfl) fun i x s hx hi => by
    obtain ⟨h1, rfl⟩ := ups_get hx
    subst hi
    refine ⟨_, ?_, rfl⟩
    unfold t_binomial_1
    rw [mulI_bd (Ma.C_bd (n := n) (k := i) (by omega)) (Ma.Bd.few (i := (n : Int) - i) (by omega) (by omega)), ob_some, fdivI_sm (by omega) (by omega), ob_some, Ma.C_div (by omega)]
  rw [c1, if_neg (by decide), hj, range1_nat (by omega), ob_some, e, bind_ok, i, ups_len, hs]
theorem binomial_neg {n : Nat} {k : Int} (hk : k < 0) : t_binomial n k = .ok 0 := by
  unfold t_binomial
  rw [if_pos (by simp; omega)]
theorem completions_ok {l n : Nat} (hn : n ≤ 1002) : t_completions l n = .ok (Ma.F l n) := by
  unfold t_completions
  by_cases c : n < l ∨ (n - l) % 2 = 1
  · have e : ((decide ((n : Int) < (l : Int))) || (decide ((((n : Int) - l) % 2) = 1))) = true := by
      simp only [Bool.or_eq_true, decide_eq_true_eq]
      omega
    rw [e, if_pos rfl, show Ma.F l n = 0 from if_pos c]
  · have e : ((decide ((n : Int) < (l : Int))) || (decide ((((n : Int) - l) % 2) = 1))) = false := by
      simp only [Bool.or_eq_false_iff, decide_eq_false_iff_not]
      omega
    obtain ⟨r, hr⟩ : ∃ r, n = l + 2 * r := ⟨(n - l) / 2, by omega⟩
    have d : ((n : Int) - l) / 2 = (r : Nat) := by omega
    rw [e, if_neg (by decide), bind_ok, d, binomial_ok hn (by omega), bind_ok, Ma.F_even hr]
    unfold Ma.B
    cases r with
    | zero => rw [binomial_neg (by omega)]; rfl
    | succ r => rw [show ((r + 1 : Nat) : Int) - 1 = (r : Nat) by omega, binomial_ok hn (by omega)]; rfl
theorem wordCount_ok {m : Nat} (hm : m ≤ 500) : t_word_count m = .ok (Ma.F 0 (2 * m)) := by
  unfold t_word_count
  have c := completions_ok (l := 0) (n := 2 * m) (by omega)
  have c : t_completions 0 (2 * (m : Int)) = .ok (Ma.F 0 (2 * m)) := by
    rw [show (2 * (m : Int)) = ((2 * m : Nat) : Int) by omega]
    exact c
  rw [checkSize_ok (by omega) (by omega), bind_ok, mulI_sm (by decide) (by decide) (by omega) (by omega), ob_some, c]
  rfl

/-! ### numbers of words -/
theorem s1_in (b : Bool) : (!(tab_EXCHANGED.lookup (Ma.s1 b)).isSome) = false := by cases b <;> decide
theorem lvl (h : Nat) (b : Bool) (c : b = false → 0 < h) : (h : Int) + (if (decide (Ma.s1 b = ("U" : Str))) = true then 1 else (-1)) = (hup h b : Nat) := by
  rw [s1U]
  cases b with
  | true => show (h : Int) + 1 = ((h + 1 : Nat) : Int); omega
  | false => have := c rfl; show (h : Int) + (-1) = ((h - 1 : Nat) : Int); omega
theorem Cm_cons {h : Nat} {b : Bool} {bs : List Bool} (c : Cm h (b :: bs)) : (b = false → 0 < h) ∧ Cm (hup h b) bs := by
  cases b with
  | true => exact ⟨(fun e => by cases e), c⟩
  | false => exact ⟨fun _ => c.1, c.2⟩
theorem faults_loop : ∀ (bs : List Bool) (h k : Nat), Cm h bs → forR t_word_faults_1 (enumT k (bs.map Ma.s1)) (h : Int) = .ok (.nx 0)
  | [], h, k, c => by
    have c : h = 0 := c
    subst c
    rfl
  | b :: bs, h, k, c => by
    obtain ⟨h0, c⟩ := Cm_cons c
    have e : t_word_faults_1 ((k : Int), Ma.s1 b) (h : Int) = .ok (.nx ((hup h b : Nat) : Int)) := by
      unfold t_word_faults_1
      dsimp only
      rw [s1_in, s1D, lvl h b h0, bind_ok, if_neg]
      cases b with
      | true => simp
      | false => have := h0 rfl; simp; omega
    rw [List.map_cons]
    show (t_word_faults_1 ((k : Int), Ma.s1 b) (h : Int)).bind _ = _
    rw [e, bind_ok]
    exact faults_loop bs (hup h b) (k + 1) c
theorem faults_ok {bs : List Bool} (c : Cm 0 bs) (hl : bs.length ≤ 60) : t_word_faults (Ma.txt bs) = .ok [] := by
  unfold t_word_faults
  rw [if_neg (by decide), lenS_txt (by omega), ob_some, mulI_sm (by decide) (by decide) (by decide) (by decide), ob_some, bind_ok, if_neg (by simp; omega), chars_txt]
  have e := faults_loop bs 0 0 c
  have e : forR t_word_faults_1 (enumT 0 (bs.map Ma.s1)) 0 = .ok (.nx 0) := e
  rw [e, bind_ok, aft_nx, if_neg (by decide)]
  rfl
theorem validate_ok {bs : List Bool} (c : Cm 0 bs) (hl : bs.length ≤ 60) : t_validate_word (Ma.txt bs) = .ok () := by
  unfold t_validate_word
  rw [faults_ok c hl]
  rfl
theorem number_loop {w : List Bool} (hw : w.length ≤ 60) : ∀ (bs : List Bool) (h k : Nat) (acc : Int), k + bs.length = w.length → Cm h bs → foldR (t_number_of_1 (Ma.txt w)) (enumT k (bs.map Ma.s1)) (acc, (h : Int)) = .ok (acc + num h bs, 0)
  | [], h, k, acc, l, c => by
    have c : h = 0 := c
    subst c
    show Rs.ok _ = _
    rw [show num 0 [] = 0 from rfl, Int.add_zero]
    rfl
  | true :: bs, h, k, acc, l, c => by
    rw [List.length_cons] at l
    have e : t_number_of_1 (Ma.txt w) ((k : Int), Ma.s1 true) (acc, (h : Int)) = .ok (acc + (if h = 0 then 0 else Ma.F (h - 1) bs.length), ((h + 1 : Nat) : Int)) := by
      unfold t_number_of_1
      dsimp only
      rw [s1U, if_pos rfl]
      by_cases z : h = 0
      · subst z
        rfl
      · have cc := completions_ok (l := h - 1) (n := bs.length) (by omega)
        rw [show ((h - 1 : Nat) : Int) = (h : Int) - 1 by omega] at cc
        rw [if_pos (by simp; omega), lenS_txt (by omega), ob_some, show ((w.length : Int) - 1) - k = (bs.length : Nat) by omega, cc, bind_ok, bind_ok, if_neg z]
        rfl
    rw [List.map_cons]
    show (t_number_of_1 (Ma.txt w) ((k : Int), Ma.s1 true) (acc, (h : Int))).bind _ = _
    rw [e, bind_ok, number_loop hw bs (h + 1) (k + 1) _ (by omega) c]
    show Rs.ok (acc + _ + _, _) = Rs.ok (acc + (_ + _), _)
    rw [Int.add_assoc]
  | false :: bs, h, k, acc, l, c => by
    rw [List.length_cons] at l
    have h0 := c.1
    have e : t_number_of_1 (Ma.txt w) ((k : Int), Ma.s1 false) (acc, (h : Int)) = .ok (acc, ((h - 1 : Nat) : Int)) := by
      unfold t_number_of_1
      dsimp only
      rw [s1U, if_neg (by decide), bind_ok, bind_ok]
      dsimp only
      rw [show (h : Int) - 1 = ((h - 1 : Nat) : Int) by omega]
    rw [List.map_cons]
    show (t_number_of_1 (Ma.txt w) ((k : Int), Ma.s1 false) (acc, (h : Int))).bind _ = _
    rw [e, bind_ok, number_loop hw bs (h - 1) (k + 1) _ (by omega) c.2]
    rfl
theorem numberOf_ok {bs : List Bool} (c : Cm 0 bs) (hl : bs.length ≤ 60) : t_number_of (Ma.txt bs) = .ok (num 0 bs) := by
  unfold t_number_of
  have e := number_loop hl bs 0 0 0 (by omega) c
  rw [Int.zero_add] at e
  rw [validate_ok c hl, bind_ok, chars_txt]
  have e : foldR (t_number_of_1 (Ma.txt bs)) (enumT 0 (bs.map Ma.s1)) (0, 0) = .ok (num 0 bs, 0) := e
  rw [e]
  rfl

/-! ### the next one and the one before -/
def pl (c : Bool) : Nat → Nat → List Bool → List (Int × Int × Int)
  | _, _, [] => []
  | k, h, b :: bs => if b = c then ((k : Int), (h : Int), (bs.length : Int)) :: pl c (k + 1) (hup h b) bs else pl c (k + 1) (hup h b) bs
theorem pl_len (c : Bool) : ∀ (bs : List Bool) (k h : Nat), (pl c k h bs).length ≤ bs.length
  | [], _, _ => Nat.le_refl _
  | b :: bs, k, h => by
    have := pl_len c bs (k + 1) (hup h b)
    unfold pl
    split <;> simp only [List.length_cons] <;> omega
theorem s1_eq (b c : Bool) : decide (Ma.s1 b = Ma.s1 c) = decide (b = c) := by cases b <;> cases c <;> decide
theorem places_loop (t : Bool) {w : List Bool} (hw : w.length ≤ 60) : ∀ (bs : List Bool) (h k : Nat) (acc : List (Int × Int × Int)), k + bs.length = w.length → acc.length ≤ k → Cm h bs → foldR (t_changed_places_1 (Ma.txt w) (Ma.s1 t)) (enumT k (bs.map Ma.s1)) (acc, (h : Int)) = .ok (acc ++ pl t k h bs, 0)
  | [], h, k, acc, l, la, c => by
    have c : h = 0 := c
    subst c
    show Rs.ok _ = _
    unfold pl
    rw [List.append_nil]
    rfl
  | b :: bs, h, k, acc, l, la, c => by
    rw [List.length_cons] at l
    obtain ⟨h0, c⟩ := Cm_cons c
    have e : t_changed_places_1 (Ma.txt w) (Ma.s1 t) ((k : Int), Ma.s1 b) (acc, (h : Int)) = .ok (if b = t then acc ++ [((k : Int), (h : Int), (bs.length : Int))] else acc, ((hup h b : Nat) : Int)) := by
      unfold t_changed_places_1
      dsimp only
      rw [s1_eq, lvl h b h0]
      by_cases q : b = t
      · rw [if_pos (by simp [q]), if_pos q, lenS_txt (by omega), ob_some, appL_ok' (by omega), ob_some, show ((w.length : Int) - 1) - k = (bs.length : Nat) by omega]
        rfl
      · rw [if_neg (by simp [q]), if_neg q]
        rfl
    rw [List.map_cons]
    show (t_changed_places_1 (Ma.txt w) (Ma.s1 t) ((k : Int), Ma.s1 b) (acc, (h : Int))).bind _ = _
    rw [e, bind_ok, places_loop t hw bs (hup h b) (k + 1) _ (by omega) (by split <;> (try rw [List.length_append, List.length_singleton]) <;> omega) c]
    by_cases q : b = t
    · rw [if_pos q]
      conv => rhs; unfold pl
      rw [if_pos q, List.append_assoc]
      rfl
    · rw [if_neg q]
      conv => rhs; unfold pl
      rw [if_neg q]
theorem places_ok (t : Bool) {bs : List Bool} (c : Cm 0 bs) (hl : bs.length ≤ 60) : t_changed_places (Ma.txt bs) (Ma.s1 t) = .ok (pl t 0 0 bs).reverse := by
  unfold t_changed_places
  rw [bind_ok, chars_txt]
  have e := places_loop t hl bs 0 0 [] (by omega) (by simp) c
  have e : foldR (t_changed_places_1 (Ma.txt bs) (Ma.s1 t)) (enumT 0 (bs.map Ma.s1)) ([], 0) = .ok ([] ++ pl t 0 0 bs, 0) := e
  rw [e, bind_ok, List.nil_append]
theorem next_loop {w : List Bool} (hw : w.length ≤ 60) : ∀ (bs : List Bool) (h k : Nat) (rest : List (Int × Int × Int)), k + bs.length = w.length → w.drop k = bs → Cm h bs → forR (t_next_word_1 (Ma.txt w)) ((pl false k h bs).reverse ++ rest) () = match nxt h bs with
    | some cs => .ok (.rt (some (Ma.txt (w.take k ++ cs))))
    | none => forR (t_next_word_1 (Ma.txt w)) rest ()
  | [], h, k, rest, l, d, c => rfl
  | b :: bs, h, k, rest, l, d, c => by
    have d' : w.drop (k + 1) = bs := by rw [← List.drop_drop, d]; rfl
    have tk : w.take (k + 1) = w.take k ++ [b] := by
      have : w[k]? = some b := by
        have := congrArg (·[0]?) d
        simpa using this
      rw [List.take_succ, this]
      rfl
    rw [List.length_cons] at l
    obtain ⟨h0, c'⟩ := Cm_cons c
    have ih := next_loop hw bs (hup h b) (k + 1)
    cases b with
    | true =>
      have e : pl false k h (true :: bs) = pl false (k + 1) (h + 1) bs := rfl
      rw [e]
      have ih := ih rest (by omega) d' c'
      rw [show hup h true = h + 1 from rfl] at ih
      rw [ih, nxt_cons, show hup h true = h + 1 from rfl]
      cases q : nxt (h + 1) bs with
      | some cs =>
        show Rs.ok (Bo.rt (some (Ma.txt (w.take (k + 1) ++ cs)))) = Rs.ok (Bo.rt (some (Ma.txt (w.take k ++ (true :: cs)))))
        rw [tk, List.append_assoc]
        rfl
      | none =>
        dsimp only
        rw [if_neg (by simp)]
    | false =>
      have h0 := h0 rfl
      obtain ⟨r, hr⟩ := Cm.par c'
      have hr : bs.length = h - 1 + 2 * r := hr
      have e : (pl false k h (false :: bs)).reverse ++ rest = (pl false (k + 1) (h - 1) bs).reverse ++ ((((k : Int), (h : Int), (bs.length : Int))) :: rest) := by
        show ((((k : Int), (h : Int), (bs.length : Int))) :: pl false (k + 1) (h - 1) bs).reverse ++ rest = _
        rw [List.reverse_cons, List.append_assoc]
        rfl
      rw [e]
      have ih := ih ((((k : Int), (h : Int), (bs.length : Int))) :: rest) (by omega) d' c'
      rw [show hup h false = h - 1 from rfl] at ih
      rw [ih, nxt_cons, show hup h false = h - 1 from rfl]
      cases q : nxt (h - 1) bs with
      | some cs =>
        show Rs.ok (Bo.rt (some (Ma.txt (w.take (k + 1) ++ cs)))) = Rs.ok (Bo.rt (some (Ma.txt (w.take k ++ (false :: cs)))))
        rw [tk, List.append_assoc]
        rfl
      | none =>
        dsimp only
        show (t_next_word_1 (Ma.txt w) ((k : Int), (h : Int), (bs.length : Int)) ()).bind _ = _
        unfold t_next_word_1
        dsimp only
        by_cases g : h + 1 ≤ bs.length
        · have dv : (((bs.length : Int) - h) - 1) / 2 = ((r - 1 : Nat) : Int) := by omega
          have m1 := mulS_txt (w := [false]) (k := h + 1) (by decide) (by omega)
          have m2 := mulS_txt (w := [true, false]) (k := r - 1) (by decide) (by omega)
          have t1 : (w.take k).length = k := by rw [List.length_take]; omega
          have m3 := addS_txt (a := w.take k) (b := [true]) (by simp; omega)
          have m4 := addS_txt (a := w.take k ++ [true]) (b := rep (h + 1) [false]) (by simp [rep_len]; omega)
          have m5 := addS_txt (a := w.take k ++ [true] ++ rep (h + 1) [false]) (b := rep (r - 1) [true, false]) (by simp [rep_len]; omega)
          rw [if_pos (decide_eq_true (by omega)), bind_ok, dv, cutT_take (by omega), ob_some, show addS (Ma.txt (w.take k)) ("U" : Str) = _ from m3, ob_some, show mulS ("D" : Str) ((h : Int) + 1) = _ from m1, ob_some, m4, ob_some, show mulS ("UD" : Str) ((r - 1 : Nat) : Int) = _ from m2, ob_some, m5, ob_some, bind_ok, if_pos ⟨rfl, g⟩]
          have e2 := minc_eq (h + 1) (r - 1)
          rw [show h + 1 + 2 * (r - 1) = bs.length by omega] at e2
          dsimp only
          rw [e2]
          simp only [List.append_assoc]
          rfl
        · rw [if_neg (by simp; omega), bind_ok, if_neg (fun x => g x.2)]
theorem nextWord_ok {bs : List Bool} (c : Cm 0 bs) (hl : bs.length ≤ 60) : t_next_word (Ma.txt bs) = .ok ((nxt 0 bs).map Ma.txt) := by
  unfold t_next_word
  have p := places_ok false c hl
  have l := next_loop hl bs 0 0 [] (by omega) rfl c
  rw [List.append_nil] at l
  rw [validate_ok c hl, bind_ok, show t_changed_places (Ma.txt bs) ("D" : Str) = _ from p, bind_ok, l]
  cases nxt 0 bs with
  | none => rfl
  | some cs => rfl
theorem prev_loop {w : List Bool} (hw : w.length ≤ 60) : ∀ (bs : List Bool) (h k : Nat) (rest : List (Int × Int × Int)), k + bs.length = w.length → w.drop k = bs → Cm h bs → forR (t_previous_word_1 (Ma.txt w)) ((pl true k h bs).reverse ++ rest) () = match prv h bs with
    | some cs => .ok (.rt (some (Ma.txt (w.take k ++ cs))))
    | none => forR (t_previous_word_1 (Ma.txt w)) rest ()
  | [], h, k, rest, l, d, c => rfl
  | b :: bs, h, k, rest, l, d, c => by
    have d' : w.drop (k + 1) = bs := by rw [← List.drop_drop, d]; rfl
    have tk : w.take (k + 1) = w.take k ++ [b] := by
      have : w[k]? = some b := by
        have := congrArg (·[0]?) d
        simpa using this
      rw [List.take_succ, this]
      rfl
    rw [List.length_cons] at l
    obtain ⟨h0, c'⟩ := Cm_cons c
    have ih := prev_loop hw bs (hup h b) (k + 1)
    cases b with
    | false =>
      have e : pl true k h (false :: bs) = pl true (k + 1) (h - 1) bs := rfl
      rw [e]
      have ih := ih rest (by omega) d' c'
      rw [show hup h false = h - 1 from rfl] at ih
      rw [ih, prv_cons, show hup h false = h - 1 from rfl]
      cases q : prv (h - 1) bs with
      | some cs =>
        show Rs.ok (Bo.rt (some (Ma.txt (w.take (k + 1) ++ cs)))) = Rs.ok (Bo.rt (some (Ma.txt (w.take k ++ (false :: cs)))))
        rw [tk, List.append_assoc]
        rfl
      | none =>
        dsimp only
        rw [if_neg (by simp)]
    | true =>
      obtain ⟨r, hr⟩ := Cm.par c'
      have hr : bs.length = h + 1 + 2 * r := hr
      have e : (pl true k h (true :: bs)).reverse ++ rest = (pl true (k + 1) (h + 1) bs).reverse ++ ((((k : Int), (h : Int), (bs.length : Int))) :: rest) := by
        show ((((k : Int), (h : Int), (bs.length : Int))) :: pl true (k + 1) (h + 1) bs).reverse ++ rest = _
        rw [List.reverse_cons, List.append_assoc]
        rfl
      rw [e]
      have ih := ih ((((k : Int), (h : Int), (bs.length : Int))) :: rest) (by omega) d' c'
      rw [show hup h true = h + 1 from rfl] at ih
      rw [ih, prv_cons, show hup h true = h + 1 from rfl]
      cases q : prv (h + 1) bs with
      | some cs =>
        show Rs.ok (Bo.rt (some (Ma.txt (w.take (k + 1) ++ cs)))) = Rs.ok (Bo.rt (some (Ma.txt (w.take k ++ (true :: cs)))))
        rw [tk, List.append_assoc]
        rfl
      | none =>
        dsimp only
        show (t_previous_word_1 (Ma.txt w) ((k : Int), (h : Int), (bs.length : Int)) ()).bind _ = _
        unfold t_previous_word_1
        dsimp only
        by_cases g : 0 < h
        · have dv : (((bs.length : Int) - h) + 1) / 2 = ((r + 1 : Nat) : Int) := by omega
          have dw : (bs.length : Int) - ((r + 1 : Nat) : Int) = ((h + r : Nat) : Int) := by omega
          have m1 := mulS_txt (w := [true]) (k := r + 1) (by decide) (by omega)
          have m2 := mulS_txt (w := [false]) (k := h + r) (by decide) (by omega)
          have t1 : (w.take k).length = k := by rw [List.length_take]; omega
          have m3 := addS_txt (a := w.take k) (b := [false]) (by simp; omega)
          have m4 := addS_txt (a := w.take k ++ [false]) (b := rep (r + 1) [true]) (by simp [rep_len]; omega)
          have m5 := addS_txt (a := w.take k ++ [false] ++ rep (r + 1) [true]) (b := rep (h + r) [false]) (by simp [rep_len]; omega)
          rw [if_pos (decide_eq_true (by omega)), bind_ok, dv, dw, cutT_take (by omega), ob_some, show addS (Ma.txt (w.take k)) ("D" : Str) = _ from m3, ob_some, show mulS ("U" : Str) ((r + 1 : Nat) : Int) = _ from m1, ob_some, m4, ob_some, show mulS ("D" : Str) ((h + r : Nat) : Int) = _ from m2, ob_some, m5, ob_some, bind_ok, if_pos ⟨rfl, g⟩]
          have e2 := maxc_eq (r + 1) (h - 1)
          rw [show h - 1 + 2 * (r + 1) = bs.length by omega, show h - 1 + (r + 1) = h + r by omega] at e2
          dsimp only
          rw [e2]
          simp only [List.append_assoc]
          rfl
        · rw [if_neg (by simp; omega), bind_ok, if_neg (fun x => g x.2)]
theorem prevWord_ok {bs : List Bool} (c : Cm 0 bs) (hl : bs.length ≤ 60) : t_previous_word (Ma.txt bs) = .ok ((prv 0 bs).map Ma.txt) := by
  unfold t_previous_word
  have p := places_ok true c hl
  have l := prev_loop hl bs 0 0 [] (by omega) rfl c
  rw [List.append_nil] at l
  rw [validate_ok c hl, bind_ok, show t_changed_places (Ma.txt bs) ("U" : Str) = _ from p, bind_ok, l]
  cases prv 0 bs with
  | none => rfl
  | some cs => rfl

/-! ### from the number to the word -/
theorem stepL_cons (lo c : Int) (n : Nat) : stepL lo c (n + 1) = lo :: stepL (lo + c) c n := by
  unfold stepL
  rw [List.range_succ_eq_map, List.map_cons, List.map_map]
  congr 1
  · simp
  · refine List.map_congr_left fun k _ => ?_
    show lo + ((k + 1 : Nat) : Int) * c = lo + c + k * c
    rw [Int.natCast_add, Int.add_mul]
    omega
theorem at_loop : ∀ (n h : Nat) (k : Int) (acc : List Str), n ≤ 60 → acc.length + n ≤ 60 → 0 ≤ k → k < Ma.F h n → foldR t_word_at_1 (stepL ((n : Int) - 1) (-1) n) (k, acc, (h : Int)) = .ok (0, acc ++ (unr h n k).map Ma.s1, 0)
  | 0, h, k, acc, hn, ha, h0, h1 => by
    rw [F_zero] at h1
    by_cases c : h = 0
    · subst c
      have : k = 0 := by rw [if_pos rfl] at h1; omega
      subst this
      show Rs.ok _ = Rs.ok (_, acc ++ [], _)
      rw [List.append_nil]
      rfl
    · rw [if_neg c] at h1
      omega
  | n + 1, h, k, acc, hn, ha, h0, h1 => by
    have up := F_up h n
    rw [up] at h1
    have x0 : ((n + 1 : Nat) : Int) - 1 = (n : Nat) := by omega
    rw [stepL_cons, x0]
    show (t_word_at_1 ((n : Nat) : Int) (k, acc, (h : Int))).bind _ = _
    have w : (if (decide ((0 : Int) < (h : Int))) = true then ((t_completions ((h : Int) - 1) (n : Nat)).bind fun completions_12 => Rs.ok (completions_12)) else (Rs.ok (0)) : Rs (Int)) = .ok (if h = 0 then 0 else Ma.F (h - 1) n) := by
      by_cases z : h = 0
      · subst z
        rfl
      · have cc := completions_ok (l := h - 1) (n := n) (by omega)
        rw [show ((h - 1 : Nat) : Int) = (h : Int) - 1 by omega] at cc
        rw [if_pos (by simp; omega), cc, bind_ok, if_neg z]
    have e : t_word_at_1 ((n : Nat) : Int) (k, acc, (h : Int)) = if k < (if h = 0 then 0 else Ma.F (h - 1) n) then .ok (k, acc ++ [Ma.s1 false], ((h - 1 : Nat) : Int)) else .ok (k - (if h = 0 then 0 else Ma.F (h - 1) n), acc ++ [Ma.s1 true], ((h + 1 : Nat) : Int)) := by
      unfold t_word_at_1
      dsimp only
      rw [w, bind_ok]
      by_cases c : k < (if h = 0 then 0 else Ma.F (h - 1) n)
      · have hh : h ≠ 0 := fun e => by rw [if_pos e] at c; omega
        rw [if_pos (decide_eq_true c), if_pos c, appL_ok' (by omega), ob_some, bind_ok, bind_ok]
        dsimp only
        rw [show (h : Int) - 1 = ((h - 1 : Nat) : Int) by omega]
        rfl
      · rw [if_neg (by rw [decide_eq_false c]; decide), if_neg c, bind_ok, appL_ok' (by omega), ob_some, bind_ok, bind_ok]
        rfl
    rw [e]
    unfold unr
    have nx : ((n : Nat) : Int) + -1 = (n : Int) - 1 := by omega
    by_cases c : k < (if h = 0 then 0 else Ma.F (h - 1) n)
    · have hh : h ≠ 0 := fun e => by rw [if_pos e] at c; omega
      rw [if_pos c, if_pos c, bind_ok, nx]
      rw [if_neg hh] at c
      rw [at_loop n (h - 1) k (acc ++ [Ma.s1 false]) (by omega) (by simp; omega) h0 c, List.map_cons, List.append_assoc]
      rfl
    · rw [if_neg c, if_neg c, bind_ok, nx]
      rw [at_loop n (h + 1) _ (acc ++ [Ma.s1 true]) (by omega) (by simp; omega) (by omega) (by omega), List.map_cons, List.append_assoc]
      rfl
theorem wordAt_ok {m : Nat} {k : Int} (hm : m ≤ 30) (h0 : 0 ≤ k) (h1 : k < Ma.F 0 (2 * m)) : t_word_at m k = .ok (Ma.txt (unr 0 (2 * m) k)) := by
  unfold t_word_at
  have cc := completions_ok (l := 0) (n := 2 * m) (by omega)
  have cc : t_completions 0 (2 * (m : Int)) = .ok (Ma.F 0 (2 * m)) := by
    rw [show (2 * (m : Int)) = ((2 * m : Nat) : Int) by omega]
    exact cc
  have l := at_loop (2 * m) 0 k [] (by omega) (by simp; omega) h0 h1
  rw [List.nil_append] at l
  rw [checkSize_ok (by omega) (by omega), bind_ok, mulI_sm (by decide) (by decide) (by omega) (by omega), ob_some, cc, bind_ok, isInt_ok, bind_ok, decide_eq_true h0, decide_eq_true (show k ≤ Ma.F 0 (2 * m) - 1 by omega), if_neg (by decide), bind_ok, ob_some, rangeD_of (n := 2 * m) (by omega) (by omega) (by omega) (by decide) (by decide), ob_some]
  rw [show (2 * (m : Int) - 1) = (((2 * m : Nat) : Int) - 1) by omega]
  rw [show foldR t_word_at_1 _ (k, ([] : List Str), (0 : Int)) = _ from l, bind_ok]
  dsimp only
  rw [joinT_s1 (by rw [unr_len]; omega)]
  rfl

/-! ### all words of a size, one after the other -/
/-- what can follow: n letters from height h on -/
def al : Nat → Nat → List (List Bool)
  | 0, _ => [[]]
  | n + 1, h => (if 0 < h then (al n (h - 1)).map (false :: ·) else []) ++ (if h < n + 1 then (al n (h + 1)).map (true :: ·) else [])
theorem al_succ (n h : Nat) : al (n + 1) h = (if 0 < h then (al n (h - 1)).map (false :: ·) else []) ++ (if h < n + 1 then (al n (h + 1)).map (true :: ·) else []) := rfl
def fN (h n : Nat) : Nat := (Ma.F h n).toNat
theorem fN_eq (h n : Nat) : ((fN h n : Nat) : Int) = Ma.F h n := Int.toNat_of_nonneg (F_nn n h)
theorem fN_up (h n : Nat) : fN h (n + 1) = (if h = 0 then 0 else fN (h - 1) n) + fN (h + 1) n := by
  have := F_up h n
  have e1 := fN_eq h (n + 1)
  have e2 := fN_eq (h - 1) n
  have e3 := fN_eq (h + 1) n
  by_cases c : h = 0
  · rw [if_pos c] at this ⊢
    omega
  · rw [if_neg c] at this ⊢
    omega
theorem unr_succ (n h : Nat) (k : Int) : unr h (n + 1) k = if k < (if h = 0 then 0 else Ma.F (h - 1) n) then false :: unr (h - 1) n k else true :: unr (h + 1) n (k - (if h = 0 then 0 else Ma.F (h - 1) n)) := rfl
theorem al_unr : ∀ (n h : Nat), (∃ r, n = h + 2 * r) → al n h = (List.range (fN h n)).map fun (k : Nat) => unr h n k
  | 0, h, ⟨r, e⟩ => by
    have h0 : h = 0 := by omega
    subst h0
    have : fN 0 0 = 1 := by decide
    rw [this]
    rfl
  | n + 1, h, ⟨r, e⟩ => by
    have up := fN_up h n
    have e2 := fN_eq (h - 1) n
    have e3 := fN_eq (h + 1) n
    have e1 := fN_eq h (n + 1)
    rw [up, List.range_add, List.map_append, List.map_map, al_succ]
    congr 1
    · by_cases c : h = 0
      · rw [if_neg (by omega), if_pos c]
        rfl
      · rw [if_pos (by omega), if_neg c, al_unr n (h - 1) ⟨r, by omega⟩, List.map_map]
        refine List.map_congr_left fun k hk => ?_
        have hk := List.mem_range.mp hk
        show _ = unr h (n + 1) k
        rw [unr_succ, if_neg c, if_pos (by omega)]
        rfl
    · by_cases c : h < n + 1
      · rw [if_pos c, al_unr n (h + 1) ⟨r - 1, by omega⟩, List.map_map]
        refine List.map_congr_left fun k hk => ?_
        have hk := List.mem_range.mp hk
        show true :: unr (h + 1) n k = unr h (n + 1) (((if h = 0 then 0 else fN (h - 1) n) + k : Nat) : Int)
        rw [unr_succ]
        by_cases z : h = 0
        · rw [if_pos z, if_pos z, if_neg (by omega)]
          congr 2
          omega
        · rw [if_neg z, if_neg z, if_neg (by omega)]
          congr 2
          omega
      · rw [if_neg c]
        have : fN (h + 1) n = 0 := by
          have := Ma.F_big (l := h + 1) (n := n) (by omega)
          omega
        rw [this]
        rfl
/-! ### the law's list -/
def g27 (p : List Bool × Nat) : Str × Int := (Ma.txt p.1, (p.2 : Int))
def stp (b : Nat) (p : List Bool × Nat) : List (List Bool × Nat) := (if 0 < p.2 then [(p.1 ++ [false], p.2 - 1)] else []) ++ (if p.2 < b then [(p.1 ++ [true], p.2 + 1)] else [])
theorem stp_len (b : Nat) (p : List Bool × Nat) : (stp b p).length ≤ 2 := by
  unfold stp
  rw [List.length_append]
  split <;> split <;> simp
theorem stp_mem {b : Nat} {p q : List Bool × Nat} (h : q ∈ stp b p) : q.1.length = p.1.length + 1 := by
  unfold stp at h
  rcases List.mem_append.mp h with h | h
  · split at h
    · rw [List.mem_singleton.mp h]; simp
    · cases h
  · split at h
    · rw [List.mem_singleton.mp h]; simp
    · cases h
theorem flat_len {α β : Type} (f : α → List β) (h : ∀ a, (f a).length ≤ 2) : ∀ l : List α, (l.flatMap f).length ≤ 2 * l.length
  | [] => by simp
  | a :: l => by
    have := flat_len f h l
    have := h a
    rw [List.flatMap_cons, List.length_append, List.length_cons]
    omega
theorem inner_step {b : Nat} {p : List Bool × Nat} {acc : List (List Bool × Nat)} (hp : p.1.length ≤ 1000) (ha : acc.length ≤ 10000000) : t__law_all_texts_2 (b : Int) (g27 p) (acc.map g27) = .ok ((acc ++ stp b p).map g27) := by
  obtain ⟨w, l⟩ := p
  have hp : w.length ≤ 1000 := hp
  have d1 : addS (Ma.txt w) ("D" : Str) = some (Ma.txt (w ++ [false])) := addS_txt (b := [false]) (by simp; omega)
  have d2 : addS (Ma.txt w) ("U" : Str) = some (Ma.txt (w ++ [true])) := addS_txt (b := [true]) (by simp; omega)
  unfold t__law_all_texts_2 g27 stp
  dsimp only
  rw [d1, ob_some]
  have s1 : (if (decide ((0 : Int) < (l : Int))) = true then (ob (appL (acc.map g27) (Ma.txt (w ++ [false]), ((l : Int) - 1))) fun longer_11 => Rs.ok (longer_11)) else (Rs.ok (acc.map g27)) : Rs ((List (Str × Int)))) = .ok ((acc ++ (if 0 < l then [(w ++ [false], l - 1)] else [])).map g27) := by
    by_cases c : 0 < l
    · rw [if_pos (by simpa using c), if_pos c, appL_ok' (by rw [List.length_map]; omega), ob_some, List.map_append]
      congr 3
      show _ = (_, ((l - 1 : Nat) : Int))
      congr 1
      omega
    · rw [if_neg (by simpa using c), if_neg c, List.append_nil]
  rw [show (fun p : List Bool × Nat => (Ma.txt p.1, (p.2 : Int))) = g27 from rfl, s1, bind_ok, d2, ob_some]
  by_cases c : l < b
  · have le : (acc ++ (if 0 < l then [(w ++ [false], l - 1)] else [])).length ≤ 10000001 := by
      rw [List.length_append]
      split <;> simp <;> omega
    rw [if_pos (by simpa using c), if_pos c, appL_ok' (by rw [List.length_map]; omega), ob_some, bind_ok, ← List.append_assoc, List.map_append (l₂ := [(w ++ [true], l + 1)])]
    rfl
  · rw [if_neg (by simpa using c), if_neg c, bind_ok, List.append_nil]
theorem inner_ok {b : Nat} : ∀ (P acc : List (List Bool × Nat)), (∀ p ∈ P, p.1.length ≤ 1000) → acc.length + 2 * P.length ≤ 10000000 → foldR (t__law_all_texts_2 (b : Int)) (P.map g27) (acc.map g27) = .ok ((acc ++ P.flatMap (stp b)).map g27)
  | [], acc, _, _ => by
    rw [List.flatMap_nil, List.append_nil]
    rfl
  | p :: P, acc, hp, ha => by
    rw [List.length_cons] at ha
    rw [List.map_cons]
    show (t__law_all_texts_2 (b : Int) (g27 p) (acc.map g27)).bind _ = _
    have := stp_len b p
    rw [inner_step (hp p List.mem_cons_self) (by omega), bind_ok, inner_ok P _ (fun q hq => hp q (List.mem_cons_of_mem _ hq)) (by rw [List.length_append]; omega), List.flatMap_cons, List.append_assoc]
def outP : Nat → List (List Bool × Nat) → List (List Bool × Nat)
  | 0, P => P
  | b + 1, P => outP b (P.flatMap (stp (b + 1)))
theorem outer_ok : ∀ (b : Nat) (P : List (List Bool × Nat)), (∀ p ∈ P, p.1.length + b ≤ 1000) → P.length * 2 ^ b ≤ 1000000 → foldR t__law_all_texts_1 (stepL (b : Int) (-1) b) (P.map g27) = .ok ((outP b P).map g27) ∧ (outP b P).length ≤ 1000000
  | 0, P, hp, ha => ⟨rfl, by simpa [outP] using ha⟩
  | b + 1, P, hp, ha => by
    have fl := flat_len (stp (b + 1)) (stp_len (b + 1)) P
    have p2 : P.length * 2 ^ (b + 1) = 2 * P.length * 2 ^ b := by rw [Nat.pow_succ, Nat.mul_comm (2 ^ b) 2, ← Nat.mul_assoc, Nat.mul_comm P.length 2]
    have pl : P.length ≤ 1000000 := Nat.le_trans (Nat.le_mul_of_pos_right _ (Nat.pow_pos (by decide))) ha
    have i := inner_ok (b := b + 1) P [] (fun p q => by have := hp p q; omega) (by simp; omega)
    obtain ⟨h1, h2⟩ := outer_ok b (P.flatMap (stp (b + 1))) (fun p q => by
      obtain ⟨r, h3, h4⟩ := List.mem_flatMap.mp q
      have := hp r h3
      have := stp_mem h4
      omega) (by
      have : (P.flatMap (stp (b + 1))).length * 2 ^ b ≤ 2 * P.length * 2 ^ b := Nat.mul_le_mul_right _ fl
      omega)
    refine ⟨?_, h2⟩
    rw [stepL_cons]
    show (t__law_all_texts_1 ((b + 1 : Nat) : Int) (P.map g27)).bind _ = _
    unfold t__law_all_texts_1
    rw [bind_ok, show foldR (t__law_all_texts_2 ((b + 1 : Nat) : Int)) (P.map g27) ([] : List (Str × Int)) = _ from i, bind_ok, bind_ok, List.nil_append, show ((b + 1 : Nat) : Int) + -1 = (b : Int) by omega]
    exact h1
theorem out_al : ∀ (b : Nat) (P : List (List Bool × Nat)), (outP b P).map (·.1) = P.flatMap fun p => (al b p.2).map (p.1 ++ ·)
  | 0, P => by
    show P.map (·.1) = _
    induction P with
    | nil => rfl
    | cons p P ih =>
      rw [List.map_cons, ih, List.flatMap_cons]
      show _ = [p.1 ++ []] ++ _
      rw [List.append_nil]
      rfl
  | b + 1, P => by
    show (outP b (P.flatMap (stp (b + 1)))).map (·.1) = _
    rw [out_al b, List.flatMap_assoc]
    congr 1
    funext p
    obtain ⟨w, l⟩ := p
    unfold stp
    rw [al_succ, List.flatMap_append, List.map_append]
    dsimp only
    congr 1
    · by_cases c : 0 < l
      · rw [if_pos c, if_pos c, List.map_map, List.flatMap_cons, List.flatMap_nil, List.append_nil]
        refine List.map_congr_left fun x _ => ?_
        simp
      · rw [if_neg c, if_neg c]
        rfl
    · by_cases c : l < b + 1
      · rw [if_pos c, if_pos c, List.map_map, List.flatMap_cons, List.flatMap_nil, List.append_nil]
        refine List.map_congr_left fun x _ => ?_
        simp
      · rw [if_neg c, if_neg c]
        rfl
/-- the text with the number k -/
def T27 (m k : Nat) : Str := Ma.txt (unr 0 (2 * m) k)
def all27 (m : Nat) : List Str := (List.range (fN 0 (2 * m))).map (T27 m)
theorem texts_ok {m : Nat} (hm : m ≤ 8) : t__law_all_texts m = .ok (all27 m) ∧ fN 0 (2 * m) ≤ 1000000 := by
  have pw : 2 ^ (2 * m) ≤ 2 ^ 16 := Nat.pow_le_pow_right (by decide) (by omega)
  obtain ⟨h1, h2⟩ := outer_ok (2 * m) [([], 0)] (fun p q => by rw [List.mem_singleton.mp q]; simp; omega) (by
    rw [List.length_singleton, Nat.one_mul]
    exact Nat.le_trans pw (by decide))
  have h3 := out_al (2 * m) [([], 0)]
  rw [List.flatMap_cons, List.flatMap_nil, List.append_nil] at h3
  have h4 : (al (2 * m) 0).map (([] : List Bool) ++ ·) = al (2 * m) 0 := by simp
  rw [show (([] : List Bool), 0).2 = 0 from rfl, h4, al_unr (2 * m) 0 ⟨m, by omega⟩] at h3
  have h5 : fN 0 (2 * m) ≤ 1000000 := by
    have := congrArg List.length h3
    rw [List.length_map, List.length_map, List.length_range] at this
    omega
  refine ⟨?_, h5⟩
  unfold t__law_all_texts
  rw [bind_ok, mulI_sm (by decide) (by decide) (by omega) (by omega), ob_some, show 2 * (m : Int) = ((2 * m : Nat) : Int) by omega, rangeD_of (n := 2 * m) (by omega) (by omega) (by omega) (by decide) (by decide), ob_some]
  rw [show foldR t__law_all_texts_1 (stepL ((2 * m : Nat) : Int) (-1) (2 * m)) [(("" : Str), 0)] = _ from h1, bind_ok, mapP_ok _ (by rw [List.length_map]; omega), ob_some, List.map_map]
  congr 1
  have h6 := congrArg (List.map Ma.txt) h3
  rw [List.map_map, List.map_map] at h6
  exact h6
/-! ### one word -/
theorem T27_get {m k : Nat} (hk : k < fN 0 (2 * m)) : (all27 m)[k]? = some (T27 m k) := by
  unfold all27
  rw [List.getElem?_map, List.getElem?_range hk]
  rfl
theorem all27_len (m : Nat) : (all27 m).length = fN 0 (2 * m) := by unfold all27; rw [List.length_map, List.length_range]
theorem T27_facts {m k : Nat} (hk : k < fN 0 (2 * m)) : Cm 0 (unr 0 (2 * m) k) ∧ num 0 (unr 0 (2 * m) k) = k := by
  have := fN_eq 0 (2 * m)
  exact unr_ok (2 * m) 0 k (by omega) (by omega)
theorem next27 {m k : Nat} (hm : m ≤ 8) (hk : k < fN 0 (2 * m)) : t_next_word (T27 m k) = .ok (if k + 1 < fN 0 (2 * m) then some (T27 m (k + 1)) else none) := by
  obtain ⟨c, n⟩ := T27_facts hk
  have fe := fN_eq 0 (2 * m)
  unfold T27
  rw [nextWord_ok c (by rw [unr_len]; omega)]
  have p := nxt_ok c
  cases e : nxt 0 (unr 0 (2 * m) k) with
  | none =>
    rw [e] at p
    have p : num 0 (unr 0 (2 * m) k) = Ma.F 0 (unr 0 (2 * m) k).length - 1 := p
    rw [unr_len, n] at p
    rw [if_neg (by omega)]
    rfl
  | some cs =>
    rw [e] at p
    obtain ⟨p1, p2, p3⟩ := p
    rw [n] at p3
    have lt := num_lt p1
    rw [p2, unr_len] at lt
    have hk1 : k + 1 < fN 0 (2 * m) := by omega
    obtain ⟨c1, n1⟩ := T27_facts hk1
    rw [if_pos hk1]
    have : cs = unr 0 (2 * m) ((k + 1 : Nat) : Int) := num_inj (by rw [p2, unr_len, unr_len]) p1 c1 (by rw [p3, n1]; omega)
    rw [this]
    rfl
theorem prev27 {m k : Nat} (hm : m ≤ 8) (hk : k < fN 0 (2 * m)) : t_previous_word (T27 m k) = .ok (if 0 < k then some (T27 m (k - 1)) else none) := by
  obtain ⟨c, n⟩ := T27_facts hk
  have fe := fN_eq 0 (2 * m)
  unfold T27
  rw [prevWord_ok c (by rw [unr_len]; omega)]
  have p := prv_ok c
  cases e : prv 0 (unr 0 (2 * m) k) with
  | none =>
    rw [e] at p
    have p : num 0 (unr 0 (2 * m) k) = 0 := p
    rw [if_neg (by omega)]
    rfl
  | some cs =>
    rw [e] at p
    obtain ⟨p1, p2, p3⟩ := p
    rw [n] at p3
    have lt := num_lt p1
    have hk1 : k - 1 < fN 0 (2 * m) := by omega
    obtain ⟨c1, n1⟩ := T27_facts hk1
    rw [if_pos (by omega)]
    have : cs = unr 0 (2 * m) ((k - 1 : Nat) : Int) := num_inj (by rw [p2, unr_len, unr_len]) p1 c1 (by rw [p3, n1]; omega)
    rw [this]
    rfl
theorem sm27 (m k : Nat) (hm : m ≤ 8) : Ma.Sm (eS' (T27 m k)) 0 60 := by
  unfold T27
  exact Ma.Sm.txt (by rw [unr_len]; omega)
theorem smN : Ma.Sm .none 0 60 := by
  constructor <;> decide
theorem one27 {m k : Nat} (hm : m ≤ 8) (hk : k < fN 0 (2 * m)) (hN : fN 0 (2 * m) ≤ 1000000) : t__law_one_right (all27 m) (k : Int) = .ok true := by
  obtain ⟨c, n⟩ := T27_facts hk
  have fe := fN_eq 0 (2 * m)
  have L : (unr 0 (2 * m) k).length = 2 * m := unr_len _ _ _
  have L0 : (unr 0 (2 * m) ((0 : Nat) : Int)).length = 2 * m := unr_len _ _ _
  have i0 : ixL (all27 m) 0 = some (T27 m 0) := ixL_nat (k := 0) (T27_get (by omega))
  have ln : lenS (T27 m 0) = some ((2 * m : Nat) : Int) := by
    unfold T27
    rw [lenS_txt (by omega), L0]
  have wa : t_word_at (m : Int) (k : Int) = .ok (T27 m k) := wordAt_ok (by omega) (by omega) (by omega)
  have no : t_number_of (T27 m k) = .ok (k : Int) := by
    unfold T27
    rw [numberOf_ok c (by omega), n]
  have r1 : ∃ z, reprG (eL eD [eS' (T27 m k), eS' (T27 m k), eI (k : Int), eI (k : Int)]) = some z := ⟨_, reprL_sm (k := 0) (w := 60) (fun x hx => by
    have hx : x = eS' (T27 m k) ∨ x = eI (k : Int) := by
      simp only [List.mem_cons, List.not_mem_nil, or_false] at hx
      rcases hx with h | h | h | h <;> simp [h]
    rcases hx with rfl | rfl
    · exact sm27 m k hm
    · exact (Ma.Sm.int (i := (k : Int)) (by omega)).mono (by decide) (by decide)) (by decide) (by simp)⟩
  obtain ⟨z1, r1⟩ := r1
  have later : (if (decide (((k : Int) + 1) < ((all27 m).length : Int))) = true then (ob (ixL (all27 m) ((k : Int) + 1)) fun at_14 => Rs.ok ((some at_14))) else (Rs.ok ((none))) : Rs ((Option Str))) = .ok (if k + 1 < fN 0 (2 * m) then some (T27 m (k + 1)) else none) := by
    rw [all27_len]
    by_cases h : k + 1 < fN 0 (2 * m)
    · rw [if_pos (by simp; omega), if_pos h, show ((k : Int) + 1) = ((k + 1 : Nat) : Int) by omega, ixL_nat (T27_get h)]
      rfl
    · rw [if_neg (by simp; omega), if_neg h]
  have earlier : (if (decide (0 < (k : Int))) = true then (ob (ixL (all27 m) ((k : Int) - 1)) fun at_15 => Rs.ok ((some at_15))) else (Rs.ok ((none))) : Rs ((Option Str))) = .ok (if 0 < k then some (T27 m (k - 1)) else none) := by
    by_cases h : 0 < k
    · rw [if_pos (by simp; omega), if_pos h, show ((k : Int) - 1) = ((k - 1 : Nat) : Int) by omega, ixL_nat (T27_get (show k - 1 < fN 0 (2 * m) by omega))]
      rfl
    · rw [if_neg (by simp; omega), if_neg h]
  obtain ⟨A, hA⟩ : ∃ A, A = (if k + 1 < fN 0 (2 * m) then some (T27 m (k + 1)) else none) := ⟨_, rfl⟩
  obtain ⟨B, hB⟩ : ∃ B, B = (if 0 < k then some (T27 m (k - 1)) else none) := ⟨_, rfl⟩
  have nx := next27 hm hk
  have pv := prev27 hm hk
  rw [← hA] at later nx
  rw [← hB] at earlier pv
  have smo : ∀ o : Option Str, (o = none ∨ ∃ j, o = some (T27 m j)) → Ma.Sm (eO eS' o) 0 60 := fun o h => by
    rcases h with rfl | ⟨j, rfl⟩
    · exact smN
    · exact sm27 m j hm
  have oA : A = none ∨ ∃ j, A = some (T27 m j) := by
    rw [hA]
    split
    · exact .inr ⟨_, rfl⟩
    · exact .inl rfl
  have oB : B = none ∨ ∃ j, B = some (T27 m j) := by
    rw [hB]
    split
    · exact .inr ⟨_, rfl⟩
    · exact .inl rfl
  have r2 : ∃ z, reprG (eL (eO eS') [A, A, B, B]) = some z := ⟨_, reprL_sm (k := 0) (w := 60) (fun x hx => by
    have hx : x = A ∨ x = B := by
      simp only [List.mem_cons, List.not_mem_nil, or_false] at hx
      rcases hx with h | h | h | h <;> simp [h]
    rcases hx with rfl | rfl
    · exact smo _ oA
    · exact smo _ oB) (by decide) (by simp)⟩
  obtain ⟨z2, r2⟩ := r2
  unfold t__law_one_right
  rw [ixL_nat (T27_get hk), ob_some, i0, ob_some, ln, ob_some, bind_ok, show ((2 * m : Nat) : Int) / 2 = (m : Int) by omega, wa, bind_ok, bind_ok, no, bind_ok, bind_ok, bind_ok, r1, ob_some, ob_some, if_neg (by simp), later, bind_ok, earlier, bind_ok, nx, bind_ok, bind_ok, pv, bind_ok, bind_ok, bind_ok, r2, ob_some, ob_some]
  simp
theorem size27 {m : Nat} (hm : m ≤ 8) (places : List Int) (hp : places.length ≤ 1000) : t__law_size_right (m : Int) places = .ok true := by
  obtain ⟨e, hN⟩ := texts_ok hm
  have fe := fN_eq 0 (2 * m)
  have Fp := F_pos m
  unfold t__law_size_right
  have r1 : ∃ z, reprG (eL eI [Ma.F 0 (2 * m), Ma.F 0 (2 * m)]) = some z := ⟨_, reprL_sm (k := 0) (w := 40) (fun x hx => by
    simp only [List.mem_cons, List.not_mem_nil, or_false, or_self] at hx
    subst hx
    exact Ma.Sm.int (by omega)) (by decide) (by simp)⟩
  obtain ⟨z1, r1⟩ := r1
  rw [e, bind_ok, wordCount_ok (by omega), bind_ok, bind_ok, r1, ob_some, show (2 : Int) = ((2 : Nat) : Int) from rfl, repL_nat (by decide), ob_some, all27_len, fe, show List.replicate 2 (Ma.F 0 (2 * m)) = [Ma.F 0 (2 * m), Ma.F 0 (2 * m)] from rfl, r1, ob_some, if_neg (by simp)]
  have some_ok : ∃ ks : List Int, (if (!decide (places = ([] : (List Int)))) = true then ((mpR (t__law_size_right_c1 (all27 m)) places).bind fun ys_10 => Rs.ok (ys_10)) else (ob (lr1 (Ma.F 0 (2 * m))) fun lst_9 => Rs.ok (lst_9)) : Rs ((List Int))) = .ok ks ∧ ks.length ≤ 1000000 ∧ ∀ k ∈ ks, 0 ≤ k ∧ k < Ma.F 0 (2 * m) := by
    by_cases c : places = []
    · refine ⟨rangeL 0 (fN 0 (2 * m)), ?_, by rw [rangeL_len]; omega, fun k hk => ?_⟩
      · rw [if_neg (by simp [c])]
        unfold lr1
        rw [if_pos (by omega)]
        rfl
      · obtain ⟨j, hj, rfl⟩ := rangeL_mem hk
        omega
    · refine ⟨places.map fun x => x % Ma.F 0 (2 * m), ?_, by rw [List.length_map]; omega, fun k hk => ?_⟩
      · rw [if_pos (by simp [c]), mpR_ok (g := fun x => x % Ma.F 0 (2 * m)) (by omega) fun x hx => by
          unfold t__law_size_right_c1
          rw [all27_len, fe, modI_pos Fp]
          rfl]
        rfl
      · obtain ⟨x, _, rfl⟩ := List.mem_map.mp hk
        exact ⟨Int.emod_nonneg _ (by omega), Int.emod_lt_of_pos _ Fp⟩
  obtain ⟨ks, e2, kl, kb⟩ := some_ok
  rw [e2, bind_ok, lcR_none (by omega) fun x hx => by
    obtain ⟨h0, h1⟩ := kb x hx
    obtain ⟨k, rfl⟩ := Int.eq_ofNat_of_zero_le h0
    unfold t__law_size_right_c2
    rw [one27 hm (by omega) hN]
    rfl]
  rfl
theorem law2_ok {m : Rc0} {n : Nat} (su : Su m n) (hn : n ≤ 1000000) (x : Int) : ∃ m', t_law_2 x m = .ok (.nx m') ∧ Su m' (n + 13) := by
  unfold t_law_2
  obtain ⟨k, m1, e1, h1, su1⟩ := next_nat (total := 2) su (by omega) (by decide) (by decide)
  rw [e1, bind_ok, bind_ok, show (12 : Int) = ((12 : Nat) : Int) from rfl, range1_nat (by decide), ob_some]
  obtain ⟨ys, m2, e2, su2, yl, _⟩ := mpS_inv (f := t_law_c1) (fun i s => Su s (n + 1 + i)) (fun _ _ y => True) (xs := ups 12) (s := m1) (by decide) su1 fun j x s hx hs => by
    obtain ⟨r, s', e, h, su'⟩ := next_nat (total := 1430) hs (by have := (ups_get hx).1; omega) (by decide) (by decide)
    refine ⟨(r : Int), s', ?_, trivial, su'⟩
    unfold t_law_c1
    rw [e]
    rfl
  rw [ups_len] at su2 yl
  rw [e2, bind_ok]
  dsimp only
  rw [addL_ok' (by simp [yl]), ob_some, show (7 : Int) + (k : Int) = ((7 + k : Nat) : Int) by omega, size27 (by omega) _ (by simp [yl]), bind_ok, if_neg (by simp)]
  exact ⟨m2, rfl, su2⟩
theorem law_ok (ns : List Int) (hl : ns.length ≤ 63) : t_law ns = .ok true := by
  unfold t_law
  obtain ⟨m, e, su⟩ := begun_ok ns
  obtain ⟨a, m1, e1, h1, su1⟩ := next_nat (total := 7) su (by decide) (by decide) (by decide)
  obtain ⟨b, m2, e2, h2, su2⟩ := next_nat (total := 4) su1 (by decide) (by decide) (by decide)
  obtain ⟨r, hr, hr4⟩ : ∃ r : Nat, 1 + minI2 3 (ns.length : Int) = r ∧ r ≤ 4 := by
    rw [minI2_eq]
    exact ⟨1 + min 3 ns.length, by omega, by omega⟩
  rw [e, bind_ok, e1, bind_ok]
  dsimp only
  rw [e2, bind_ok, show ssetI [(a : Int), 2 + (b : Int)] = some (sortD [(a : Int), 2 + (b : Int)]) from rfl, ob_some]
  have f1 : forR t_law_1 (sortD [(a : Int), 2 + (b : Int)]) () = .ok (.nx ()) := forR_miss fun y hy => by
    have hy := (sortD_mem y _).mp hy
    simp only [List.mem_cons, List.not_mem_nil, or_false] at hy
    obtain ⟨k, hk, h8⟩ : ∃ k : Nat, y = (k : Int) ∧ k ≤ 8 := by
      rcases hy with rfl | rfl
      · exact ⟨a, rfl, by omega⟩
      · exact ⟨2 + b, by omega, by omega⟩
    unfold t_law_1
    rw [hk, size27 h8 [] (by decide), bind_ok, if_neg (by simp)]
  rw [f1, bind_ok, aft_nx, hr, range1_nat (by omega), ob_some]
  obtain ⟨m3, e3, su3⟩ := forR_inv (f := t_law_2) (fun i s => Su s (2 + i * 13)) (xs := ups r) (s := m2) (by simpa using su2) fun j x s hx hs => by
    obtain ⟨s', e, su'⟩ := law2_ok hs (by have := (ups_get hx).1; omega) x
    exact ⟨s', e, by rw [Nat.succ_mul]; exact su'⟩
  rw [e3]
  rfl
theorem law_sem : LawSem 63 S_law := law_of F_law law_ok

end k27
namespace k27
open PySem PySem.Spec PyProof.Rows L2 Fd
def d_is_any_integer : He.DefD := ⟨("is_any_integer", none), "is_any_integer", "is_any_integer", defArgs (top 8), defBody (top 8), defScope (top 8), [], []⟩
def d_is_integer : He.DefD := ⟨("is_integer", none), "is_integer", "is_integer", defArgs (top 9), defBody (top 9), defScope (top 9), [], []⟩
def d_word_faults : He.DefD := ⟨("word_faults", none), "word_faults", "word_faults", defArgs (top 10), defBody (top 10), defScope (top 10), [], []⟩
def d_validate_word : He.DefD := ⟨("validate_word", none), "validate_word", "validate_word", defArgs (top 11), defBody (top 11), defScope (top 11), [], []⟩
def d_binomial : He.DefD := ⟨("binomial", none), "binomial", "binomial", defArgs (top 14), defBody (top 14), defScope (top 14), [], []⟩
def d_completions : He.DefD := ⟨("completions", none), "completions", "completions", defArgs (top 15), defBody (top 15), defScope (top 15), [], []⟩
def d_check_size : He.DefD := ⟨("check_size", none), "check_size", "check_size", defArgs (top 16), defBody (top 16), defScope (top 16), [], []⟩
def d_word_count : He.DefD := ⟨("word_count", none), "word_count", "word_count", defArgs (top 17), defBody (top 17), defScope (top 17), [], []⟩
def d_word_at : He.DefD := ⟨("word_at", none), "word_at", "word_at", defArgs (top 18), defBody (top 18), defScope (top 18), [], []⟩
def d_number_of : He.DefD := ⟨("number_of", none), "number_of", "number_of", defArgs (top 19), defBody (top 19), defScope (top 19), [], []⟩
def d_changed_places : He.DefD := ⟨("changed_places", none), "changed_places", "changed_places", defArgs (top 20), defBody (top 20), defScope (top 20), [], []⟩
def d_next_word : He.DefD := ⟨("next_word", none), "next_word", "next_word", defArgs (top 21), defBody (top 21), defScope (top 21), [], []⟩
def d_previous_word : He.DefD := ⟨("previous_word", none), "previous_word", "previous_word", defArgs (top 22), defBody (top 22), defScope (top 22), [], []⟩
def d__law_begun : He.DefD := ⟨("_law_begun", none), "_law_begun", "_law_begun", defArgs (top 24), defBody (top 24), defScope (top 24), [], []⟩
def d__law_next : He.DefD := ⟨("_law_next", none), "_law_next", "_law_next", defArgs (top 25), defBody (top 25), defScope (top 25), [], []⟩
def d__law_of : He.DefD := ⟨("_law_of", none), "_law_of", "_law_of", defArgs (top 26), defBody (top 26), defScope (top 26), [], []⟩
def d__law_all_texts : He.DefD := ⟨("_law_all_texts", none), "_law_all_texts", "_law_all_texts", defArgs (top 27), defBody (top 27), defScope (top 27), [], []⟩
def d__law_one_right : He.DefD := ⟨("_law_one_right", none), "_law_one_right", "_law_one_right", defArgs (top 28), defBody (top 28), defScope (top 28), [], []⟩
def d__law_size_right : He.DefD := ⟨("_law_size_right", none), "_law_size_right", "_law_size_right", defArgs (top 29), defBody (top 29), defScope (top 29), [], []⟩
def d_law : He.DefD := ⟨("law", none), "law", "law", defArgs (top 30), defBody (top 30), defScope (top 30), [], []⟩
def fn : List He.DefD := [d_is_any_integer, d_is_integer, d_word_faults, d_validate_word, d_binomial, d_completions, d_check_size, d_word_count, d_word_at, d_number_of, d_changed_places, d_next_word, d_previous_word, d__law_begun, d__law_next, d__law_of, d__law_all_texts, d__law_one_right, d__law_size_right, d_law]
def fa : List He.Fa := [.glo "is_any_integer", .glo "is_integer", .glo "word_faults", .glo "validate_word", .glo "binomial", .glo "completions", .glo "check_size", .glo "word_count", .glo "word_at", .glo "number_of", .glo "changed_places", .glo "next_word", .glo "previous_word", .glo "_law_begun", .glo "_law_next", .glo "_law_of", .glo "_law_all_texts", .glo "_law_one_right", .glo "_law_size_right", .glo "law", .glo "EXCHANGED", .int "MOST_COUNTED" 500, .int "MOST_SIZE" 30, .free "bool", .free "enumerate", .free "int", .free "isinstance", .free "len", .free "list", .free "min", .free "range", .free "repr", .free "set", .free "sorted", .free "str"]
abbrev R : PySem.W.OpenRow := PySem.W.OpenLaw.row PySem.Challenge.rw_chordturn_k27_words_numbered
abbrev hk : PySem.W.Hook := hookV 4 fa fn [(fun K => He.ga K "EXCHANGED", tab_EXCHANGED.map (·.1))] "EXCHANGED" tab_EXCHANGED
def ob (s : PySem.W.SharedT) : AlV := obsVG 4 fa fn [(fun K => He.ga K "EXCHANGED", tab_EXCHANGED.map (·.1))] "EXCHANGED" tab_EXCHANGED (HandSHeadRun.getT s)
theorem ob_eq (s : PySem.W.SharedT) : ob s = hk.obs s.abs := obsVG_eq (HandSHeadRun.getT_eq s)
def loose0 : List PySem.Str := ["ChordError", "InvalidSize", "InvalidWord", "InvalidNumber", "MOST_SIZE", "EXCHANGED", "is_any_integer", "is_integer", "word_faults", "validate_word", "MOST_COUNTED", "binomial", "completions", "check_size", "word_count", "word_at", "number_of", "changed_places", "next_word", "previous_word", "_law_begun", "_law_next", "_law_of", "_law_all_texts"]
def loose1 : List PySem.Str := ["_law_one_right", "_law_size_right"]
def loose : List PySem.Str := loose0 ++ loose1
theorem run (w : World) : HandSHeadRun.RunEq R (PySem.W.view R.prog [30]) hk ob 2000 loose w := by
  refine PySem.W.byRow2 "special-get-raises" (P := fun w => HandSHeadRun.RunEq R (PySem.W.view R.prog [30]) hk ob 2000 loose w) ?_ ?_ w
  · intro w os
    kernel_rfl
  · intro w os
    kernel_rfl
theorem facts {w : World} {K : Fr} {h : Heap} {mg : PySem.Str → Option Value} (X : K.In h) (G : h.Ns mainGlobals mg) (c : SaysV fa fn [(fun K => He.ga K "EXCHANGED", tab_EXCHANGED.map (·.1))] "EXCHANGED" tab_EXCHANGED w K) (base : Heap) : DefOk (PySem.Challenge.rw_chordturn_k27_words_numbered).prog w K mg base 7 "law" (top 30) ["script"] S_law := by
  have cd := c.t.d
  have n : Ns w K mg := ⟨⟨He.glo_ok X G (cd.fact 20 rfl), c.table⟩, He.int_ok X G (cd.fact 21 rfl), He.int_ok X G (cd.fact 22 rfl), He.free_ok X G (cd.fact 23 rfl), He.free_ok X G (cd.fact 24 rfl), He.free_ok X G (cd.fact 25 rfl), He.free_ok X G (cd.fact 26 rfl), He.free_ok X G (cd.fact 27 rfl), He.free_ok X G (cd.fact 28 rfl), He.free_ok X G (cd.fact 29 rfl), He.free_ok X G (cd.fact 30 rfl), He.free_ok X G (cd.fact 31 rfl), He.free_ok X G (cd.fact 32 rfl), He.free_ok X G (cd.fact 33 rfl), He.free_ok X G (cd.fact 34 rfl)⟩
  have D_is_any_integer := W_is_any_integer (P := (PySem.Challenge.rw_chordturn_k27_words_numbered).prog) (base := base) n ⟨_, (cd.def_ 0 (d := d_is_any_integer) rfl).choose, He.glo_ok X G (cd.fact 0 (f := .glo "is_any_integer") rfl), (cd.def_ 0 (d := d_is_any_integer) rfl).choose_spec⟩
  have D_is_integer := W_is_integer (P := (PySem.Challenge.rw_chordturn_k27_words_numbered).prog) (base := base) n ⟨_, (cd.def_ 1 (d := d_is_integer) rfl).choose, He.glo_ok X G (cd.fact 1 (f := .glo "is_integer") rfl), (cd.def_ 1 (d := d_is_integer) rfl).choose_spec⟩ D_is_any_integer
  have D_word_faults := W_word_faults (P := (PySem.Challenge.rw_chordturn_k27_words_numbered).prog) (base := base) n ⟨_, (cd.def_ 2 (d := d_word_faults) rfl).choose, He.glo_ok X G (cd.fact 2 (f := .glo "word_faults") rfl), (cd.def_ 2 (d := d_word_faults) rfl).choose_spec⟩
  have D_validate_word := W_validate_word (P := (PySem.Challenge.rw_chordturn_k27_words_numbered).prog) (base := base) n ⟨_, (cd.def_ 3 (d := d_validate_word) rfl).choose, He.glo_ok X G (cd.fact 3 (f := .glo "validate_word") rfl), (cd.def_ 3 (d := d_validate_word) rfl).choose_spec⟩ D_word_faults
  have D_binomial := W_binomial (P := (PySem.Challenge.rw_chordturn_k27_words_numbered).prog) (base := base) n ⟨_, (cd.def_ 4 (d := d_binomial) rfl).choose, He.glo_ok X G (cd.fact 4 (f := .glo "binomial") rfl), (cd.def_ 4 (d := d_binomial) rfl).choose_spec⟩
  have D_completions := W_completions (P := (PySem.Challenge.rw_chordturn_k27_words_numbered).prog) (base := base) n ⟨_, (cd.def_ 5 (d := d_completions) rfl).choose, He.glo_ok X G (cd.fact 5 (f := .glo "completions") rfl), (cd.def_ 5 (d := d_completions) rfl).choose_spec⟩ D_binomial
  have D_check_size := W_check_size (P := (PySem.Challenge.rw_chordturn_k27_words_numbered).prog) (base := base) n ⟨_, (cd.def_ 6 (d := d_check_size) rfl).choose, He.glo_ok X G (cd.fact 6 (f := .glo "check_size") rfl), (cd.def_ 6 (d := d_check_size) rfl).choose_spec⟩ D_is_integer
  have D_word_count := W_word_count (P := (PySem.Challenge.rw_chordturn_k27_words_numbered).prog) (base := base) n ⟨_, (cd.def_ 7 (d := d_word_count) rfl).choose, He.glo_ok X G (cd.fact 7 (f := .glo "word_count") rfl), (cd.def_ 7 (d := d_word_count) rfl).choose_spec⟩ D_check_size D_completions
  have D_word_at := W_word_at (P := (PySem.Challenge.rw_chordturn_k27_words_numbered).prog) (base := base) n ⟨_, (cd.def_ 8 (d := d_word_at) rfl).choose, He.glo_ok X G (cd.fact 8 (f := .glo "word_at") rfl), (cd.def_ 8 (d := d_word_at) rfl).choose_spec⟩ D_check_size D_completions D_is_integer
  have D_number_of := W_number_of (P := (PySem.Challenge.rw_chordturn_k27_words_numbered).prog) (base := base) n ⟨_, (cd.def_ 9 (d := d_number_of) rfl).choose, He.glo_ok X G (cd.fact 9 (f := .glo "number_of") rfl), (cd.def_ 9 (d := d_number_of) rfl).choose_spec⟩ D_completions D_validate_word
  have D_changed_places := W_changed_places (P := (PySem.Challenge.rw_chordturn_k27_words_numbered).prog) (base := base) n ⟨_, (cd.def_ 10 (d := d_changed_places) rfl).choose, He.glo_ok X G (cd.fact 10 (f := .glo "changed_places") rfl), (cd.def_ 10 (d := d_changed_places) rfl).choose_spec⟩
  have D_next_word := W_next_word (P := (PySem.Challenge.rw_chordturn_k27_words_numbered).prog) (base := base) n ⟨_, (cd.def_ 11 (d := d_next_word) rfl).choose, He.glo_ok X G (cd.fact 11 (f := .glo "next_word") rfl), (cd.def_ 11 (d := d_next_word) rfl).choose_spec⟩ D_changed_places D_validate_word
  have D_previous_word := W_previous_word (P := (PySem.Challenge.rw_chordturn_k27_words_numbered).prog) (base := base) n ⟨_, (cd.def_ 12 (d := d_previous_word) rfl).choose, He.glo_ok X G (cd.fact 12 (f := .glo "previous_word") rfl), (cd.def_ 12 (d := d_previous_word) rfl).choose_spec⟩ D_changed_places D_validate_word
  have D__law_begun := W__law_begun (P := (PySem.Challenge.rw_chordturn_k27_words_numbered).prog) (base := base) n ⟨_, (cd.def_ 13 (d := d__law_begun) rfl).choose, He.glo_ok X G (cd.fact 13 (f := .glo "_law_begun") rfl), (cd.def_ 13 (d := d__law_begun) rfl).choose_spec⟩
  have D__law_next := W__law_next (P := (PySem.Challenge.rw_chordturn_k27_words_numbered).prog) (base := base) n ⟨_, (cd.def_ 14 (d := d__law_next) rfl).choose, He.glo_ok X G (cd.fact 14 (f := .glo "_law_next") rfl), (cd.def_ 14 (d := d__law_next) rfl).choose_spec⟩
  have D__law_of := W__law_of (P := (PySem.Challenge.rw_chordturn_k27_words_numbered).prog) (base := base) n ⟨_, (cd.def_ 15 (d := d__law_of) rfl).choose, He.glo_ok X G (cd.fact 15 (f := .glo "_law_of") rfl), (cd.def_ 15 (d := d__law_of) rfl).choose_spec⟩ D__law_next
  have D__law_all_texts := W__law_all_texts (P := (PySem.Challenge.rw_chordturn_k27_words_numbered).prog) (base := base) n ⟨_, (cd.def_ 16 (d := d__law_all_texts) rfl).choose, He.glo_ok X G (cd.fact 16 (f := .glo "_law_all_texts") rfl), (cd.def_ 16 (d := d__law_all_texts) rfl).choose_spec⟩
  have D__law_one_right := W__law_one_right (P := (PySem.Challenge.rw_chordturn_k27_words_numbered).prog) (base := base) n ⟨_, (cd.def_ 17 (d := d__law_one_right) rfl).choose, He.glo_ok X G (cd.fact 17 (f := .glo "_law_one_right") rfl), (cd.def_ 17 (d := d__law_one_right) rfl).choose_spec⟩ D_next_word D_number_of D_previous_word D_word_at
  have D__law_size_right := W__law_size_right (P := (PySem.Challenge.rw_chordturn_k27_words_numbered).prog) (base := base) n ⟨_, (cd.def_ 18 (d := d__law_size_right) rfl).choose, He.glo_ok X G (cd.fact 18 (f := .glo "_law_size_right") rfl), (cd.def_ 18 (d := d__law_size_right) rfl).choose_spec⟩ D__law_all_texts D__law_one_right D_word_count
  have D_law := W_law (P := (PySem.Challenge.rw_chordturn_k27_words_numbered).prog) (base := base) n ⟨_, (cd.def_ 19 (d := d_law) rfl).choose, He.glo_ok X G (cd.fact 19 (f := .glo "law") rfl), (cd.def_ 19 (d := d_law) rfl).choose_spec⟩ D__law_begun D__law_next D__law_size_right
  exact D_law
end k27
open PySem PySem.W PySem.Calls PyProof.Rows
theorem PySem.Challenge.cw_chordturn_k27_words_numbered_holds : PySem.Challenge.rw_chordturn_k27_words_numbered.Holds := by
  w_on; o_law
  refine HandSHeadRun.head_any (r := OpenLaw.row PySem.Challenge.rw_chordturn_k27_words_numbered) (q := view (OpenLaw.row PySem.Challenge.rw_chordturn_k27_words_numbered).prog [30]) (H := k27.hk) (ob := k27.ob) (M := 2000) (loose := k27.loose) (d := HandSHeadRun.topDef (OpenLaw.row PySem.Challenge.rw_chordturn_k27_words_numbered).prog 30) (kwd := []) k27.ob_eq
    (by kernel_rfl) (fun s => by kernel_rfl) k27.run (by kernel_rfl) (by kernel_rfl) (by kernel_rfl) (by rfl) (by first | assumption | decide +kernel) (by decide +kernel) ⟨rfl, rfl, rfl, rfl, rfl, by decide +kernel⟩ ?hw ?hc
  case hw => w_witness2
  case hc =>
    refine Fd.walk_end (l := PySem.Challenge.rw_chordturn_k27_words_numbered) (n := 63) (k := 7) (x := "script") (sem := k27.S_law) rfl (by decide) (by kernel_rfl) ⟨rfl, by decide, by decide⟩ k27.law_sem ?F
    intro w mg f h Y G hmg0
    obtain ⟨K, KX, c⟩ := Y
    have hmg : mg ("law" : PySem.Str) = some (.ref f) := by
      have e : (HandSHeadRun.topDef (OpenLaw.row PySem.Challenge.rw_chordturn_k27_words_numbered).prog 30).name = ("law" : PySem.Str) := by kernel_rfl
      rw [← e]
      exact hmg0
    obtain ⟨f0, fd, m, F, _⟩ := (k27.facts (w := w) KX G c h).ex
    have e : f0 = f := by rw [hmg] at m; cases m; rfl
    subst e
    have b := L2.FunD.bindsA (ps := ["script"]) F fun _ _ _ _ _ _ us hl => match us, hl with | [_], _ => rfl
    refine ⟨K, KX, fd, fun s v => b s [v] rfl, fun base kin ns => ?_⟩
    obtain ⟨f1, fd1, m1, F1, G1⟩ := (k27.facts (w := w) KX G c base).ex
    have e1 : f1 = f0 := by rw [hmg] at m1; cases m1; rfl
    subst e1
    have e2 : fd1 = fd := by
      obtain ⟨_, _, _, _, _, _, _, _, _, _, _, l1, _⟩ := F1.ex
      obtain ⟨_, _, _, _, _, _, _, _, _, _, _, l2, _⟩ := F.ex
      rw [l1] at l2
      cases l2
      rfl
    subst e2
    exact G1
