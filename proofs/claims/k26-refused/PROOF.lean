import PyProof.Rows.All
import Wide.All
import OpenK.AllK
import Wide.FinOn
import HandS.ForMost
import HandS.ForExc
import HandS.ExcIs
import HandS.IsInst
import HandS.Strs
import HandS.Wide
import HandS.More
import HandS.Flow
import HandS.TupAny
import HandS.TryMany
import HandS.SuiteRaise
import HandS.Head0
import HandS.Head1
import HandS.Head2
import HandS.HeadEnd
import HandS.HeadHook1
import HandS.HeadHook2
import PyProof.SeqIndex
import HandS.HotCalls
import PySem.Challenge.RW_slipring_k26_rows_of_marks_refused
import KE.KStateDown
section TxMini
/-! Mini: a small deterministic reading of the Python used here, by weakest preconditions.
Own work. Values: tuples are plain values; lists, dicts, instances lie in a heap of regions (one arena a region). -/
set_option autoImplicit false
set_option linter.all false
namespace Mi

inductive MV where
  | non | bl (b : Bool) | int (i : Int) | str (s : String) | tup (xs : List MV) | cst (xs : List MV) | ref (r i : Nat) | exc (a : Nat)

inductive MO where
  | lst (xs : List MV) | dic (kvs : List (MV × MV)) | ins (c : String) (fs : List (String × MV))

abbrev MH := Nat → List MO
abbrev MS := List (Option MV)
abbrev QV := MV → MH → Prop
abbrev QX := String → MH → Prop
abbrev WE := MS → MH → QV → QX → Prop
abbrev WA := MS → MH → (List MV → MH → Prop) → QX → Prop
abbrev WT := MS → MH → (Bool → MH → Prop) → QX → Prop
abbrev WG := MV → MS → MH → (MS → MH → Prop) → QX → Prop
abbrev WF := List MV → MH → QV → QX → Prop
structure En where
  nx : MS → MH → Prop
  rt : QV
  bk : MS → MH → Prop
  ct : MS → MH → Prop
  ex : String → MS → MH → Prop
abbrev WS := En → MS → MH → Prop
/-- what a loop walks: the items, and what has to stay meanwhile -/
structure Src where
  xs : List MV
  chk : MH → Prop
abbrev WI := MS → MH → (Src → MH → Prop) → QX → Prop

def lim : Nat := 1000000
/-! ### the heap -/
def rd (h : MH) (r i : Nat) : Option MO := (h r)[i]?
def put (h : MH) (r : Nat) (l : List MO) : MH := fun q => if q = r then l else h q
def wr (h : MH) (r i : Nat) (o : MO) : MH := put h r ((h r).set i o)
def al (h : MH) (r : Nat) (o : MO) : MH := put h r (h r ++ [o])
theorem put_same (h : MH) (r : Nat) (l : List MO) : put h r l r = l := if_pos rfl
theorem put_ne (h : MH) {r q : Nat} (l : List MO) (e : q ≠ r) : put h r l q = h q := if_neg e
theorem put_put (h : MH) (r : Nat) (l m : List MO) : put (put h r l) r m = put h r m := by
  funext q; unfold put; split <;> rfl
theorem put_self (h : MH) (r : Nat) : put h r (h r) = h := by
  funext q; unfold put; split
  · rename_i e; rw [e]
  · rfl
theorem put_comm (h : MH) {r q : Nat} (l m : List MO) (e : r ≠ q) : put (put h r l) q m = put (put h q m) r l := by
  funext p; unfold put
  by_cases e1 : p = q
  · subst e1; rw [if_pos rfl, if_neg (fun z => e z.symm), if_pos rfl]
  · rw [if_neg e1]
    by_cases e2 : p = r
    · rw [if_pos e2, if_pos e2]
    · rw [if_neg e2, if_neg e2, if_neg e1]

/-! ### plain data, for == -/
inductive PD where
  | non | bl (b : Bool) | int (i : Int) | str (s : String) | tup (xs : List PD) | lst (xs : List PD)
mutual
def PD.eqv : PD → PD → Bool
  | .non, .non => true
  | .bl a, .bl b => a == b
  | .bl a, .int j => (if a then 1 else 0) == j
  | .int i, .bl b => i == (if b then 1 else 0)
  | .int i, .int j => decide (i = j)
  | .str x, .str y => decide (x = y)
  | .tup xs, .tup ys => PD.eqvs xs ys
  | .lst xs, .lst ys => PD.eqvs xs ys
  | _, _ => false
def PD.eqvs : List PD → List PD → Bool
  | [], [] => true
  | x :: xs, y :: ys => PD.eqv x y && PD.eqvs xs ys
  | _, _ => false
end
/-- the data of a value, lists read in the heap to the depth n -/
def dat (h : MH) : Nat → MV → Option PD
  | _, .non => some .non
  | _, .bl b => some (.bl b)
  | _, .int i => some (.int i)
  | _, .str s => some (.str s)
  | 0, _ => none
  | n + 1, .tup xs => (xs.mapM (dat h n)).map .tup
  | n + 1, .cst xs => (xs.mapM (dat h n)).map .lst
  | n + 1, .ref r i => match rd h r i with
    | some (.lst xs) => (xs.mapM (dat h n)).map .lst
    | _ => none
  | _, .exc _ => none
def deep : Nat := 8

/-- == of flat values -/
@[simp] def flat : MV → Bool
  | .non => true | .bl _ => true | .int _ => true | .str _ => true | _ => false
@[simp] def eqF : MV → MV → Bool
  | .non, .non => true
  | .bl a, .bl b => a == b
  | .bl a, .int b => (if a then 1 else 0) == b
  | .int a, .bl b => a == (if b then 1 else 0)
  | .int a, .int b => decide (a = b)
  | .str a, .str b => decide (a = b)
  | _, _ => false

/-! ### operations by values -/
abbrev Op2 := MV → MV → MH → QV → Prop
abbrev Op1 := MV → MH → QV → Prop
def small (i : Int) : Prop := -(2 ^ 63) < i ∧ i < 2 ^ 63
@[simp ↓] def oAdd (r : Nat) : Op2
  | .int i, .int j, h, Q => Q (.int (i + j)) h
  | .str a, .str b, h, Q => a.length + b.length ≤ lim ∧ Q (.str (a ++ b)) h
  | .tup a, .tup b, h, Q => a.length + b.length ≤ lim ∧ Q (.tup (a ++ b)) h
  | .ref p i, .ref q j, h, Q => match rd h p i, rd h q j with
    | some (.lst a), some (.lst b) => a.length + b.length ≤ lim ∧ Q (.ref r (h r).length) (al h r (.lst (a ++ b)))
    | _, _ => False
  | _, _, _, _ => False
@[simp ↓] def oSub : Op2
  | .int i, .int j, h, Q => Q (.int (i - j)) h
  | _, _, _, _ => False
def rep (xs : List MV) (n : Nat) : List MV := (List.replicate n xs).flatten
@[simp ↓] def oMul (r : Nat) : Op2
  | .int i, .int j, h, Q => (small i ∨ small j) ∧ Q (.int (i * j)) h
  | .ref p i, .int k, h, Q => match rd h p i with
    | some (.lst a) => small k ∧ k ≤ lim ∧ a.length * k.toNat ≤ lim ∧ Q (.ref r (h r).length) (al h r (.lst (rep a k.toNat)))
    | _ => False
  | _, _, _, _ => False
/-- the greatest divisor of a floor division -/
def dmax : Int := 10 ^ 60
@[simp ↓] def oDiv : Op2
  | .int i, .int j, h, Q => 0 < j ∧ j ≤ dmax ∧ Q (.int (i / j)) h
  | _, _, _, _ => False
@[simp ↓] def oMod : Op2
  | .int i, .int j, h, Q => 0 < j ∧ Q (.int (i % j)) h
  | _, _, _, _ => False
@[simp ↓] def oPow : Op2
  | .int i, .int j, h, Q => 0 ≤ j ∧ j ≤ 1000 ∧ small i ∧ Q (.int (i ^ j.toNat)) h
  | _, _, _, _ => False
@[simp ↓] def oLt : Op2
  | .int i, .int j, h, Q => Q (.bl (decide (i < j))) h
  | _, _, _, _ => False
@[simp ↓] def oLe : Op2
  | .int i, .int j, h, Q => Q (.bl (decide (i ≤ j))) h
  | _, _, _, _ => False
@[simp ↓] def oGt : Op2
  | .int i, .int j, h, Q => Q (.bl (decide (j < i))) h
  | _, _, _, _ => False
@[simp ↓] def oGe : Op2
  | .int i, .int j, h, Q => Q (.bl (decide (j ≤ i))) h
  | _, _, _, _ => False
@[simp] def oEq : Op2 := fun x y h Q => match dat h deep x, dat h deep y with
  | some d, some e => Q (.bl (PD.eqv d e)) h
  | _, _ => False
@[simp] def oNe : Op2 := fun x y h Q => match dat h deep x, dat h deep y with
  | some d, some e => Q (.bl (!PD.eqv d e)) h
  | _, _ => False
@[simp] def isN : MV → Bool
  | .non => true | _ => false
@[simp] def oIsN : Op2 := fun x y h Q => match y with
  | .non => Q (.bl (isN x)) h
  | _ => False
/-- is True, is not True, of truths -/
@[simp] def oIsB : Op2 := fun x y h Q => match x, y with
  | .bl a, .bl b => Q (.bl (a == b)) h
  | _, _ => False
@[simp] def oNotB : Op2 := fun x y h Q => match x, y with
  | .bl a, .bl b => Q (.bl (!(a == b))) h
  | _, _ => False
@[simp] def oNotN : Op2 := fun x y h Q => match y with
  | .non => Q (.bl (!isN x)) h
  | _ => False
def hasKey (k : MV) (kvs : List (MV × MV)) : Bool := kvs.any fun p => eqF p.1 k
def atKey (k : MV) (kvs : List (MV × MV)) : Option MV := (kvs.find? fun p => eqF p.1 k).map (·.2)
def putKey (k v : MV) (kvs : List (MV × MV)) : List (MV × MV) := if hasKey k kvs then kvs.map fun p => if eqF p.1 k then (p.1, v) else p else kvs ++ [(k, v)]
@[simp] def isKey : MV → Bool
  | .int _ => true | .str _ => true | _ => false
def inB (x y : MV) (h : MH) : Option Bool := match y with
  | .tup ys => if flat x && ys.all flat then some (ys.any fun y => eqF y x) else none
  | .cst ys => if flat x && ys.all flat then some (ys.any fun y => eqF y x) else none
  | .ref r i => match rd h r i with
    | some (.lst ys) => if flat x && ys.all flat then some (ys.any fun y => eqF y x) else none
    | some (.dic kvs) => if isKey x then some (hasKey x kvs) else none
    | _ => none
  | .str z => match x with
    | .str c => match c.toList with
      | [c] => some (z.toList.any fun d => decide (d = c))
      | _ => none
    | _ => none
  | _ => none
@[simp] def oIn : Op2 := fun x y h Q => match inB x y h with
  | some b => Q (.bl b) h
  | none => False
@[simp] def oNotIn : Op2 := fun x y h Q => match inB x y h with
  | some b => Q (.bl (!b)) h
  | none => False
/-- the place that an index means -/
def ixN (n : Nat) (i : Int) : Option Nat := if 0 ≤ i then (if i < n then some i.toNat else none) else if -(n : Int) ≤ i then some (i + n).toNat else none
def atI {α : Type} (xs : List α) (i : Int) : Option α := (ixN xs.length i).bind fun j => xs[j]?
@[simp] def getIx (x k : MV) (h : MH) : Option MV := match x, k with
  | .tup xs, .int i => atI xs i
  | .cst xs, .int i => atI xs i
  | .str s, .int i => if s.length ≤ lim then (atI s.toList i).map fun c => .str (String.singleton c) else none
  | .ref r j, k => match rd h r j, k with
    | some (.lst xs), .int i => atI xs i
    | some (.dic kvs), k => if isKey k then atKey k kvs else none
    | _, _ => none
  | _, _ => none
@[simp] def oIx : Op2 := fun x k h Q => match getIx x k h with
  | some v => Q v h
  | none => False
@[simp ↓] def uNeg : Op1
  | .int i, h, Q => Q (.int (-i)) h
  | _, _, _ => False
def sIx (n d : Nat) : Option Int → Nat
  | none => d
  | some i => if i < 0 then (i + n).toNat else min i.toNat n
def cut {α : Type} (xs : List α) (lo hi : Option Int) : List α := (xs.drop (sIx xs.length 0 lo)).take (sIx xs.length xs.length hi - sIx xs.length 0 lo)
/-- truth -/
@[simp] def tru (h : MH) : MV → Option Bool
  | .non => some false
  | .bl b => some b
  | .int i => some (decide (i ≠ 0))
  | .str s => if s.length ≤ lim then some (decide (s ≠ "")) else none
  | .tup xs => some (!xs.isEmpty)
  | .cst xs => some (!xs.isEmpty)
  | .ref r i => match rd h r i with
    | some (.lst xs) => some (!xs.isEmpty)
    | some (.dic kvs) => some (!kvs.isEmpty)
    | _ => none
  | .exc _ => none

/-! ### expressions -/
@[simp] def wV (i : Nat) : WE := fun σ h Q _ => match σ[i]? with
  | some (some v) => Q v h
  | _ => False
@[simp] def wC (v : MV) : WE := fun _ h Q _ => Q v h
@[simp] def wOp (o : Op2) (a b : WE) : WE := fun σ h Q E => a σ h (fun x h1 => b σ h1 (fun y h2 => o x y h2 Q) E) E
@[simp] def wUn (o : Op1) (a : WE) : WE := fun σ h Q E => a σ h (fun x h1 => o x h1 Q) E
@[simp] def wChain (o o' : Op2) (a b c : WE) : WE := fun σ h Q E => a σ h (fun x h1 => b σ h1 (fun y h2 => o x y h2 fun z h3 => match z with
  | .bl k => if k = true then c σ h3 (fun w h4 => o' y w h4 Q) E else Q (.bl false) h3
  | _ => False) E) E
@[simp] def wIf (t : WT) (a b : WE) : WE := fun σ h Q E => t σ h (fun k h1 => if k = true then a σ h1 Q E else b σ h1 Q E) E
@[simp] def wAndV (a b : WE) : WE := fun σ h Q E => a σ h (fun x h1 => match x with
  | .bl k => if k = true then b σ h1 Q E else Q (.bl false) h1
  | _ => False) E
@[simp] def wOrV (a b : WE) : WE := fun σ h Q E => a σ h (fun x h1 => match x with
  | .bl k => if k = true then Q (.bl true) h1 else b σ h1 Q E
  | _ => False) E
@[simp] def wNot (t : WT) : WE := fun σ h Q E => t σ h (fun k h1 => Q (.bl (!k)) h1) E
/-! tests -/
@[simp] def tV (a : WE) : WT := fun σ h Q E => a σ h (fun x h1 => match x with
  | .bl k => Q k h1
  | _ => False) E
@[simp] def tTru (a : WE) : WT := fun σ h Q E => a σ h (fun x h1 => match tru h1 x with
  | some k => Q k h1
  | none => False) E
@[simp] def tAnd (a b : WT) : WT := fun σ h Q E => a σ h (fun k h1 => if k = true then b σ h1 Q E else Q false h1) E
@[simp] def tOr (a b : WT) : WT := fun σ h Q E => a σ h (fun k h1 => if k = true then Q true h1 else b σ h1 Q E) E
@[simp] def tNot (a : WT) : WT := fun σ h Q E => a σ h (fun k h1 => Q (!k) h1) E
@[simp] def tYes : WT := fun _ h Q _ => Q true h
/-! argument lists, displays -/
@[simp] def aNil : WA := fun _ h Q _ => Q [] h
@[simp] def aCons (a : WE) (b : WA) : WA := fun σ h Q E => a σ h (fun x h1 => b σ h1 (fun xs h2 => Q (x :: xs) h2) E) E
@[simp] def wTup (a : WA) : WE := fun σ h Q E => a σ h (fun xs h1 => xs.length ≤ lim ∧ Q (.tup xs) h1) E
@[simp] def wLst (r : Nat) (a : WA) : WE := fun σ h Q E => a σ h (fun xs h1 => xs.length ≤ lim ∧ Q (.ref r (h1 r).length) (al h1 r (.lst xs))) E
/-- calls -/
@[simp] def wCall (F : WF) (a : WA) : WE := fun σ h Q E => a σ h (fun vs h1 => F vs h1 Q E) E
@[simp] def wMeth (tb : String → Option WF) (o : WE) (a : WA) : WE := fun σ h Q E => o σ h (fun x h1 => match x with
  | .ref r i => match rd h1 r i with
    | some (.ins c _) => match tb c with
      | some F => a σ h1 (fun vs h2 => F (x :: vs) h2 Q E) E
      | none => False
    | _ => False
  | _ => False) E
@[simp] def wMake (c : String) (r : Nat) (F : WF) (a : WA) : WE := fun σ h Q E => a σ h (fun vs h1 =>
  F (.ref r (h1 r).length :: vs) (al h1 r (.ins c [])) (fun v h2 => match v with
    | .non => Q (.ref r (h1 r).length) h2
    | _ => False) E) E
@[simp] def wB (b : List MV → MH → QV → Prop) (a : WA) : WE := fun σ h Q E => a σ h (fun vs h1 => b vs h1 Q) E
@[simp] def hasTy (t : String) (h : MH) : MV → Bool
  | .str _ => t == "str"
  | .ref r i => match rd h r i with
    | some (.lst _) => t == "list"
    | some (.dic _) => t == "dict"
    | _ => false
  | _ => false
@[simp] def wBM (t : String) (b : MV → List MV → MH → QV → Prop) (o : WE) (a : WA) : WE := fun σ h Q E => o σ h (fun x h1 => hasTy t h1 x = true ∧ a σ h1 (fun vs h2 => b x vs h2 Q) E) E
@[simp] def wFld (a : WE) (f : String) : WE := fun σ h Q E => a σ h (fun x h1 => match x with
  | .ref r i => match rd h1 r i with
    | some (.ins _ fs) => match fs.lookup f with
      | some v => Q v h1
      | none => False
    | _ => False
  | _ => False) E
/-- slices -/
abbrev WO := MS → MH → (Option Int → MH → Prop) → QX → Prop
@[simp] def pNone : WO := fun _ h Q _ => Q none h
@[simp] def pSome (a : WE) : WO := fun σ h Q E => a σ h (fun x h1 => match x with
  | .int i => Q (some i) h1
  | _ => False) E
@[simp] def wSl (r : Nat) (a : WE) (lo hi : WO) : WE := fun σ h Q E => a σ h (fun x h1 => lo σ h1 (fun l h2 => hi σ h2 (fun u h3 => match x with
  | .tup xs => Q (.tup (cut xs l u)) h3
  | .str s => s.length ≤ lim ∧ Q (.str (String.ofList (cut s.toList l u))) h3
  | .cst xs => Q (.ref r (h3 r).length) (al h3 r (.lst (cut xs l u)))
  | .ref q i => match rd h3 q i with
    | some (.lst xs) => Q (.ref r (h3 r).length) (al h3 r (.lst (cut xs l u)))
    | _ => False
  | _ => False) E) E) E
/-! targets -/
@[simp] def gN (i : Nat) : WG := fun v σ h Q _ => Q (σ.set i (some v)) h
@[simp] def setIx (x k v : MV) (h : MH) : Option MH := match x, k with
  | .ref r j, k => match rd h r j, k with
    | some (.lst xs), .int i => (ixN xs.length i).map fun n => wr h r j (.lst (xs.set n v))
    | some (.dic kvs), k => if isKey k && decide (kvs.length < lim) then some (wr h r j (.dic (putKey k v kvs))) else none
    | _, _ => none
  | _, _ => none
@[simp] def gIx (o k : WE) : WG := fun v σ h Q E => o σ h (fun x h1 => k σ h1 (fun y h2 => match setIx x y v h2 with
  | some h3 => Q σ h3
  | none => False) E) E
def putF (f : String) (v : MV) : List (String × MV) → List (String × MV)
  | [] => [(f, v)]
  | p :: l => if f = p.1 then (p.1, v) :: l else p :: putF f v l
@[simp] def gFld (o : WE) (f : String) : WG := fun v σ h Q E => o σ h (fun x h1 => match x with
  | .ref r i => match rd h1 r i with
    | some (.ins c fs) => fs.length < 1000 ∧ Q σ (wr h1 r i (.ins c (putF f v fs)))
    | _ => False
  | _ => False) E
abbrev WGs := List MV → MS → MH → (MS → MH → Prop) → QX → Prop
@[simp] def gNil : WGs := fun vs σ h Q _ => match vs with
  | [] => Q σ h
  | _ => False
@[simp] def gCons (g : WG) (gs : WGs) : WGs := fun vs σ h Q E => match vs with
  | v :: vs => g v σ h (fun σ1 h1 => gs vs σ1 h1 Q fun _ _ => False) E
  | [] => False
@[simp] def gTup (n : Nat) (gs : WGs) : WG := fun v σ h Q E => match v with
  | .tup xs => xs.length = n ∧ gs xs σ h Q E
  | _ => False
/-! statements -/
@[simp] def sNx : WS := fun D σ h => D.nx σ h
@[simp] def sSeq (a b : WS) : WS := fun D σ h => a { D with nx := b D } σ h
@[simp] def sAsg (e : WE) (g : WG) : WS := fun D σ h => e σ h (fun x h1 => g x σ h1 D.nx fun c h2 => D.ex c σ h2) fun c h1 => D.ex c σ h1
@[simp] def sEx (e : WE) : WS := fun D σ h => e σ h (fun _ h1 => D.nx σ h1) fun c h1 => D.ex c σ h1
@[simp] def sRet (e : WE) : WS := fun D σ h => e σ h D.rt fun c h1 => D.ex c σ h1
@[simp] def sRetN : WS := fun D _ h => D.rt .non h
@[simp] def sIf (t : WT) (a b : WS) : WS := fun D σ h => t σ h (fun k h1 => if k = true then a D σ h1 else b D σ h1) fun c h1 => D.ex c σ h1
@[simp] def sBrk : WS := fun D σ h => D.bk σ h
@[simp] def sCnt : WS := fun D σ h => D.ct σ h
@[simp] def sRaise (c : String) : WS := fun D σ h => D.ex c σ h
def whileN (t : WT) (b : WS) : Nat → WS
  | 0 => fun _ _ _ => False
  | n + 1 => fun D σ h => t σ h (fun k h1 => if k = true then b { D with nx := whileN t b n D, ct := whileN t b n D, bk := D.nx } σ h1 else D.nx σ h1) fun c h1 => D.ex c σ h1
@[simp] def sWhile (t : WT) (b : WS) : WS := fun D σ h => ∃ n, whileN t b n D σ h
def forR (chk : MH → Prop) (g : WG) (b : WS) : List MV → WS
  | [] => fun D σ h => chk h ∧ D.nx σ h
  | x :: xs => fun D σ h => chk h ∧ g x σ h (fun σ1 h1 => b { D with nx := forR chk g b xs D, ct := forR chk g b xs D, bk := D.nx } σ1 h1) fun c h1 => D.ex c σ h1
theorem forL_ex : ∃ f : (MH → Prop) → WG → WS → List MV → WS, f = forR := ⟨_, rfl⟩
noncomputable def forL : (MH → Prop) → WG → WS → List MV → WS := Classical.choose forL_ex
theorem forL_eq : forL = forR := Classical.choose_spec forL_ex
@[simp] noncomputable def sFor (i : WI) (g : WG) (b : WS) : WS := fun D σ h => i σ h (fun s h1 => forL s.chk g b s.xs D σ h1) fun c h1 => D.ex c σ h1
@[simp] def lstOf (h : MH) : MV → Option (List MV)
  | .ref r i => match rd h r i with
    | some (.lst xs) => some xs
    | _ => none
  | .cst xs => some xs
  | _ => none
/-! what is walked -/
@[simp] def iSeq (a : WE) : WI := fun σ h R E => a σ h (fun x h1 => match x with
  | .tup xs => R ⟨xs, fun _ => True⟩ h1
  | .cst xs => R ⟨xs, fun _ => True⟩ h1
  | .ref r i => match rd h1 r i with
    | some (.lst xs) => R ⟨xs, fun h' => rd h' r i = some (.lst xs)⟩ h1
    | _ => False
  | _ => False) E
def rng (lo : Int) (n : Nat) : List MV := (List.range n).map fun (k : Nat) => .int (lo + (k : Int))
def big (i : Int) : Prop := -(2 ^ 62) ≤ i ∧ i < 2 ^ 62
@[simp] def iRng1 (a : WE) : WI := fun σ h R E => a σ h (fun x h1 => match x with
  | .int j => big j ∧ R ⟨rng 0 j.toNat, fun _ => True⟩ h1
  | _ => False) E
@[simp] def iRng2 (a b : WE) : WI := fun σ h R E => a σ h (fun x h1 => b σ h1 (fun y h2 => match x, y with
  | .int i, .int j => big i ∧ big j ∧ R ⟨rng i (j - i).toNat, fun _ => True⟩ h2
  | _, _ => False) E) E
/-- zip of two lists, and enumerate of one -/
@[simp] def iZip (a b : WE) : WI := fun σ h R E => a σ h (fun x h1 => b σ h1 (fun y h2 => match lstOf h2 x, lstOf h2 y with
  | some xs, some ys => R ⟨(xs.zip ys).map fun p => .tup [p.1, p.2], fun h' => lstOf h' x = some xs ∧ lstOf h' y = some ys⟩ h2
  | _, _ => False) E) E
def enumF (n : Nat) : List MV → List MV
  | [] => []
  | x :: xs => .tup [.int n, x] :: enumF (n + 1) xs
@[simp] def iEnum (a : WE) : WI := fun σ h R E => a σ h (fun x h1 => match lstOf h1 x with
  | some xs => R ⟨enumF 0 xs, fun h' => lstOf h' x = some xs⟩ h1
  | none => False) E
/-! comprehensions -/
def compR (r : Nat) (chk : MH → Prop) (i : Nat) (t : WT) (e : WE) (σ : MS) (Q : QV) : List MV → List MV → MH → Prop
  | [], acc, h => chk h ∧ Q (.ref r (h r).length) (al h r (.lst acc))
  | x :: xs, acc, h => chk h ∧ t (σ.set i (some x)) h (fun k h2 => if k = true
      then e (σ.set i (some x)) h2 (fun v h3 => acc.length < lim ∧ compR r chk i t e σ Q xs (acc ++ [v]) h3) (fun _ _ => False)
      else compR r chk i t e σ Q xs acc h2) (fun _ _ => False)
theorem compL_ex : ∃ f : Nat → (MH → Prop) → Nat → WT → WE → MS → QV → List MV → List MV → MH → Prop, f = compR := ⟨_, rfl⟩
noncomputable def compL : Nat → (MH → Prop) → Nat → WT → WE → MS → QV → List MV → List MV → MH → Prop := Classical.choose compL_ex
theorem compL_eq : compL = compR := Classical.choose_spec compL_ex
@[simp] noncomputable def wComp (r : Nat) (w : WI) (i : Nat) (t : WT) (e : WE) : WE := fun σ h Q E => w σ h (fun s h1 => compL r s.chk i t e σ Q s.xs [] h1) E
/-! defs -/
@[simp] def fnM (np nl : Nat) (body : WS) : WF := fun vs h Q E => vs.length = np ∧
  body ⟨fun _ h' => Q .non h', Q, fun _ _ => False, fun _ _ => False, fun c _ h' => E c h'⟩ (vs.map some ++ List.replicate (nl - vs.length) none) h
/-! errors -/
@[simp] def isSub (c d : String) : Bool := c == d || d == "RingError" || d == "ValueError"
@[simp] def unset (i : Option Nat) (σ : MS) : MS := match i with
  | some i => σ.set i none
  | none => σ
@[simp] def bindE (i : Option Nat) (a : Nat) (σ : MS) : MS := match i with
  | some i => σ.set i (some (.exc a))
  | none => σ
@[simp] def suEn (i : Option Nat) (D : En) : En := { D with nx := fun σ2 h2 => D.nx (unset i σ2) h2, bk := fun σ2 h2 => D.bk (unset i σ2) h2, ct := fun σ2 h2 => D.ct (unset i σ2) h2, ex := fun _ _ _ => False }
@[simp] def tryEn (cs : List String) (i : Option Nat) (su : String → Nat → WS) (D : En) : En :=
  { D with ex := fun c σ1 h1 => if cs.any (isSub c) = true then ∀ a : Nat, su c a (suEn i D) (bindE i a σ1) h1 else D.ex c σ1 h1 }
@[simp] def sTry (b : WS) (cs : List String) (i : Option Nat) (su : String → Nat → WS) : WS := fun D σ h => b (tryEn cs i su D) σ h
/-- isinstance(e, ..) of the error of the suite -/
@[simp] def wIsE (i a : Nat) (b : Bool) : WE := fun σ h Q _ => σ[i]? = some (some (.exc a)) ∧ Q (.bl b) h
/-! built-ins -/
@[simp ↓] def bLen : List MV → MH → QV → Prop
  | [.tup xs], h, Q => xs.length ≤ lim ∧ Q (.int xs.length) h
  | [.cst xs], h, Q => Q (.int xs.length) h
  | [.str s], h, Q => s.length ≤ lim ∧ Q (.int s.length) h
  | [.ref r i], h, Q => match rd h r i with
    | some (.lst xs) => Q (.int xs.length) h
    | some (.dic kvs) => Q (.int kvs.length) h
    | _ => False
  | _, _, _ => False
@[simp ↓] def bInt : List MV → MH → QV → Prop
  | [.int i], h, Q => Q (.int i) h
  | [.bl b], h, Q => Q (.int (if b then 1 else 0)) h
  | _, _, _ => False
@[simp ↓] def bMin : List MV → MH → QV → Prop
  | [.int i, .int j], h, Q => Q (.int (if j < i then j else i)) h
  | _, _, _ => False
@[simp ↓] def bMax : List MV → MH → QV → Prop
  | [.int i, .int j], h, Q => Q (.int (if j > i then j else i)) h
  | _, _, _ => False
@[simp ↓] def bAbs : List MV → MH → QV → Prop
  | [.int i], h, Q => Q (.int (if i < 0 then -i else i)) h
  | _, _, _ => False
@[simp] def allB : List MV → Option (List Bool)
  | [] => some []
  | .bl b :: l => (allB l).map (b :: ·)
  | _ => none
@[simp] def allI : List MV → Option (List Int)
  | [] => some []
  | .int i :: l => (allI l).map (i :: ·)
  | _ => none
@[simp] def seqOf (h : MH) : MV → Option (List MV)
  | .tup xs => some xs
  | x => lstOf h x
@[simp ↓] def bAll : List MV → MH → QV → Prop
  | [x], h, Q => match (lstOf h x).bind allB with
    | some bs => Q (.bl (bs.all id)) h
    | none => False
  | _, _, _ => False
@[simp ↓] def bSum : List MV → MH → QV → Prop
  | [x], h, Q => match (lstOf h x).bind allI with
    | some ns => Q (.int ns.sum) h
    | none => False
  | _, _, _ => False
@[simp ↓] def bList (r : Nat) : List MV → MH → QV → Prop
  | [x], h, Q => match seqOf h x with
    | some xs => Q (.ref r (h r).length) (al h r (.lst xs))
    | none => False
  | _, _, _ => False
@[simp ↓] def bTuple : List MV → MH → QV → Prop
  | [x], h, Q => match seqOf h x with
    | some xs => Q (.tup xs) h
    | none => False
  | _, _, _ => False
/-- the type's name -/
@[simp] def tyN (h : MH) : MV → Option String
  | .non => some "NoneType" | .bl _ => some "bool" | .int _ => some "int" | .str _ => some "str" | .tup _ => some "tuple"
  | .ref r i => match rd h r i with
    | some (.lst _) => some "list"
    | _ => none
  | _ => none
@[simp] def tySub (a b : String) : Bool := a == b || (a == "bool" && b == "int")
@[simp] def bIsi (cs : List String) (a : WE) : WE := fun σ h Q E => a σ h (fun x h1 => match tyN h1 x with
  | some t => Q (.bl (cs.any (tySub t))) h1
  | none => False) E
/-! built-in methods -/
@[simp ↓] def mAppend : MV → List MV → MH → QV → Prop
  | .ref r i, [v], h, Q => match rd h r i with
    | some (.lst xs) => xs.length < lim ∧ Q .non (wr h r i (.lst (xs ++ [v])))
    | _ => False
  | _, _, _, _ => False
@[simp ↓] def mClear : MV → List MV → MH → QV → Prop
  | .ref r i, [], h, Q => match rd h r i with
    | some (.lst _) => Q .non (wr h r i (.lst []))
    | _ => False
  | _, _, _, _ => False
def mIndex : MV → List MV → MH → QV → Prop
  | x, [y], h, Q => match lstOf h x with
    | some xs => flat y = true ∧ xs.all flat = true ∧ true ∈ xs.map (fun m => eqF m y) ∧ xs.length ≤ lim ∧ Q (.int ((xs.map fun m => eqF m y).idxOf true)) h
    | none => False
  | _, _, _, _ => False
@[simp ↓] theorem mIndex_ref (r i : Nat) (y : MV) (h : MH) (Q : QV) : mIndex (.ref r i) [y] h Q = match rd h r i with
    | some (.lst xs) => flat y = true ∧ xs.all flat = true ∧ true ∈ xs.map (fun m => eqF m y) ∧ xs.length ≤ lim ∧ Q (.int ((xs.map fun m => eqF m y).idxOf true)) h
    | _ => False := by
  show (match lstOf h (.ref r i) with
    | some xs => flat y = true ∧ xs.all flat = true ∧ true ∈ xs.map (fun m => eqF m y) ∧ xs.length ≤ lim ∧ Q (.int ((xs.map fun m => eqF m y).idxOf true)) h
    | none => False) = _
  simp only [lstOf]
  cases rd h r i with
  | none => rfl
  | some o => cases o <;> rfl
/-- NAMES.index(e), NAMES a tuple of texts of the text -/
def wTupIx (ss : List String) (a : WE) : WE := fun σ h Q E => a σ h (fun x h1 => match x with
  | .str s => match ss.findIdx? fun t => decide (t = s) with
    | some n => Q (.int n) h1
    | none => False
  | _ => False) E
/-! ### simplification -/
@[simp ↓ high] theorem gx_zero {α : Type} (a : α) (l : List α) : (a :: l)[0]? = some a := rfl
@[simp ↓ high] theorem gx_succ {α : Type} (a : α) (l : List α) (n : Nat) : (a :: l)[n + 1]? = l[n]? := rfl
@[simp ↓ high] theorem gx_end {α : Type} (a : α) (l : List α) : (l ++ [a])[l.length]? = some a := by simp
@[simp] theorem put_same' (h : MH) (r : Nat) (l : List MO) : put h r l r = l := put_same h r l
@[simp] theorem put_ne' (h : MH) {r q : Nat} (l : List MO) (e : q ≠ r) : put h r l q = h q := put_ne h l e
@[simp] theorem rd_put (h : MH) (r i : Nat) (l : List MO) : rd (put h r l) r i = l[i]? := by unfold rd; rw [put_same]
@[simp] theorem rd_put_ne (h : MH) {r q i : Nat} (l : List MO) (e : q ≠ r) : rd (put h r l) q i = rd h q i := by unfold rd; rw [put_ne h l e]
@[simp] theorem put_put' (h : MH) (r : Nat) (l m : List MO) : put (put h r l) r m = put h r m := put_put h r l m
@[simp] theorem al_def (h : MH) (r : Nat) (o : MO) : al h r o = put h r (h r ++ [o]) := rfl
@[simp] theorem wr_def (h : MH) (r i : Nat) (o : MO) : wr h r i o = put h r ((h r).set i o) := rfl
@[simp] theorem dat_non (h : MH) (n : Nat) : dat h n .non = some .non := by cases n <;> rfl
@[simp] theorem dat_bl (h : MH) (n : Nat) (b : Bool) : dat h n (.bl b) = some (.bl b) := by cases n <;> rfl
@[simp] theorem dat_int (h : MH) (n : Nat) (i : Int) : dat h n (.int i) = some (.int i) := by cases n <;> rfl
@[simp] theorem dat_str (h : MH) (n : Nat) (s : String) : dat h n (.str s) = some (.str s) := by cases n <;> rfl
def datL (h : MH) (n : Nat) : List MV → Option (List PD)
  | [] => some []
  | x :: xs => match dat h n x, datL h n xs with
    | some d, some ds => some (d :: ds)
    | _, _ => none
theorem datL_eq (h : MH) (n : Nat) : ∀ xs : List MV, xs.mapM (dat h n) = datL h n xs
  | [] => rfl
  | x :: xs => by
    rw [List.mapM_cons, datL_eq h n xs]
    show _ = match dat h n x, datL h n xs with
    | some d, some ds => some (d :: ds)
    | _, _ => none
    generalize datL h n xs = a
    generalize dat h n x = b
    cases b <;> cases a <;> rfl
@[simp] theorem datL_nil (h : MH) (n : Nat) : datL h n [] = some [] := rfl
@[simp] theorem datL_cons (h : MH) (n : Nat) (x : MV) (xs : List MV) : datL h n (x :: xs) = match dat h n x, datL h n xs with
    | some d, some ds => some (d :: ds)
    | _, _ => none := rfl
@[simp] theorem dat_ref (h : MH) (r i : Nat) : dat h deep (.ref r i) = match rd h r i with
    | some (.lst xs) => (datL h 7 xs).map PD.lst
    | _ => none := by
  show (match rd h r i with
    | some (.lst xs) => (xs.mapM (dat h 7)).map PD.lst
    | _ => none) = _
  split
  · rw [datL_eq]
  · rfl
@[simp] theorem dat_tup (h : MH) (xs : List MV) : dat h deep (.tup xs) = (datL h 7 xs).map PD.tup := by rw [← datL_eq]; rfl
@[simp] theorem dat_ref7 (h : MH) (r i : Nat) : dat h 7 (.ref r i) = match rd h r i with
    | some (.lst xs) => (datL h 6 xs).map PD.lst
    | _ => none := by
  show (match rd h r i with
    | some (.lst xs) => (xs.mapM (dat h 6)).map PD.lst
    | _ => none) = _
  split
  · rw [datL_eq]
  · rfl
@[simp] theorem dat_tup7 (h : MH) (xs : List MV) : dat h 7 (.tup xs) = (datL h 6 xs).map PD.tup := by rw [← datL_eq]; rfl
theorem datL_ints (h : MH) (n : Nat) : ∀ ns : List Int, datL h n (ns.map .int) = some (ns.map .int)
  | [] => rfl
  | i :: ns => by simp [datL_ints h n ns]
@[simp] theorem eqv_int (i j : Int) : PD.eqv (.int i) (.int j) = decide (i = j) := by simp only [PD.eqv]
@[simp] theorem eqv_bl (i j : Bool) : PD.eqv (.bl i) (.bl j) = (i == j) := by simp only [PD.eqv]
@[simp] theorem eqv_str (i j : String) : PD.eqv (.str i) (.str j) = decide (i = j) := by simp only [PD.eqv]
@[simp] theorem eqv_non : PD.eqv .non .non = true := by simp only [PD.eqv]
@[simp] theorem eqv_tup (xs ys : List PD) : PD.eqv (.tup xs) (.tup ys) = PD.eqvs xs ys := by simp only [PD.eqv]
@[simp] theorem eqv_lst (xs ys : List PD) : PD.eqv (.lst xs) (.lst ys) = PD.eqvs xs ys := by simp only [PD.eqv]
@[simp] theorem eqvs_nn : PD.eqvs [] [] = true := by simp only [PD.eqvs]
@[simp] theorem eqvs_nc (y : PD) (ys : List PD) : PD.eqvs [] (y :: ys) = false := by simp only [PD.eqvs]
@[simp] theorem eqvs_cn (y : PD) (ys : List PD) : PD.eqvs (y :: ys) [] = false := by simp only [PD.eqvs]
@[simp] theorem eqvs_cc (x y : PD) (xs ys : List PD) : PD.eqvs (x :: xs) (y :: ys) = (PD.eqv x y && PD.eqvs xs ys) := by simp only [PD.eqvs]
theorem eqvs_ints : ∀ a b : List Int, PD.eqvs (a.map .int) (b.map .int) = decide (a = b)
  | [], [] => by simp
  | [], b :: bs => by simp
  | a :: as, [] => by simp
  | a :: as, b :: bs => by simp [eqvs_ints as bs]
@[simp] theorem compL_nil (r : Nat) (chk : MH → Prop) (i : Nat) (t : WT) (e : WE) (σ : MS) (Q : QV) (acc : List MV) (h : MH) : compL r chk i t e σ Q [] acc h = (chk h ∧ Q (.ref r (h r).length) (al h r (.lst acc))) := by rw [compL_eq]; rfl
@[simp] theorem compL_cons (r : Nat) (chk : MH → Prop) (i : Nat) (t : WT) (e : WE) (σ : MS) (Q : QV) (x : MV) (xs acc : List MV) (h : MH) : compL r chk i t e σ Q (x :: xs) acc h = (chk h ∧ t (σ.set i (some x)) h (fun k h2 => if k = true
      then e (σ.set i (some x)) h2 (fun v h3 => acc.length < lim ∧ compL r chk i t e σ Q xs (acc ++ [v]) h3) (fun _ _ => False)
      else compL r chk i t e σ Q xs acc h2) (fun _ _ => False)) := by rw [compL_eq]; rfl
/-- what comes behind a statement, not looked into yet -/
theorem kont_ex : ∃ f : WS → WS, ∀ b, f b = b := ⟨fun b => b, fun _ => rfl⟩
noncomputable def kont : WS → WS := Classical.choose kont_ex
theorem kont_eq (b : WS) : kont b = b := Classical.choose_spec kont_ex b
theorem sSeqK (a b : WS) (D : En) (σ : MS) (h : MH) : sSeq a b D σ h = a { D with nx := kont b D } σ h := by rw [kont_eq]; rfl
theorem seq_cut {a b : WS} {D : En} {σ : MS} {h : MH} (I : MS → MH → Prop) (ha : ∀ N : MS → MH → Prop, (∀ σ h, I σ h → N σ h) → a { D with nx := N } σ h) (hb : ∀ σ h, I σ h → b D σ h) : sSeq a b D σ h := ha (b D) hb
theorem rng3 : rng 0 3 = [.int 0, .int 1, .int 2] := rfl
theorem rng4 : rng 0 4 = [.int 0, .int 1, .int 2, .int 3] := rfl
theorem enumF_len : ∀ (n : Nat) (xs : List MV), (enumF n xs).length = xs.length
  | _, [] => rfl
  | n, x :: xs => by rw [enumF, List.length_cons, List.length_cons, enumF_len (n + 1) xs]
theorem enumF_at : ∀ (n : Nat) (xs : List MV) (i : Nat), (enumF n xs)[i]? = (xs[i]?).map fun x => .tup [.int ((n + i : Nat) : Int), x]
  | _, [], i => rfl
  | n, x :: xs, 0 => rfl
  | n, x :: xs, i + 1 => by
    rw [enumF, List.getElem?_cons_succ, List.getElem?_cons_succ, enumF_at (n + 1) xs i, show n + 1 + i = n + (i + 1) by omega]
theorem rng_at {lo : Int} {n j : Nat} {x : MV} (h : (rng lo n)[j]? = some x) : j < n ∧ x = .int (lo + j) := by
  unfold rng at h
  rw [List.getElem?_map] at h
  by_cases c : j < n
  · rw [List.getElem?_range c] at h; exact ⟨c, (Option.some.inj h).symm⟩
  · rw [List.getElem?_eq_none (by simpa using c)] at h; exact nomatch h
@[simp] theorem rng_size (lo : Int) (n : Nat) : (rng lo n).length = n := by simp [rng]
@[simp] theorem forL_nil (chk : MH → Prop) (g : WG) (b : WS) (D : En) (σ : MS) (h : MH) : forL chk g b [] D σ h = (chk h ∧ D.nx σ h) := by rw [forL_eq]; rfl
theorem forL_cons (chk : MH → Prop) (g : WG) (b : WS) (x : MV) (xs : List MV) (D : En) (σ : MS) (h : MH) :
    forL chk g b (x :: xs) D σ h = (chk h ∧ g x σ h (fun σ1 h1 => b { D with nx := forL chk g b xs D, ct := forL chk g b xs D, bk := D.nx } σ1 h1) fun c h1 => D.ex c σ h1) := by rw [forL_eq]; rfl
theorem ixN_nat (m n : Nat) : ixN m (n : Int) = if n < m then some n else none := by
  unfold ixN
  rw [if_pos (Int.natCast_nonneg n)]
  by_cases c : n < m
  · rw [if_pos c, if_pos (by omega)]; simp
  · rw [if_neg c, if_neg (by omega)]
theorem atI_nat {α : Type} (xs : List α) (n : Nat) : atI xs (n : Int) = xs[n]? := by
  unfold atI
  rw [ixN_nat]
  by_cases c : n < xs.length
  · rw [if_pos c]; rfl
  · rw [if_neg c, List.getElem?_eq_none (by omega)]; rfl
@[simp] theorem ixN_lit (m n : Nat) : ixN m (no_index (OfNat.ofNat n)) = if n < m then some n else none := ixN_nat m n
@[simp] theorem atI_lit {α : Type} (xs : List α) (n : Nat) : atI xs (no_index (OfNat.ofNat n)) = xs[n]? := atI_nat xs n
theorem atI_int {α : Type} (xs : List α) {i : Int} (h : 0 ≤ i) : atI xs i = xs[i.toNat]? := by
  rw [← atI_nat, Int.toNat_of_nonneg h]
/-- a for, by a word of the items that are taken; N: what a turn is to reach -/
theorem forL_inv {chk : MH → Prop} {i : Nat} {b : WS} {D : En} (I : Nat → MS → MH → Prop) : ∀ (xs : List MV) (k : Nat) (σ : MS) (h : MH), I k σ h → (∀ k σ h, I k σ h → chk h) →
    (∀ (j : Nat) (x : MV) (σ : MS) (h : MH) (N : MS → MH → Prop), xs[j]? = some x → I (k + j) σ h → (∀ σ h, I (k + j + 1) σ h → N σ h) → b { D with nx := N, ct := N, bk := D.nx } (σ.set i (some x)) h) →
    (∀ σ h, I (k + xs.length) σ h → D.nx σ h) → forL chk (gN i) b xs D σ h
  | [], k, σ, h, h0, hc, hs, hd => by rw [forL_nil]; exact ⟨hc k σ h h0, hd σ h h0⟩
  | x :: xs, k, σ, h, h0, hc, hs, hd => by
    rw [forL_cons]
    refine ⟨hc k σ h h0, ?_⟩
    refine hs 0 x σ h _ rfl h0 fun σ h hI => ?_
    refine forL_inv I xs (k + 1) σ h hI hc (fun j y σ h N e hI hN => ?_) fun σ h hI => ?_
    · have := hs (j + 1) y σ h N (by simpa using e) (by rw [show k + (j + 1) = k + 1 + j by omega]; exact hI)
      rw [show k + (j + 1) + 1 = k + 1 + j + 1 by omega] at this
      exact this hN
    · exact hd σ h (by rw [List.length_cons, show k + (xs.length + 1) = k + 1 + xs.length by omega]; exact hI)
/-- a while, by a word and a measure -/
theorem while_inv {t : WT} {b : WS} {D : En} (I : Nat → MS → MH → Prop) (hs : ∀ (n : Nat) (σ : MS) (h : MH) (N : MS → MH → Prop), I n σ h → (∀ m σ h, m < n → I m σ h → N σ h) →
    t σ h (fun k h1 => if k = true then b { D with nx := N, ct := N, bk := D.nx } σ h1 else D.nx σ h1) fun c h1 => D.ex c σ h1) (n : Nat) (σ : MS) (h : MH) (h0 : I n σ h) : whileN t b (n + 1) D σ h := by
  have go : ∀ (k n : Nat) (σ : MS) (h : MH), n < k → I n σ h → whileN t b k D σ h := fun k => by
    induction k with
    | zero => intro n σ h hk; omega
    | succ k ih =>
      intro n σ h hk hI
      exact hs n σ h _ hI fun m σ h hm hI => ih m σ h (by omega) hI
  exact go (n + 1) n σ h (Nat.lt_succ_self n) h0
theorem kont_go {b : WS} {D : En} {σ : MS} {h : MH} (p : b D σ h) : kont b D σ h := by rw [kont_eq]; exact p
theorem seq_cut2 {a b c : WS} {D : En} {σ : MS} {h : MH} (I : MS → MH → Prop) (ha : ∀ N : MS → MH → Prop, (∀ σ h, I σ h → N σ h) → sSeq a b { D with nx := N } σ h) (hb : ∀ σ h, I σ h → c D σ h) : sSeq a (sSeq b c) D σ h := ha (c D) hb
theorem seq_cut3 {a b c d : WS} {D : En} {σ : MS} {h : MH} (I : MS → MH → Prop) (ha : ∀ N : MS → MH → Prop, (∀ σ h, I σ h → N σ h) → sSeq a (sSeq b c) { D with nx := N } σ h) (hb : ∀ σ h, I σ h → d D σ h) : sSeq a (sSeq b (sSeq c d)) D σ h := ha (d D) hb
theorem seq_cut4 {a b c d e : WS} {D : En} {σ : MS} {h : MH} (I : MS → MH → Prop) (ha : ∀ N : MS → MH → Prop, (∀ σ h, I σ h → N σ h) → sSeq a (sSeq b (sSeq c d)) { D with nx := N } σ h) (hb : ∀ σ h, I σ h → e D σ h) : sSeq a (sSeq b (sSeq c (sSeq d e))) D σ h := ha (e D) hb
theorem seq_cut5 {a b c d e f : WS} {D : En} {σ : MS} {h : MH} (I : MS → MH → Prop) (ha : ∀ N : MS → MH → Prop, (∀ σ h, I σ h → N σ h) → sSeq a (sSeq b (sSeq c (sSeq d e))) { D with nx := N } σ h) (hb : ∀ σ h, I σ h → f D σ h) : sSeq a (sSeq b (sSeq c (sSeq d (sSeq e f)))) D σ h := ha (f D) hb
theorem seq_cut6 {a b c d e f g : WS} {D : En} {σ : MS} {h : MH} (I : MS → MH → Prop) (ha : ∀ N : MS → MH → Prop, (∀ σ h, I σ h → N σ h) → sSeq a (sSeq b (sSeq c (sSeq d (sSeq e f)))) { D with nx := N } σ h) (hb : ∀ σ h, I σ h → g D σ h) : sSeq a (sSeq b (sSeq c (sSeq d (sSeq e (sSeq f g))))) D σ h := ha (g D) hb
end Mi
end TxMini

section TxMiniRel
set_option Elab.async false
set_option linter.all false
set_option autoImplicit false
set_option maxRecDepth 100000
set_option maxHeartbeats 4000000
namespace Mi
open PySem PySem.Spec PyProof.Rows L2

abbrev IA := Nat → List Addr
abbrev st (s : String) : Str := Str.ofString s
theorem st_inj {a b : String} (h : st a = st b) : a = b := by
  unfold st at h
  rw [Str.ofString_eq_toList, Str.ofString_eq_toList] at h
  have h1 : (a.toList.map Char.toNat).toArray = (b.toList.map Char.toNat).toArray := congrArg Str.cps h
  have h2 : a.toList.map Char.toNat = b.toList.map Char.toNat := by simpa using h1
  have h3 : a.toList = b.toList := List.map_inj_right (fun x y e => Char.ext (UInt32.toNat.inj e)) |>.mp h2
  exact String.toList_injective h3
/-- a tuple, a list that nobody changes -/
def SqC (K : PySem.W.Frag) (H : Hp) (a : Addr) (xs : List V) : Prop :=
  (∃ o, H a = some (.frz o (.lst xs))) ∨
    ∃ (o : Obj) (its : Array Value) (n : Nat), K.lookup a = some o ∧ o.cls = .type "list" ∧ o.dict = none ∧ o.data = .seq its n ∧ its.size ≤ sizeLine ∧ Vals xs its.toList
theorem SqC.l {K : PySem.W.Frag} {H : Hp} {a : Addr} {xs : List V} (h : SqC K H a xs) : SqL K H a xs := by
  rcases h with h | h
  · exact .inl (.inr h)
  · exact .inr h
mutual
def RV (K : PySem.W.Frag) (ι : IA) (H : Hp) : MV → V → Prop
  | .non, v => v = .non
  | .bl b, v => v = .bl b
  | .int i, v => v = .int i
  | .str s, v => v = .str (st s)
  | .tup xs, v => ∃ p vs, v = .ref p ∧ SqT K H p vs ∧ RVs K ι H xs vs
  | .cst xs, v => ∃ p vs, v = .ref p ∧ SqC K H p vs ∧ RVs K ι H xs vs
  | .ref r i, v => ∃ p, (ι r)[i]? = some p ∧ v = .ref p
  | .exc a, v => v = .ref a
def RVs (K : PySem.W.Frag) (ι : IA) (H : Hp) : List MV → List V → Prop
  | [], vs => vs = []
  | x :: xs, vs => ∃ v r, vs = v :: r ∧ RV K ι H x v ∧ RVs K ι H xs r
end
/-- a class's address -/
abbrev clA (K : PySem.W.Frag) (c : String) : Addr := He.ga K (st c)
/-- what is known of the text: the classes of instances, the names of their fields -/
structure Tx where
  K : PySem.W.Frag
  Cl : List String
  Fl : List String
  Er : List String
inductive KR : MV → Key → Prop where
  | int (i : Int) : KR (.int i) (.inl i)
  | str (s : String) : KR (.str s) (.inr (st s))
def OR (T : Tx) (ι : IA) (H : Hp) (p : Addr) : MO → Prop
  | .lst xs => ∃ vs, H p = some (.lst vs) ∧ RVs T.K ι H xs vs
  | .dic kvs => ∃ kws, H p = some (.dK kws) ∧ Paired (fun (m : MV × MV) (k : Key × V) => KR m.1 k.1 ∧ RV T.K ι H m.2 k.2) kvs kws
  | .ins c fs => c ∈ T.Cl ∧ (∀ p ∈ fs, p.1 ∈ T.Fl) ∧ ∃ dx fvs, H p = some (.ins (clA T.K c) dx fvs) ∧ Paired (fun (m : String × MV) (k : Str × V) => k.1 = st m.1 ∧ RV T.K ι H m.2 k.2) fs fvs
structure Rel (T : Tx) (ι : IA) (h : MH) (H : Hp) : Prop where
  len : ∀ r, (ι r).length = (h r).length
  obj : ∀ (r i : Nat) (o : MO) (p : Addr), (h r)[i]? = some o → (ι r)[i]? = some p → OR T ι H p o
  inj : ∀ (r i r' i' : Nat) (p : Addr), (ι r)[i]? = some p → (ι r')[i']? = some p → r = r' ∧ i = i'
structure Ext (ι : IA) (H : Hp) (ι' : IA) (H' : Hp) : Prop where
  pre : ∀ r, ∃ more, ι' r = ι r ++ more ∧ ∀ p ∈ more, H p = none
  oth : ∀ (p : Addr) (o : HO), H p = some o → (∀ (r i : Nat), (ι r)[i]? ≠ some p) → H' p = some o
section
variable {T : Tx} {ι ι' ι1 ι2 : IA} {h h' h1 h2 : MH} {H H' H1 H2 : Hp}
theorem OR.here {p : Addr} {o : MO} (x : OR T ι H p o) : ∃ O, H p = some O := by
  cases o with
  | lst xs => obtain ⟨_, e, _⟩ := x; exact ⟨_, e⟩
  | dic kvs => obtain ⟨_, e, _⟩ := x; exact ⟨_, e⟩
  | ins c fs => obtain ⟨_, _, _, _, e, _⟩ := x; exact ⟨_, e⟩
theorem OR.nfix {p : Addr} {o : MO} (x : OR T ι H p o) : (∀ xs, H p ≠ some (.tup xs)) ∧ ∀ a u, H p ≠ some (.frz a u) := by
  cases o with
  | lst xs => obtain ⟨_, e, _⟩ := x; rw [e]; exact ⟨fun _ z => (nomatch z), fun _ _ z => (nomatch z)⟩
  | dic kvs => obtain ⟨_, e, _⟩ := x; rw [e]; exact ⟨fun _ z => (nomatch z), fun _ _ z => (nomatch z)⟩
  | ins c fs => obtain ⟨_, _, _, _, e, _⟩ := x; rw [e]; exact ⟨fun _ z => (nomatch z), fun _ _ z => (nomatch z)⟩
theorem Rel.at_ (R : Rel T ι h H) {r i : Nat} {p : Addr} (e : (ι r)[i]? = some p) : ∃ o, (h r)[i]? = some o ∧ OR T ι H p o := by
  have hl := (List.getElem?_eq_some_iff.mp e).1
  rw [R.len] at hl
  exact ⟨_, List.getElem?_eq_getElem hl, R.obj r i _ p (List.getElem?_eq_getElem hl) e⟩
theorem Rel.of_rd (R : Rel T ι h H) {r i : Nat} {o : MO} (e : rd h r i = some o) : ∃ p, (ι r)[i]? = some p ∧ OR T ι H p o := by
  have hl := (List.getElem?_eq_some_iff.mp (show (h r)[i]? = some o from e)).1
  rw [← R.len] at hl
  exact ⟨_, List.getElem?_eq_getElem hl, R.obj r i _ _ e (List.getElem?_eq_getElem hl)⟩
theorem Rel.here (R : Rel T ι h H) {r i : Nat} {p : Addr} (e : (ι r)[i]? = some p) : ∃ O, H p = some O := (R.at_ e).elim fun _ x => x.2.here
theorem Rel.fresh (R : Rel T ι h H) {p : Addr} (hp : H p = none) : ∀ (r i : Nat), (ι r)[i]? ≠ some p := fun r i e => by
  obtain ⟨O, z⟩ := R.here e
  rw [hp] at z; cases z
theorem Ext.refl : Ext ι H ι H := ⟨fun _ => ⟨[], by simp, by simp⟩, fun _ _ e _ => e⟩
theorem Ext.ix (X : Ext ι H ι' H') {r i : Nat} {p : Addr} (e : (ι r)[i]? = some p) : (ι' r)[i]? = some p := by
  obtain ⟨m, hm, _⟩ := X.pre r
  rw [hm, List.getElem?_append_left (List.getElem?_eq_some_iff.mp e).1]
  exact e
theorem Ext.trans (R1 : Rel T ι1 h1 H1) (X : Ext ι H ι1 H1) (Y : Ext ι1 H1 ι2 H2) : Ext ι H ι2 H2 := by
  refine ⟨fun r => ?_, fun p o e n => ?_⟩
  · obtain ⟨m1, e1, n1⟩ := X.pre r
    obtain ⟨m2, e2, n2⟩ := Y.pre r
    refine ⟨m1 ++ m2, by rw [e2, e1, List.append_assoc], fun p hp => ?_⟩
    rcases List.mem_append.mp hp with z | z
    · exact n1 p z
    · have q := n2 p z
      cases w : H p with
      | none => rfl
      | some o =>
        by_cases c : ∀ (r i : Nat), (ι r)[i]? ≠ some p
        · rw [X.oth p o w c] at q; cases q
        · obtain ⟨r', c⟩ := Classical.not_forall.mp c
          obtain ⟨i', c⟩ := Classical.not_forall.mp c
          have c := X.ix (Classical.not_not.mp c)
          obtain ⟨O, z⟩ := R1.here c
          rw [q] at z; cases z
  · refine Y.oth p o (X.oth p o e n) fun r i z => ?_
    obtain ⟨m1, e1, n1⟩ := X.pre r
    rw [e1] at z
    by_cases hi : i < (ι r).length
    · rw [List.getElem?_append_left hi] at z
      exact n r i z
    · rw [List.getElem?_append_right (by omega)] at z
      rw [n1 p (List.mem_of_getElem? z)] at e
      cases e
theorem sqT_ext (R : Rel T ι h H) (X : Ext ι H ι' H') {p : Addr} {vs : List V} (e : L2.SqT T.K H p vs) : L2.SqT T.K H' p vs := by
  have nin : ∀ u, H p = Option.some u → (∃ xs, u = HO.tup xs) ∨ (∃ a w, u = HO.frz a w) → ∀ (r i : Nat), (ι r)[i]? ≠ Option.some p := fun u e1 k r i z => by
    obtain ⟨o, _, x⟩ := R.at_ z
    obtain ⟨n1, n2⟩ := x.nfix
    rcases k with ⟨xs, rfl⟩ | ⟨a, w, rfl⟩
    · exact n1 xs e1
    · exact n2 a w e1
  rcases e with (e | ⟨o, e⟩) | e
  · exact .inl (.inl (X.oth _ _ e (nin _ e (.inl ⟨_, rfl⟩))))
  · exact .inl (.inr ⟨o, X.oth _ _ e (nin _ e (.inr ⟨_, _, rfl⟩))⟩)
  · exact .inr e
theorem SqC.ext (R : Rel T ι h H) (X : Ext ι H ι' H') {p : Addr} {vs : List V} (e : SqC T.K H p vs) : SqC T.K H' p vs := by
  rcases e with ⟨o, e⟩ | e
  · refine .inl ⟨o, X.oth _ _ e fun r i z => ?_⟩
    obtain ⟨o', _, x⟩ := R.at_ z
    exact x.nfix.2 _ _ e
  · exact .inr e
mutual
theorem RV.ext (R : Rel T ι h H) (X : Ext ι H ι' H') : ∀ (m : MV) (v : V), RV T.K ι H m v → RV T.K ι' H' m v
  | .non, _, e => by unfold RV at e ⊢; exact e
  | .bl _, _, e => by unfold RV at e ⊢; exact e
  | .int _, _, e => by unfold RV at e ⊢; exact e
  | .str _, _, e => by unfold RV at e ⊢; exact e
  | .tup xs, _, e => by
    unfold RV at e ⊢
    obtain ⟨p, vs, e1, e2, e3⟩ := e
    exact ⟨p, vs, e1, sqT_ext R X e2, RVs.ext R X xs vs e3⟩
  | .cst xs, _, e => by
    unfold RV at e ⊢
    obtain ⟨p, vs, e1, e2, e3⟩ := e
    exact ⟨p, vs, e1, SqC.ext R X e2, RVs.ext R X xs vs e3⟩
  | .ref r i, _, e => by
    unfold RV at e ⊢
    obtain ⟨p, e1, e2⟩ := e
    exact ⟨p, X.ix e1, e2⟩
  | .exc _, _, e => by unfold RV at e ⊢; exact e
theorem RVs.ext (R : Rel T ι h H) (X : Ext ι H ι' H') : ∀ (ms : List MV) (vs : List V), RVs T.K ι H ms vs → RVs T.K ι' H' ms vs
  | [], _, e => by unfold RVs at e ⊢; exact e
  | m :: ms, _, e => by
    unfold RVs at e ⊢
    obtain ⟨v, r, e1, e2, e3⟩ := e
    exact ⟨v, r, e1, RV.ext R X m v e2, RVs.ext R X ms r e3⟩
end
theorem RVs.length {K : PySem.W.Frag} : ∀ {ms : List MV} {vs : List V}, RVs K ι H ms vs → ms.length = vs.length
  | [], _, e => by unfold RVs at e; rw [e] <;> rfl
  | m :: ms, _, e => by
    unfold RVs at e
    obtain ⟨v, r, e1, _, e3⟩ := e
    rw [e1, List.length_cons, List.length_cons, RVs.length e3]
theorem RVs.get {K : PySem.W.Frag} : ∀ {ms : List MV} {vs : List V} {i : Nat} {m : MV}, RVs K ι H ms vs → ms[i]? = some m → ∃ v, vs[i]? = some v ∧ RV K ι H m v
  | [], _, _, _, _, e => by simp at e
  | x :: ms, _, 0, m, e, e1 => by
    unfold RVs at e
    obtain ⟨v, r, rfl, e2, e3⟩ := e
    simp at e1; subst e1
    exact ⟨v, rfl, e2⟩
  | x :: ms, _, i + 1, m, e, e1 => by
    unfold RVs at e
    obtain ⟨v, r, rfl, e2, e3⟩ := e
    simpa using RVs.get (i := i) e3 (by simpa using e1)
theorem RVs.append {K : PySem.W.Frag} : ∀ {ms ns : List MV} {vs us : List V}, RVs K ι H ms vs → RVs K ι H ns us → RVs K ι H (ms ++ ns) (vs ++ us)
  | [], _, _, _, e, f => by unfold RVs at e; rw [e]; exact f
  | x :: ms, _, _, _, e, f => by
    unfold RVs at e
    obtain ⟨v, r, rfl, e2, e3⟩ := e
    show RVs K ι H (x :: (ms ++ _)) _
    unfold RVs
    exact ⟨v, r ++ _, rfl, e2, RVs.append e3 f⟩
theorem RVs.one {K : PySem.W.Frag} {m : MV} {v : V} (e : RV K ι H m v) : RVs K ι H [m] [v] := by
  unfold RVs
  exact ⟨v, [], rfl, e, by unfold RVs; rfl⟩
theorem RVs.cons {K : PySem.W.Frag} {m : MV} {v : V} {ms : List MV} {vs : List V} (e : RV K ι H m v) (f : RVs K ι H ms vs) : RVs K ι H (m :: ms) (v :: vs) := by
  unfold RVs
  exact ⟨v, vs, rfl, e, f⟩
theorem RVs.nil {K : PySem.W.Frag} : RVs K ι H [] [] := by
  unfold RVs
  rfl
theorem RVs.set {K : PySem.W.Frag} {m : MV} {v : V} (q : RV K ι H m v) : ∀ {ms : List MV} {vs : List V} (i : Nat), RVs K ι H ms vs → RVs K ι H (ms.set i m) (vs.set i v)
  | [], _, _, e => by unfold RVs at e; rw [e]; exact RVs.nil
  | x :: ms, _, 0, e => by
    unfold RVs at e
    obtain ⟨w, r, rfl, e2, e3⟩ := e
    exact RVs.cons q e3
  | x :: ms, _, i + 1, e => by
    unfold RVs at e
    obtain ⟨w, r, rfl, e2, e3⟩ := e
    exact RVs.cons e2 (RVs.set q i e3)
theorem RVs.take {K : PySem.W.Frag} : ∀ {ms : List MV} {vs : List V} (n : Nat), RVs K ι H ms vs → RVs K ι H (ms.take n) (vs.take n)
  | _, _, 0, _ => by simp [RVs.nil]
  | [], _, n + 1, e => by unfold RVs at e; rw [e]; exact RVs.nil
  | x :: ms, _, n + 1, e => by
    unfold RVs at e
    obtain ⟨w, r, rfl, e2, e3⟩ := e
    exact RVs.cons e2 (RVs.take n e3)
theorem RVs.drop {K : PySem.W.Frag} : ∀ {ms : List MV} {vs : List V} (n : Nat), RVs K ι H ms vs → RVs K ι H (ms.drop n) (vs.drop n)
  | _, _, 0, e => e
  | [], _, n + 1, e => by unfold RVs at e; rw [e]; exact RVs.nil
  | x :: ms, _, n + 1, e => by
    unfold RVs at e
    obtain ⟨w, r, rfl, e2, e3⟩ := e
    exact RVs.drop n e3
theorem Paired.imp {α β : Type} {F G : α → β → Prop} (f : ∀ a b, F a b → G a b) : ∀ {l : List α} {k : List β}, Paired F l k → Paired G l k
  | _, _, .nil => .nil
  | _, _, .cons x y => .cons (f _ _ x) (Paired.imp f y)
/-- what stands at p stays related where p itself is as it was -/
theorem OR.ext (R : Rel T ι h H) (X : Ext ι H ι' H') {p : Addr} {o : MO} (x : OR T ι H p o) (e : H' p = H p) : OR T ι' H' p o := by
  cases o with
  | lst xs =>
    obtain ⟨vs, e1, e2⟩ := x
    exact ⟨vs, e.trans e1, RVs.ext R X _ _ e2⟩
  | dic kvs =>
    obtain ⟨kws, e1, e2⟩ := x
    exact ⟨kws, e.trans e1, Paired.imp (fun a b q => ⟨q.1, RV.ext R X _ _ q.2⟩) e2⟩
  | ins c fs =>
    obtain ⟨hc, hf, dx, fvs, e1, e2⟩ := x
    exact ⟨hc, hf, dx, fvs, e.trans e1, Paired.imp (fun a b q => ⟨q.1, RV.ext R X _ _ q.2⟩) e2⟩
/-- a new object -/
def ia (ι : IA) (r : Nat) (p : Addr) : IA := fun q => if q = r then ι r ++ [p] else ι q
theorem ia_same (ι : IA) (r : Nat) (p : Addr) : ia ι r p r = ι r ++ [p] := if_pos rfl
theorem ia_ne (ι : IA) {r q : Nat} (p : Addr) (e : q ≠ r) : ia ι r p q = ι q := if_neg e
theorem ext_new (R : Rel T ι h H) {r : Nat} {p : Addr} {O : HO} (hp : H p = none) : Ext ι H (ia ι r p) (upd H p O) := by
  refine ⟨fun q => ?_, fun a o e n => ?_⟩
  · by_cases e : q = r
    · subst e
      exact ⟨[p], ia_same .., fun z hz => by rw [List.mem_singleton.mp hz]; exact hp⟩
    · exact ⟨[], by rw [ia_ne _ _ e]; simp, by simp⟩
  · rw [upd_ne (ne_of_none e hp)]; exact e
theorem rel_new (R : Rel T ι h H) {r : Nat} {p : Addr} {O : HO} {o : MO} (hp : H p = none) (ho : OR T (ia ι r p) (upd H p O) p o) : Rel T (ia ι r p) (al h r o) (upd H p O) := by
  have fr := R.fresh hp
  have X := ext_new (O := O) (r := r) R hp
  refine ⟨fun q => ?_, fun q i o' p' e1 e2 => ?_, fun q i q' i' p' e1 e2 => ?_⟩
  · unfold al
    by_cases e : q = r
    · subst e
      rw [ia_same, put_same, List.length_append, List.length_append, R.len]
      rfl
    · rw [ia_ne _ _ e, put_ne _ _ e, R.len]
  · have old : ∀ q, (ι q)[i]? = some p' → (h q)[i]? = some o' → OR T (ia ι r p) (upd H p O) p' o' := fun q z1 z2 => by
      refine (R.obj q i o' p' z2 z1).ext R X ?_
      rw [upd_ne]
      intro z; subst z
      exact fr q i z1
    by_cases e : q = r
    · subst e
      unfold al at e1
      rw [put_same] at e1
      rw [ia_same] at e2
      by_cases hi : i < (ι q).length
      · rw [List.getElem?_append_left hi] at e2
        rw [List.getElem?_append_left (by rw [← R.len]; exact hi)] at e1
        exact old q e2 e1
      · rw [List.getElem?_append_right (by omega)] at e2
        rw [List.getElem?_append_right (by rw [← R.len]; omega)] at e1
        have hj : i - (ι q).length = 0 := by
          have := (List.getElem?_eq_some_iff.mp e2).1
          simpa using this
        rw [hj] at e2
        rw [← R.len, hj] at e1
        simp at e1 e2
        subst e1; subst e2
        exact ho
    · unfold al at e1
      rw [put_ne _ _ e] at e1
      rw [ia_ne _ _ e] at e2
      exact old q e2 e1
  · have new : ∀ q i, (ia ι r p q)[i]? = some p' → (ι q)[i]? = some p' ∨ (q = r ∧ i = (ι r).length ∧ p' = p) := fun q i z => by
      by_cases e : q = r
      · subst e
        rw [ia_same] at z
        by_cases hi : i < (ι q).length
        · rw [List.getElem?_append_left hi] at z
          exact .inl z
        · rw [List.getElem?_append_right (by omega)] at z
          have hj : i - (ι q).length = 0 := by
            have := (List.getElem?_eq_some_iff.mp z).1
            simpa using this
          rw [hj] at z
          simp at z
          exact .inr ⟨rfl, by omega, z.symm⟩
      · rw [ia_ne _ _ e] at z
        exact .inl z
    rcases new q i e1 with z | ⟨z1, z2, z3⟩
    · rcases new q' i' e2 with w | ⟨w1, w2, w3⟩
      · exact R.inj _ _ _ _ _ z w
      · subst w3
        exact absurd z (fr _ _)
    · rcases new q' i' e2 with w | ⟨w1, w2, w3⟩
      · subst z3
        exact absurd w (fr _ _)
      · exact ⟨z1.trans w1.symm, z2.trans w2.symm⟩
/-- an object changed -/
theorem ext_wr (R : Rel T ι h H) {r i : Nat} {p : Addr} {O : HO} (hp : (ι r)[i]? = some p) : Ext ι H ι (upd H p O) := by
  refine ⟨fun q => ⟨[], by simp, by simp⟩, fun a o e n => ?_⟩
  rw [upd_ne]
  · exact e
  · intro z; subst z
    exact n r i hp
theorem rel_wr (R : Rel T ι h H) {r i : Nat} {p : Addr} {O : HO} {o : MO} (hp : (ι r)[i]? = some p) (ho : OR T ι (upd H p O) p o) : Rel T ι (wr h r i o) (upd H p O) := by
  have X := ext_wr (O := O) R hp
  refine ⟨fun q => ?_, fun q j o' p' e1 e2 => ?_, R.inj⟩
  · unfold wr
    by_cases e : q = r
    · subst e
      rw [put_same, List.length_set, R.len]
    · rw [put_ne _ _ e, R.len]
  · by_cases hpp : p' = p
    · subst hpp
      obtain ⟨rfl, rfl⟩ := R.inj _ _ _ _ _ e2 hp
      unfold wr at e1
      rw [put_same, List.getElem?_set_self] at e1
      · cases e1
        exact ho
      · rw [← R.len]
        exact (List.getElem?_eq_some_iff.mp hp).1
    · have old : (h q)[j]? = some o' := by
        unfold wr at e1
        by_cases e : q = r
        · subst e
          rw [put_same, List.getElem?_set_ne] at e1
          · exact e1
          · intro z; subst z
            rw [hp] at e2
            exact hpp (Option.some.inj e2).symm
        · rw [put_ne _ _ e] at e1
          exact e1
      exact (R.obj q j o' p' old e2).ext R X (upd_ne hpp)
end
/-! ### locals -/
def RS (T : Tx) (ι : IA) (H : Hp) (σm : MS) (σ : L2.St) : Prop := σm.length = σ.length ∧ ∀ (i : Nat) (m : MV), σm[i]? = some (some m) → ∃ v, σ[i]? = some (some v) ∧ RV T.K ι H m v
section
variable {T : Tx} {ι ι' : IA} {h h' : MH} {H H' : Hp} {σm : MS} {σ : L2.St}
theorem RS.ext (R : Rel T ι h H) (X : Ext ι H ι' H') (s : RS T ι H σm σ) : RS T ι' H' σm σ := ⟨s.1, fun i m e => let ⟨v, e1, e2⟩ := s.2 i m e; ⟨v, e1, RV.ext R X _ _ e2⟩⟩
theorem RS.set (s : RS T ι H σm σ) (i : Nat) {m : MV} {v : V} (q : RV T.K ι H m v) : RS T ι H (σm.set i (some m)) (σ.set i (some v)) := by
  refine ⟨by simpa using s.1, fun j m' e => ?_⟩
  by_cases hj : i = j
  · subst hj
    by_cases hl : i < σm.length
    · rw [List.getElem?_set_self hl] at e
      cases e
      exact ⟨v, List.getElem?_set_self (by rw [← s.1]; exact hl), q⟩
    · rw [List.getElem?_eq_none (by simpa using hl)] at e; cases e
  · rw [List.getElem?_set_ne hj] at e
    rw [List.getElem?_set_ne hj]
    exact s.2 j m' e
theorem RS.unset (s : RS T ι H σm σ) (i : Nat) : RS T ι H (σm.set i none) (σ.set i none) := by
  refine ⟨by simpa using s.1, fun j m' e => ?_⟩
  by_cases hj : i = j
  · subst hj
    by_cases hl : i < σm.length
    · rw [List.getElem?_set_self hl] at e
      cases e
    · rw [List.getElem?_eq_none (by simpa using hl)] at e; cases e
  · rw [List.getElem?_set_ne hj] at e
    rw [List.getElem?_set_ne hj]
    exact s.2 j m' e
end
/-! ### what is wanted behind -/
def PQ (T : Tx) (ι : IA) (H : Hp) (Qm : QV) (Q : VK) : Prop := ∀ v h', Qm v h' → ∀ ι' H' u, Rel T ι' h' H' → Ext ι H ι' H' → RV T.K ι' H' v u → Q u H'
def PX (T : Tx) (ι : IA) (H : Hp) (Em : QX) (E : XK) : Prop := ∀ c h', c ∈ T.Er → Em c h' → ∀ ι' H', Rel T ι' h' H' → Ext ι H ι' H' → E (.ref (clA T.K c)) none H'
def PP (T : Tx) (ι : IA) (H : Hp) (Qm : MS → MH → Prop) (Q : L2.St → Hp → Prop) : Prop := ∀ σm h', Qm σm h' → ∀ ι' H' σ, Rel T ι' h' H' → Ext ι H ι' H' → RS T ι' H' σm σ → Q σ H'
def PXS (T : Tx) (ι : IA) (H : Hp) (Em : String → MS → MH → Prop) (W : WX) : Prop := ∀ c σm h', c ∈ T.Er → Em c σm h' → ∀ ι' H' σ, Rel T ι' h' H' → Ext ι H ι' H' → RS T ι' H' σm σ → W (.ref (clA T.K c)) none σ H'
structure PEn (T : Tx) (ι : IA) (H : Hp) (Dm : En) (D : Ends) (W : WX) : Prop where
  nx : PP T ι H Dm.nx D.nx
  rt : PQ T ι H Dm.rt D.rt
  bk : PP T ι H Dm.bk D.bk
  ct : PP T ι H Dm.ct D.ct
  ex : PXS T ι H Dm.ex W
section
variable {T : Tx} {ι ι' : IA} {h h' : MH} {H H' : Hp} {σm : MS} {σ : L2.St}
theorem PQ.ext {Qm : QV} {Q : VK} (R : Rel T ι' h' H') (X : Ext ι H ι' H') (p : PQ T ι H Qm Q) : PQ T ι' H' Qm Q := fun v h1 q ι1 H1 u R1 X1 r => p v h1 q ι1 H1 u R1 (Ext.trans R X X1) r
theorem PX.ext {Em : QX} {E : XK} (R : Rel T ι' h' H') (X : Ext ι H ι' H') (p : PX T ι H Em E) : PX T ι' H' Em E := fun c h1 hc q ι1 H1 R1 X1 => p c h1 hc q ι1 H1 R1 (Ext.trans R X X1)
theorem PP.ext {Qm : MS → MH → Prop} {Q : L2.St → Hp → Prop} (R : Rel T ι' h' H') (X : Ext ι H ι' H') (p : PP T ι H Qm Q) : PP T ι' H' Qm Q := fun v h1 q ι1 H1 u R1 X1 r => p v h1 q ι1 H1 u R1 (Ext.trans R X X1) r
theorem PXS.ext {Em : String → MS → MH → Prop} {W : WX} (R : Rel T ι' h' H') (X : Ext ι H ι' H') (p : PXS T ι H Em W) : PXS T ι' H' Em W := fun c s h1 hc q ι1 H1 σ R1 X1 r => p c s h1 hc q ι1 H1 σ R1 (Ext.trans R X X1) r
theorem PEn.ext {Dm : En} {D : Ends} {W : WX} (R : Rel T ι' h' H') (X : Ext ι H ι' H') (p : PEn T ι H Dm D W) : PEn T ι' H' Dm D W := ⟨p.nx.ext R X, p.rt.ext R X, p.bk.ext R X, p.ct.ext R X, p.ex.ext R X⟩
theorem PXS.at_ {Em : String → MS → MH → Prop} {W : WX} (R : Rel T ι h H) (s : RS T ι H σm σ) (p : PXS T ι H Em W) : PX T ι H (fun c h1 => Em c σm h1) (L2.WE W σ) := fun c h1 hc q ι1 H1 R1 X1 => p c σm h1 hc q ι1 H1 σ R1 X1 (s.ext R X1)
end
/-! ### canonical readings -/
def canE (T : Tx) (W : WX) (m : WE) : TE := fun σ H Q => ∃ ι h σm Qm Em, Rel T ι h H ∧ RS T ι H σm σ ∧ PQ T ι H Qm Q ∧ PX T ι H Em (L2.WE W σ) ∧ m σm h Qm Em
def canT (T : Tx) (W : WX) (m : WT) : TT := fun σ H Q => ∃ ι h σm Qm Em, Rel T ι h H ∧ RS T ι H σm σ ∧ (∀ (k : Bool) h', Qm k h' → ∀ ι' H', Rel T ι' h' H' → Ext ι H ι' H' → Q k H') ∧ PX T ι H Em (L2.WE W σ) ∧ m σm h Qm Em
def canA (T : Tx) (W : WX) (m : WA) : TA := fun σ H Q => ∃ ι h σm Qm Em, Rel T ι h H ∧ RS T ι H σm σ ∧ (∀ ms h', Qm ms h' → ∀ ι' H' vs, Rel T ι' h' H' → Ext ι H ι' H' → RVs T.K ι' H' ms vs → Q vs H') ∧ PX T ι H Em (L2.WE W σ) ∧ m σm h Qm Em
def canS (T : Tx) (W : WX) (m : WS) : TS := fun D σ H => ∃ ι h σm Dm, Rel T ι h H ∧ RS T ι H σm σ ∧ PEn T ι H Dm D W ∧ m Dm σm h
end Mi
end TxMiniRel

section TxMiniE
set_option Elab.async false
set_option linter.all false
set_option autoImplicit false
set_option maxRecDepth 100000
set_option maxHeartbeats 4000000
namespace Mi
open PySem PySem.Spec PyProof.Rows L2
section
variable {T : Tx} {X : Cx} {W : WX} {a b e : Expr} {pos : Pos} {ma mb mc me : WE}
/-! ### weaker readings -/
theorem PE.le {t t' : TE} (h : PE X e t) (le : ∀ σ H Q, t' σ H Q → t σ H Q) : PE X e t' := ⟨fun pins s σ H Q I q => h.run pins s σ H Q I (le _ _ _ q)⟩
theorem PT.le {t t' : TT} (h : PT X e t) (le : ∀ σ H Q, t' σ H Q → t σ H Q) : PT X e t' := ⟨fun pins s σ H Q I q => h.run pins s σ H Q I (le _ _ _ q)⟩
theorem PW.le {t t' : TT} (h : PW X e t) (le : ∀ σ H Q, t' σ H Q → t σ H Q) : PW X e t' := ⟨fun wh pins s σ H Q I q => h.run wh pins s σ H Q I (le _ _ _ q)⟩
theorem PA.le {es : List Expr} {t t' : TA} (h : PA X es t) (le : ∀ σ H Q, t' σ H Q → t σ H Q) : PA X es t' := ⟨fun p pins s σ H Q I q => h.run p pins s σ H Q I (le _ _ _ q)⟩
theorem PS.le {c : Stmt} {t t' : TS} (h : PS X c t) (le : ∀ D σ H, t' D σ H → t D σ H) : PS X c t' := ⟨fun pins s σ H D I q => h.run pins s σ H D I (le _ _ _ q)⟩
theorem PSs.le {c : List Stmt} {t t' : TS} (h : PSs X c t) (le : ∀ D σ H, t' D σ H → t D σ H) : PSs X c t' := ⟨fun pins s σ H D I q => h.run pins s σ H D I (le _ _ _ q)⟩
/-- a reading in continuation -/
theorem canE_mk {σ : L2.St} {H : Hp} {Q : VK} {ι : IA} {h : MH} {σm : MS} {Qm : QV} {Em : QX} (R : Rel T ι h H) (s : RS T ι H σm σ) (x : PX T ι H Em (L2.WE W σ)) (m : me σm h Qm Em)
    (k : ∀ v h', Qm v h' → ∀ ι' H' u, Rel T ι' h' H' → Ext ι H ι' H' → RS T ι' H' σm σ → PX T ι' H' Em (L2.WE W σ) → RV T.K ι' H' v u → Q u H') : canE T W me σ H Q :=
  ⟨ι, h, σm, Qm, Em, R, s, fun v h' q ι' H' u R' X' r => k v h' q ι' H' u R' X' (s.ext R X') (x.ext R' X') r, x, m⟩
/-! ### names, constants -/
theorem e_var {i : Nat} (h : PE X e (L2.tVar i)) : PE X e (canE T W (wV i)) := PE.le h fun σ H Q ⟨ι, h, σm, Qm, Em, R, s, q, x, m⟩ => by
  unfold wV at m
  split at m
  · rename_i v e
    obtain ⟨u, e1, e2⟩ := s.2 i v e
    exact ⟨u, e1, q v h m ι H u R Ext.refl e2⟩
  · exact m.elim
theorem e_con {v : MV} {u : V} (h : PE X e (tC u)) (r : ∀ ι H, RV T.K ι H v u) : PE X e (canE T W (wC v)) := PE.le h fun σ H Q ⟨ι, h, σm, Qm, Em, R, s, q, x, m⟩ => q v h m ι H u R Ext.refl (r ι H)
theorem e_int {i : Int} {j} : PE X (.Constant (.int i) j pos) (canE T W (wC (.int i))) := e_con pe_int fun _ _ => by unfold RV; rfl
theorem e_bl {i : Bool} {j} : PE X (.Constant (.bool i) j pos) (canE T W (wC (.bl i))) := e_con pe_bl fun _ _ => by unfold RV; rfl
theorem e_non {j} : PE X (.Constant .none j pos) (canE T W (wC .non)) := e_con pe_non fun _ _ => by unfold RV; rfl
theorem e_str {s : String} {j} : PE X (.Constant (.str (Str.ofString s)) j pos) (canE T W (wC (.str s))) := e_con pe_str fun _ _ => by unfold RV; rfl
/-! ### operators -/
def canR (T : Tx) (o : Op2) : R2 := fun x y H Q => ∃ ι h mx my Qm, Rel T ι h H ∧ RV T.K ι H mx x ∧ RV T.K ι H my y ∧ PQ T ι H Qm Q ∧ o mx my h Qm
def canU (T : Tx) (o : Op1) : V → Hp → VK → Prop := fun x H Q => ∃ ι h mx Qm, Rel T ι h H ∧ RV T.K ι H mx x ∧ PQ T ι H Qm Q ∧ o mx h Qm
theorem rd_op {o : Op2} {σ : L2.St} {H : Hp} {Q : VK} (c : canE T W (wOp o ma mb) σ H Q) : tOp (canR T o) (canE T W ma) (canE T W mb) σ H Q := by
  obtain ⟨ι, h, σm, Qm, Em, R, s, q, x, m⟩ := c
  refine canE_mk R s x m fun v h1 m1 ι1 H1 u R1 X1 s1 x1 r1 => ?_
  refine canE_mk R1 s1 x1 m1 fun w h2 m2 ι2 H2 z R2 X2 s2 x2 r2 => ?_
  exact ⟨ι2, h2, v, w, Qm, R2, RV.ext R1 X2 _ _ r1, r2, (q.ext R1 X1).ext R2 X2, m2⟩
theorem e_op {op : Operator} {o : Op2} (ho : OpR X (binaryOp op) (canR T o)) (ha : PE X a (canE T W ma)) (hb : PE X b (canE T W mb)) : PE X (.BinOp a op b pos) (canE T W (wOp o ma mb)) :=
  PE.le (pe_op ho ha hb) fun _ _ _ c => rd_op c
theorem e_cmp {op : CmpOp} {o : Op2} (ho : OpR X (compareOp op) (canR T o)) (ha : PE X a (canE T W ma)) (hb : PE X b (canE T W mb)) (hm : behindInMarks op b = false) : PE X (.Compare a [op] [b] pos) (canE T W (wOp o ma mb)) :=
  PE.le (pe_cmpR ho ha hb hm) fun _ _ _ c => rd_op c
theorem e_un {op : UnaryOp} {o : Op1} (ho : UnR X (unaryOp op) (canU T o)) (ha : PE X a (canE T W ma)) : PE X (.UnaryOp op a pos) (canE T W (wUn o ma)) :=
  PE.le (pe_un ho ha) fun _ _ _ ⟨ι, h, σm, Qm, Em, R, s, q, x, m⟩ => canE_mk R s x m fun v h1 m1 ι1 H1 u R1 X1 s1 x1 r1 => ⟨ι1, h1, v, Qm, R1, r1, q.ext R1 X1, m1⟩
/-! tests -/
theorem t_val_rd {σ : L2.St} {H : Hp} {Q : Bool → Hp → Prop} {t : TE} (ht : ∀ σ H Q, canE T W me σ H Q → t σ H Q) (c : canT T W (tV me) σ H Q) : tTest t σ H Q := by
  obtain ⟨ι, h, σm, Qm, Em, R, s, q, x, m⟩ := c
  refine ht _ _ _ (canE_mk R s x m fun v h1 m1 ι1 H1 u R1 X1 s1 x1 r1 => ?_)
  cases v with
  | bl k =>
    unfold RV at r1
    exact ⟨k, r1, q k h1 m1 ι1 H1 R1 X1⟩
  | _ => exact m1.elim
theorem t_cmp {op : CmpOp} {o : Op2} (ho : OpR X (compareOp op) (canR T o)) (ha : PE X a (canE T W ma)) (hb : PE X b (canE T W mb)) (hm : behindInMarks op b = false) : PT X (.Compare a [op] [b] pos) (canT T W (tV (wOp o ma mb))) :=
  PT.le (pt_cmpR ho ha hb hm) fun _ _ _ c => t_val_rd (fun _ _ _ c => rd_op c) c
theorem rd_chain {o o' : Op2} {σ : L2.St} {H : Hp} {Q : VK} (c : canE T W (wChain o o' ma mb mc) σ H Q) : L2.tChain (canR T o) (canR T o') (canE T W ma) (canE T W mb) (canE T W mc) σ H Q := by
  obtain ⟨ι, h, σm, Qm, Em, R, s, q, x, m⟩ := c
  refine canE_mk R s x m fun v h1 m1 ι1 H1 u R1 X1 s1 x1 r1 => ?_
  refine canE_mk R1 s1 x1 m1 fun w h2 m2 ι2 H2 z R2 X2 s2 x2 r2 => ?_
  have q2 := (q.ext R1 X1).ext R2 X2
  refine ⟨ι2, h2, v, w, _, R2, RV.ext R1 X2 _ _ r1, r2, ?_, m2⟩
  intro y h3 m3 ι3 H3 y' R3 X3 r3
  cases y with
  | bl k =>
    unfold RV at r3
    refine ⟨k, r3, ?_⟩
    cases k with
    | false => exact q2 _ _ m3 _ _ _ R3 X3 (by unfold RV; rfl)
    | true =>
      refine canE_mk R3 (s2.ext R2 X3) (x2.ext R3 X3) m3 fun w' h4 m4 ι4 H4 z' R4 X4 s4 x4 r4 => ?_
      exact ⟨ι4, h4, w, w', Qm, R4, RV.ext R3 X4 _ _ (RV.ext R2 X3 _ _ r2), r4, (q2.ext R3 X3).ext R4 X4, m4⟩
  | _ => exact m3.elim
theorem e_chain {c : Expr} {op op' : CmpOp} {o o' : Op2} (ho : OpR X (compareOp op) (canR T o)) (ho' : OpR X (compareOp op') (canR T o')) (ha : PE X a (canE T W ma)) (hb : PE X b (canE T W mb)) (hc : PE X c (canE T W mc))
    (hm : lastMarks [op, op'] [b, c] = false) : PE X (.Compare a [op, op'] [b, c] pos) (canE T W (wChain o o' ma mb mc)) := PE.le (pe_chain ho ho' ha hb hc hm) fun _ _ _ c => rd_chain c
theorem t_chain {c : Expr} {op op' : CmpOp} {o o' : Op2} (ho : OpR X (compareOp op) (canR T o)) (ho' : OpR X (compareOp op') (canR T o')) (ha : PE X a (canE T W ma)) (hb : PE X b (canE T W mb)) (hc : PE X c (canE T W mc))
    (hm : lastMarks [op, op'] [b, c] = false) : PT X (.Compare a [op, op'] [b, c] pos) (canT T W (tV (wChain o o' ma mb mc))) := PT.le (pt_chain ho ho' ha hb hc hm) fun _ _ _ c => t_val_rd (fun _ _ _ c => rd_chain c) c
variable {ta tb : WT}
theorem canT_mk {σ : L2.St} {H : Hp} {Q : Bool → Hp → Prop} {ι : IA} {h : MH} {σm : MS} {Qm : Bool → MH → Prop} {Em : QX} (R : Rel T ι h H) (s : RS T ι H σm σ) (x : PX T ι H Em (L2.WE W σ)) (m : ta σm h Qm Em)
    (k : ∀ v h', Qm v h' → ∀ ι' H', Rel T ι' h' H' → Ext ι H ι' H' → RS T ι' H' σm σ → PX T ι' H' Em (L2.WE W σ) → Q v H') : canT T W ta σ H Q :=
  ⟨ι, h, σm, Qm, Em, R, s, fun v h' q ι' H' R' X' => k v h' q ι' H' R' X' (s.ext R X') (x.ext R' X'), x, m⟩
theorem qT_ext {ι ι1 : IA} {h1 : MH} {H H1 : Hp} {Qm : Bool → MH → Prop} {Q : Bool → Hp → Prop} (R1 : Rel T ι1 h1 H1) (X1 : Ext ι H ι1 H1) (q : ∀ (k : Bool) h', Qm k h' → ∀ ι' H', Rel T ι' h' H' → Ext ι H ι' H' → Q k H') :
    ∀ (k : Bool) h', Qm k h' → ∀ ι' H', Rel T ι' h' H' → Ext ι1 H1 ι' H' → Q k H' := fun k h' m ι' H' R' X' => q k h' m ι' H' R' (Ext.trans R1 X1 X')
theorem t_and1 (ha : PT X a (canT T W ta)) : PW X (.BoolOp .And [a] pos) (canT T W ta) := pw_and1 ha
theorem t_or1 (ha : PT X a (canT T W ta)) : PW X (.BoolOp .Or [a] pos) (canT T W ta) := pw_or1 ha
theorem t_and {r : List Expr} (ha : PT X a (canT T W ta)) (hb : PW X (.BoolOp .And (b :: r) pos) (canT T W tb)) : PW X (.BoolOp .And (a :: b :: r) pos) (canT T W (tAnd ta tb)) :=
  PW.le (pw_and ha hb) fun σ H Q ⟨ι, h, σm, Qm, Em, R, s, q, x, m⟩ => canT_mk R s x m fun k h1 m1 ι1 H1 R1 X1 s1 x1 => by
    cases k with
    | true => exact ⟨ι1, h1, σm, Qm, Em, R1, s1, qT_ext R1 X1 q, x1, m1⟩
    | false => exact q _ _ m1 _ _ R1 X1
theorem t_or {r : List Expr} (ha : PT X a (canT T W ta)) (hb : PW X (.BoolOp .Or (b :: r) pos) (canT T W tb)) : PW X (.BoolOp .Or (a :: b :: r) pos) (canT T W (tOr ta tb)) :=
  PW.le (pw_or ha hb) fun σ H Q ⟨ι, h, σm, Qm, Em, R, s, q, x, m⟩ => canT_mk R s x m fun k h1 m1 ι1 H1 R1 X1 s1 x1 => by
    cases k with
    | false => exact ⟨ι1, h1, σm, Qm, Em, R1, s1, qT_ext R1 X1 q, x1, m1⟩
    | true => exact q _ _ m1 _ _ R1 X1
theorem t_not (ha : PT X a (canT T W ta)) : PT X (.UnaryOp .Not a pos) (canT T W (tNot ta)) :=
  PT.le (pt_not ha) fun σ H Q ⟨ι, h, σm, Qm, Em, R, s, q, x, m⟩ => canT_mk R s x m fun k h1 m1 ι1 H1 R1 X1 s1 x1 => q _ _ m1 _ _ R1 X1
theorem rvs_empty {K : PySem.W.Frag} {ι : IA} {H : Hp} {ms : List MV} {vs : List V} (r : RVs K ι H ms vs) : ms.isEmpty = vs.isEmpty := by
  have := r.length
  cases ms <;> cases vs <;> first | rfl | simp at this
theorem st_len (s : String) : (st s).length = s.length := by
  unfold st
  rw [Str.ofString_eq_toList]
  show (s.toList.map Char.toNat).toArray.size = _
  rw [List.size_toArray, List.length_map]
  exact String.length_toList
theorem lim_le : lim ≤ sizeLine := by rw [sizeLine_eq]; unfold lim; omega
theorem tru_ok {ι : IA} {h : MH} {H : Hp} {v : MV} {u : V} {k : Bool} (R : Rel T ι h H) (r : RV T.K ι H v u) (e : tru h v = some k) : TruV T.K u H k := by
  cases v with
  | non => unfold RV at r; subst r; unfold tru at e; cases e; rfl
  | bl b => unfold RV at r; subst r; unfold tru at e; cases e; rfl
  | int i =>
    unfold RV at r; subst r; unfold tru at e; cases e
    show _ = (i != 0)
    by_cases c : i = 0 <;> simp [c]
  | str s =>
    unfold RV at r; subst r
    have e : (if s.length ≤ lim then some (decide (s ≠ "")) else none) = some k := e
    split at e
    · rename_i hl
      cases e
      refine ⟨by rw [st_len]; exact Nat.le_trans hl lim_le, ?_⟩
      rw [st_len]
      by_cases c : s = ""
      · subst c; rfl
      · have : s.length ≠ 0 := fun z => c (by simpa using z)
        simp [c]
    · cases e
  | tup xs =>
    unfold RV at r; obtain ⟨p, vs, rfl, e1, e2⟩ := r
    unfold tru at e; cases e
    exact .inr (.inl ⟨vs, e1, by rw [rvs_empty e2]⟩)
  | cst xs =>
    unfold RV at r; obtain ⟨p, vs, rfl, e1, e2⟩ := r
    unfold tru at e; cases e
    exact .inl ⟨vs, e1.l, by rw [rvs_empty e2]⟩
  | ref q i =>
    unfold RV at r; obtain ⟨p, e0, rfl⟩ := r
    have e : (match rd h q i with
      | some (.lst xs) => some (!xs.isEmpty)
      | some (.dic kvs) => some (!kvs.isEmpty)
      | _ => none) = some k := e
    split at e
    · rename_i xs hq
      cases e
      obtain ⟨p', e1, vs, e2, e3⟩ := R.of_rd hq
      rw [e0] at e1; cases e1
      exact .inl ⟨vs, SqL.of e2, by rw [rvs_empty e3]⟩
    · rename_i kvs hq
      cases e
      obtain ⟨p', e1, kws, e2, e3⟩ := R.of_rd hq
      rw [e0] at e1; cases e1
      exact .inr (.inr ⟨kws, e2, by cases e3 <;> rfl⟩)
    · cases e
  | exc _ => unfold tru at e; cases e
theorem t_tru (hK : X.K = T.K) (ha : PE X a (canE T W ma)) (he : ∀ whole, isTrue a X.env whole = (do let v ← whole; standAt a.pos; holding [v] (truthy v))) : PT X a (canT T W (tTru ma)) :=
  PT.le (pt_truth ha he) fun σ H Q ⟨ι, h, σm, Qm, Em, R, s, q, x, m⟩ => canE_mk R s x m fun v h1 m1 ι1 H1 u R1 X1 s1 x1 r1 => by
    have m1 : (match tru h1 v with | some k => Qm k h1 | none => False) := m1
    cases e : tru h1 v with
    | none => rw [e] at m1; exact m1.elim
    | some k =>
      rw [e] at m1
      exact ⟨k, by rw [hK]; exact tru_ok R1 r1 e, q k h1 m1 ι1 H1 R1 X1⟩
theorem e_if {c : Expr} (hc : PT X c (canT T W ta)) (ha : PE X a (canE T W ma)) (hb : PE X b (canE T W mb)) : PE X (.IfExp c a b pos) (canE T W (wIf ta ma mb)) :=
  PE.le (pe_ifExp hc ha hb) fun σ H Q ⟨ι, h, σm, Qm, Em, R, s, q, x, m⟩ => canT_mk R s x m fun k h1 m1 ι1 H1 R1 X1 s1 x1 => by
    cases k with
    | true => exact ⟨ι1, h1, σm, Qm, Em, R1, s1, q.ext R1 X1, x1, m1⟩
    | false => exact ⟨ι1, h1, σm, Qm, Em, R1, s1, q.ext R1 X1, x1, m1⟩
theorem e_one {op} (h : PE X a (canE T W ma)) : PE X (.BoolOp op [a] pos) (canE T W ma) := pe_one h
theorem e_and {r : List Expr} (ha : PE X a (canE T W ma)) (hb : PE X (.BoolOp .And (b :: r) pos) (canE T W mb)) : PE X (.BoolOp .And (a :: b :: r) pos) (canE T W (wAndV ma mb)) :=
  PE.le (pe_and ha hb) fun σ H Q ⟨ι, h, σm, Qm, Em, R, s, q, x, m⟩ => canE_mk R s x m fun v h1 m1 ι1 H1 u R1 X1 s1 x1 r1 => by
    cases v with
    | bl k =>
      unfold RV at r1
      refine ⟨k, r1, ?_⟩
      cases k with
      | true => exact ⟨ι1, h1, σm, Qm, Em, R1, s1, q.ext R1 X1, x1, m1⟩
      | false => exact q _ _ m1 _ _ _ R1 X1 (by unfold RV; rfl)
    | _ => exact m1.elim
theorem e_or {r : List Expr} (ha : PE X a (canE T W ma)) (hb : PE X (.BoolOp .Or (b :: r) pos) (canE T W mb)) : PE X (.BoolOp .Or (a :: b :: r) pos) (canE T W (wOrV ma mb)) :=
  PE.le (pe_or ha hb) fun σ H Q ⟨ι, h, σm, Qm, Em, R, s, q, x, m⟩ => canE_mk R s x m fun v h1 m1 ι1 H1 u R1 X1 s1 x1 r1 => by
    cases v with
    | bl k =>
      unfold RV at r1
      refine ⟨k, r1, ?_⟩
      cases k with
      | false => exact ⟨ι1, h1, σm, Qm, Em, R1, s1, q.ext R1 X1, x1, m1⟩
      | true => exact q _ _ m1 _ _ _ R1 X1 (by unfold RV; rfl)
    | _ => exact m1.elim
theorem e_not (hK : X.K = T.K) (ha : PE X a (canE T W ma)) : PE X (.UnaryOp .Not a pos) (canE T W (wNot (tTru ma))) :=
  PE.le (pe_notT ha) fun σ H Q ⟨ι, h, σm, Qm, Em, R, s, q, x, m⟩ => canE_mk R s x m fun v h1 m1 ι1 H1 u R1 X1 s1 x1 r1 => by
    have m1 : (match tru h1 v with | some k => Qm (.bl (!k)) h1 | none => False) := m1
    cases e : tru h1 v with
    | none => rw [e] at m1; exact m1.elim
    | some k =>
      rw [e] at m1
      exact ⟨k, by rw [hK]; exact tru_ok R1 r1 e, q _ h1 m1 ι1 H1 _ R1 X1 (by unfold RV; rfl)⟩
/-! ### argument lists, displays -/
variable {es : List Expr} {as : WA}
theorem a_nil : PA X [] (canA T W aNil) := PA.le pa_nil fun σ H Q ⟨ι, h, σm, Qm, Em, R, s, q, x, m⟩ => q [] h m ι H [] R Ext.refl RVs.nil
theorem canA_mk {σ : L2.St} {H : Hp} {Q : List V → Hp → Prop} {ι : IA} {h : MH} {σm : MS} {Qm : List MV → MH → Prop} {Em : QX} (R : Rel T ι h H) (s : RS T ι H σm σ) (x : PX T ι H Em (L2.WE W σ)) (m : as σm h Qm Em)
    (k : ∀ ms h', Qm ms h' → ∀ ι' H' vs, Rel T ι' h' H' → Ext ι H ι' H' → RS T ι' H' σm σ → PX T ι' H' Em (L2.WE W σ) → RVs T.K ι' H' ms vs → Q vs H') : canA T W as σ H Q :=
  ⟨ι, h, σm, Qm, Em, R, s, fun v h' q ι' H' u R' X' r => k v h' q ι' H' u R' X' (s.ext R X') (x.ext R' X') r, x, m⟩
theorem a_cons (ha : PE X a (canE T W ma)) (hr : PA X es (canA T W as)) (hs : starEach (a :: es) X.env = (false, eval a X.env) :: starEach es X.env := by rfl) : PA X (a :: es) (canA T W (aCons ma as)) :=
  PA.le (pa_cons ha hr hs) fun σ H Q ⟨ι, h, σm, Qm, Em, R, s, q, x, m⟩ => canE_mk R s x m fun v h1 m1 ι1 H1 u R1 X1 s1 x1 r1 =>
    canA_mk R1 s1 x1 m1 fun ms h2 m2 ι2 H2 vs R2 X2 s2 x2 r2 => q _ _ m2 _ _ _ R2 (Ext.trans R1 X1 X2) (RVs.cons (RV.ext R1 X2 _ _ r1) r2)
/-- a new tracked object -/
theorem new_at {ι : IA} {h : MH} {H : Hp} {r : Nat} {p : Addr} {O : HO} {o : MO} (R : Rel T ι h H) (hp : H p = none) (ho : Ext ι H (ia ι r p) (upd H p O) → OR T (ia ι r p) (upd H p O) p o) :
    Rel T (ia ι r p) (al h r o) (upd H p O) ∧ Ext ι H (ia ι r p) (upd H p O) ∧ RV T.K (ia ι r p) (upd H p O) (.ref r (h r).length) (.ref p) := by
  have X := ext_new (O := O) (r := r) R hp
  refine ⟨rel_new R hp (ho X), X, ?_⟩
  unfold RV
  refine ⟨p, ?_, rfl⟩
  rw [ia_same, ← R.len, List.getElem?_append_right (Nat.le_refl _)]
  simp
/-- a thing beside the heap (a tuple) -/
theorem aside {ι : IA} {h : MH} {H : Hp} {p : Addr} {O : HO} (R : Rel T ι h H) (hp : H p = none) : Rel T ι h (upd H p O) ∧ Ext ι H ι (upd H p O) := by
  have X : Ext ι H ι (upd H p O) := ⟨fun r => ⟨[], by simp, by simp⟩, fun a o e n => by rw [upd_ne (ne_of_none e hp)]; exact e⟩
  refine ⟨⟨R.len, fun r i o p' e1 e2 => (R.obj r i o p' e1 e2).ext R X (upd_ne fun z => ?_), R.inj⟩, X⟩
  subst z
  exact R.fresh hp r i e2
theorem tup_at {ι : IA} {h : MH} {H : Hp} {p : Addr} {ms : List MV} {vs : List V} (R : Rel T ι h H) (hp : H p = none) (r : RVs T.K ι H ms vs) :
    Rel T ι h (upd H p (.tup vs)) ∧ Ext ι H ι (upd H p (.tup vs)) ∧ RV T.K ι (upd H p (.tup vs)) (.tup ms) (.ref p) := by
  obtain ⟨R1, X1⟩ := aside (O := .tup vs) R hp
  refine ⟨R1, X1, ?_⟩
  unfold RV
  exact ⟨p, vs, rfl, SqT.of upd_same, RVs.ext R X1 _ _ r⟩
theorem e_tup {j} (h : PA X es (canA T W as)) : PE X (.Tuple es j pos) (canE T W (wTup as)) :=
  PE.le (pe_tup h) fun σ H Q ⟨ι, h, σm, Qm, Em, R, s, q, x, m⟩ => canA_mk R s x m fun ms h1 m1 ι1 H1 vs R1 X1 s1 x1 r1 => by
    obtain ⟨l, m1⟩ := m1
    refine ⟨by rw [← r1.length]; exact Nat.le_trans l lim_le, fun p hp => ?_⟩
    obtain ⟨R2, X2, r2⟩ := tup_at R1 hp r1
    exact q _ _ m1 _ _ _ R2 (Ext.trans R1 X1 X2) r2
theorem lst_at {ι : IA} {h : MH} {H : Hp} {r : Nat} {p : Addr} {ms : List MV} {vs : List V} (R : Rel T ι h H) (hp : H p = none) (q : RVs T.K ι H ms vs) :
    Rel T (ia ι r p) (al h r (.lst ms)) (upd H p (.lst vs)) ∧ Ext ι H (ia ι r p) (upd H p (.lst vs)) ∧ RV T.K (ia ι r p) (upd H p (.lst vs)) (.ref r (h r).length) (.ref p) :=
  new_at R hp fun X => ⟨vs, upd_same, RVs.ext R X _ _ q⟩
theorem e_lst {r : Nat} (h : PA X es (canA T W as)) : PE X (.List es pos) (canE T W (wLst r as)) :=
  PE.le (pe_lst h) fun σ H Q ⟨ι, h, σm, Qm, Em, R, s, q, x, m⟩ => canA_mk R s x m fun ms h1 m1 ι1 H1 vs R1 X1 s1 x1 r1 => by
    obtain ⟨l, m1⟩ := m1
    refine ⟨by rw [← r1.length]; exact Nat.le_trans l lim_le, fun p hp => ?_⟩
    obtain ⟨R2, X2, r2⟩ := lst_at (r := r) R1 hp r1
    exact q _ _ m1 _ _ _ R2 (Ext.trans R1 X1 X2) r2
end
end Mi
end TxMiniE

section TxMiniO
set_option Elab.async false
set_option linter.all false
set_option autoImplicit false
set_option maxRecDepth 100000
set_option maxHeartbeats 4000000
namespace Mi
open PySem PySem.Spec PyProof.Rows L2
theorem RV.int_ {K : PySem.W.Frag} {ι : IA} {H : Hp} {i : Int} {v : V} (r : RV K ι H (.int i) v) : v = .int i := by unfold RV at r; exact r
theorem RV.str_ {K : PySem.W.Frag} {ι : IA} {H : Hp} {i : String} {v : V} (r : RV K ι H (.str i) v) : v = .str (st i) := by unfold RV at r; exact r
theorem RV.bl_ {K : PySem.W.Frag} {ι : IA} {H : Hp} {i : Bool} {v : V} (r : RV K ι H (.bl i) v) : v = .bl i := by unfold RV at r; exact r
theorem RV.non_ {K : PySem.W.Frag} {ι : IA} {H : Hp} {v : V} (r : RV K ι H .non v) : v = .non := by unfold RV at r; exact r
theorem RV.ref_ {K : PySem.W.Frag} {ι : IA} {H : Hp} {q i : Nat} {v : V} (r : RV K ι H (.ref q i) v) : ∃ p, (ι q)[i]? = some p ∧ v = .ref p := by unfold RV at r; exact r
theorem RV.tup_ {K : PySem.W.Frag} {ι : IA} {H : Hp} {xs : List MV} {v : V} (r : RV K ι H (.tup xs) v) : ∃ p vs, v = .ref p ∧ L2.SqT K H p vs ∧ RVs K ι H xs vs := by unfold RV at r; exact r
theorem RV.cst_ {K : PySem.W.Frag} {ι : IA} {H : Hp} {xs : List MV} {v : V} (r : RV K ι H (.cst xs) v) : ∃ p vs, v = .ref p ∧ SqC K H p vs ∧ RVs K ι H xs vs := by unfold RV at r; exact r
theorem RV.int' {K : PySem.W.Frag} {ι : IA} {H : Hp} {i : Int} : RV K ι H (.int i) (.int i) := by unfold RV; rfl
theorem RV.bl' {K : PySem.W.Frag} {ι : IA} {H : Hp} {i : Bool} : RV K ι H (.bl i) (.bl i) := by unfold RV; rfl
theorem RV.str' {K : PySem.W.Frag} {ι : IA} {H : Hp} {i : String} : RV K ι H (.str i) (.str (st i)) := by unfold RV; rfl
theorem RV.non' {K : PySem.W.Frag} {ι : IA} {H : Hp} : RV K ι H .non .non := by unfold RV; rfl
theorem Rel.lst_ {T : Tx} {ι : IA} {h : MH} {H : Hp} (R : Rel T ι h H) {q i : Nat} {v : V} {xs : List MV} (r : RV T.K ι H (.ref q i) v) (e : rd h q i = some (.lst xs)) :
    ∃ p vs, v = .ref p ∧ (ι q)[i]? = some p ∧ H p = some (.lst vs) ∧ RVs T.K ι H xs vs := by
  obtain ⟨p, e1, rfl⟩ := r.ref_
  obtain ⟨p', e2, vs, e3, e4⟩ := R.of_rd e
  rw [e1] at e2; cases e2
  exact ⟨p, vs, rfl, e1, e3, e4⟩
theorem Rel.dic_ {T : Tx} {ι : IA} {h : MH} {H : Hp} (R : Rel T ι h H) {q i : Nat} {v : V} {kvs : List (MV × MV)} (r : RV T.K ι H (.ref q i) v) (e : rd h q i = some (.dic kvs)) :
    ∃ p kws, v = .ref p ∧ (ι q)[i]? = some p ∧ H p = some (.dK kws) ∧ Paired (fun (m : MV × MV) (k : Key × V) => KR m.1 k.1 ∧ RV T.K ι H m.2 k.2) kvs kws := by
  obtain ⟨p, e1, rfl⟩ := r.ref_
  obtain ⟨p', e2, vs, e3, e4⟩ := R.of_rd e
  rw [e1] at e2; cases e2
  exact ⟨p, vs, rfl, e1, e3, e4⟩
theorem Rel.ins_ {T : Tx} {ι : IA} {h : MH} {H : Hp} (R : Rel T ι h H) {q i : Nat} {v : V} {c : String} {fs : List (String × MV)} (r : RV T.K ι H (.ref q i) v) (e : rd h q i = some (.ins c fs)) :
    ∃ p dx fvs, v = .ref p ∧ (ι q)[i]? = some p ∧ c ∈ T.Cl ∧ (∀ p ∈ fs, p.1 ∈ T.Fl) ∧ H p = some (.ins (clA T.K c) dx fvs) ∧ Paired (fun (m : String × MV) (k : Str × V) => k.1 = st m.1 ∧ RV T.K ι H m.2 k.2) fs fvs := by
  obtain ⟨p, e1, rfl⟩ := r.ref_
  obtain ⟨p', e2, hc, hf, dx, fvs, e3, e4⟩ := R.of_rd e
  rw [e1] at e2; cases e2
  exact ⟨p, dx, fvs, rfl, e1, hc, hf, e3, e4⟩
theorem RVs.map_int {K : PySem.W.Frag} {ι : IA} {H : Hp} : ∀ {ns : List Int} {vs : List V}, RVs K ι H (ns.map .int) vs → vs = ns.map V.int
  | [], _, e => by unfold RVs at e; exact e
  | n :: ns, _, e => by
    unfold RVs at e
    obtain ⟨v, r, rfl, e2, e3⟩ := e
    rw [e2.int_, RVs.map_int e3]
    rfl
theorem str_app (a b : String) : st a ++ st b = st (a ++ b) := by
  unfold st
  rw [Str.ofString_eq_toList, Str.ofString_eq_toList, Str.ofString_eq_toList, String.toList_append, List.map_append]
  show Str.append _ _ = _
  unfold Str.append
  simp
section
variable {T : Tx} {X : Cx} {W : WX} {pos : Pos}
theorem le_line {n : Nat} (h : n ≤ lim) : n ≤ sizeLine := Nat.le_trans h lim_le
theorem lt_line {n : Nat} (h : n < lim) : n < sizeLine := Nat.lt_of_lt_of_le h lim_le
/-- the end of an operation that leaves the heap -/
theorem PQ.here {ι : IA} {h : MH} {H : Hp} {Qm : QV} {Q : VK} {v : MV} {u : V} (q : PQ T ι H Qm Q) (R : Rel T ι h H) (m : Qm v h) (r : RV T.K ι H v u) : Q u H := q v h m ι H u R Ext.refl r
theorem PQ.lst {ι : IA} {h : MH} {H : Hp} {Qm : QV} {Q : VK} {r : Nat} {ms : List MV} {vs : List V} {p : Addr} (q : PQ T ι H Qm Q) (R : Rel T ι h H) (m : Qm (.ref r (h r).length) (al h r (.lst ms))) (hp : H p = none) (e : RVs T.K ι H ms vs) : Q (.ref p) (upd H p (.lst vs)) := by
  obtain ⟨R2, X2, r2⟩ := lst_at (r := r) R hp e
  exact q _ _ m _ _ _ R2 X2 r2
theorem PQ.tup {ι : IA} {h : MH} {H : Hp} {Qm : QV} {Q : VK} {ms : List MV} {vs : List V} {p : Addr} (q : PQ T ι H Qm Q) (R : Rel T ι h H) (m : Qm (.tup ms) h) (hp : H p = none) (e : RVs T.K ι H ms vs) : Q (.ref p) (upd H p (.tup vs)) := by
  obtain ⟨R2, X2, r2⟩ := tup_at R hp e
  exact q _ _ m _ _ _ R2 X2 r2
theorem o_add {r : Nat} (hK : X.K = T.K) : OpR X (binaryOp .Add) (canR T (oAdd r)) := by
  intro pins s σ H x y v u Q I rx ry c
  obtain ⟨ι, h, mx, my, Qm, R, r1, r2, q, m⟩ := c
  cases mx with
  | int i =>
    cases my with
    | int j => cases r1.int_; cases r2.int_; exact op_add pins s σ H _ _ v u Q I rx ry ⟨i, j, rfl, rfl, q.here R m .int'⟩
    | _ => exact m.elim
  | str i =>
    cases my with
    | str j =>
      cases r1.str_; cases r2.str_
      obtain ⟨l, m⟩ := m
      exact op_add_str pins s σ H _ _ v u Q I rx ry ⟨_, _, rfl, rfl, by rw [st_len, st_len]; exact le_line l, q.here R m (by rw [str_app]; exact .str')⟩
    | _ => exact m.elim
  | tup xs =>
    cases my with
    | tup ys =>
      obtain ⟨l, m⟩ := m
      obtain ⟨p, vs, rfl, e1, e2⟩ := r1.tup_
      obtain ⟨p', vs', rfl, e1', e2'⟩ := r2.tup_
      have lv := e2.length
      have lv' := e2'.length
      refine op_catA pins s σ H _ _ v u Q I rx ry ⟨p, p', vs, vs', rfl, rfl, by rw [hK]; exact e1, by rw [hK]; exact e1', by rw [← lv, ← lv']; exact le_line l, fun z => ?_, fun _ z => ?_, fun _ _ a ha => q.tup R m ha (e2.append e2')⟩
      · rw [z] at lv
        have : xs = [] := List.length_eq_zero_iff.mp lv
        subst this
        refine q.here R (v := .tup ys) m ?_
        unfold RV
        exact ⟨p', vs', rfl, e1', e2'⟩
      · rw [z] at lv'
        have : ys = [] := List.length_eq_zero_iff.mp lv'
        subst this
        rw [List.append_nil] at m
        refine q.here R m ?_
        unfold RV
        exact ⟨p, vs, rfl, e1, e2⟩
    | _ => exact m.elim
  | ref a i =>
    cases my with
    | ref b j =>
      have m : (match rd h a i, rd h b j with
        | some (.lst x), some (.lst y) => x.length + y.length ≤ lim ∧ Qm (.ref r (h r).length) (al h r (.lst (x ++ y)))
        | _, _ => False) := m
      split at m
      · rename_i xs ys ea eb
        obtain ⟨l, m⟩ := m
        obtain ⟨p, vs, rfl, _, e1, e2⟩ := R.lst_ r1 ea
        obtain ⟨p', vs', rfl, _, e1', e2'⟩ := R.lst_ r2 eb
        exact op_cat pins s σ H _ _ v u Q I rx ry ⟨p, p', vs, vs', rfl, rfl, e1, e1', by rw [← e2.length, ← e2'.length]; exact le_line l, fun z hz => q.lst R m hz (e2.append e2')⟩
      · exact m.elim
    | _ => exact m.elim
  | _ => cases my <;> exact m.elim
theorem o_sub : OpR X (binaryOp .Sub) (canR T oSub) := by
  intro pins s σ H x y v u Q I rx ry c
  obtain ⟨ι, h, mx, my, Qm, R, r1, r2, q, m⟩ := c
  cases mx with
  | int i =>
    cases my with
    | int j => cases r1.int_; cases r2.int_; exact op_sub pins s σ H _ _ v u Q I rx ry ⟨i, j, rfl, rfl, q.here R m .int'⟩
    | _ => exact m.elim
  | _ => cases my <;> exact m.elim
theorem RVs.rep {K : PySem.W.Frag} {ι : IA} {H : Hp} {ms : List MV} {vs : List V} (e : RVs K ι H ms vs) : ∀ n : Nat, RVs K ι H (Mi.rep ms n) (List.replicate n vs).flatten
  | 0 => RVs.nil
  | n + 1 => by
    show RVs K ι H (List.replicate (n + 1) ms).flatten _
    rw [List.replicate_succ, List.replicate_succ, List.flatten_cons, List.flatten_cons]
    exact e.append (RVs.rep e n)
theorem o_mul {r : Nat} : OpR X (binaryOp .Mult) (canR T (oMul r)) := by
  intro pins s σ H x y v u Q I rx ry c
  obtain ⟨ι, h, mx, my, Qm, R, r1, r2, q, m⟩ := c
  cases mx with
  | int i =>
    cases my with
    | int j =>
      cases r1.int_; cases r2.int_
      obtain ⟨c, m⟩ := m
      refine op_mul pins s σ H _ _ v u Q I rx ry ⟨i, j, rfl, rfl, ?_, q.here R m .int'⟩
      rcases c with c | c
      · left; unfold small at c; omega
      · right; unfold small at c; omega
    | _ => exact m.elim
  | ref a i =>
    cases my with
    | int k =>
      cases r2.int_
      have m : (match rd h a i with
        | some (.lst x) => small k ∧ k ≤ lim ∧ x.length * k.toNat ≤ lim ∧ Qm (.ref r (h r).length) (al h r (.lst (Mi.rep x k.toNat)))
        | _ => False) := m
      split at m
      · rename_i xs ea
        obtain ⟨c, c2, l, m⟩ := m
        unfold small at c
        obtain ⟨p, vs, rfl, _, e1, e2⟩ := R.lst_ r1 ea
        exact op_rep pins s σ H _ _ v u Q I rx ry ⟨p, k, vs, rfl, rfl, e1, by omega, by omega, by rw [← e2.length]; exact le_line l, fun z hz => q.lst R m hz (e2.rep _)⟩
      · exact m.elim
    | _ => exact m.elim
  | _ => cases my <;> exact m.elim
theorem o_div : OpR X (binaryOp .FloorDiv) (canR T oDiv) := by
  intro pins s σ H x y v u Q I rx ry c
  obtain ⟨ι, h, mx, my, Qm, R, r1, r2, q, m⟩ := c
  cases mx with
  | int i =>
    cases my with
    | int j =>
      cases r1.int_; cases r2.int_
      obtain ⟨c1, c2, m⟩ := m
      exact op_fdivW pins s σ H _ _ v u Q I rx ry ⟨i, j, rfl, rfl, wide_div (b := 1000) c1 (by unfold dmax at c2; omega) (by omega) (by omega), q.here R m .int'⟩
    | _ => exact m.elim
  | _ => cases my <;> exact m.elim
theorem o_mod : OpR X (binaryOp .Mod) (canR T oMod) := by
  intro pins s σ H x y v u Q I rx ry c
  obtain ⟨ι, h, mx, my, Qm, R, r1, r2, q, m⟩ := c
  cases mx with
  | int i =>
    cases my with
    | int j =>
      cases r1.int_; cases r2.int_
      obtain ⟨c1, m⟩ := m
      exact op_mod pins s σ H _ _ v u Q I rx ry ⟨i, j, rfl, rfl, c1, q.here R m .int'⟩
    | _ => exact m.elim
  | _ => cases my <;> exact m.elim
theorem o_pow : OpR X (binaryOp .Pow) (canR T oPow) := by
  intro pins s σ H x y v u Q I rx ry c
  obtain ⟨ι, h, mx, my, Qm, R, r1, r2, q, m⟩ := c
  cases mx with
  | int i =>
    cases my with
    | int j =>
      cases r1.int_; cases r2.int_
      obtain ⟨c1, c2, c3, m⟩ := m
      unfold small at c3
      exact op_pow pins s σ H _ _ v u Q I rx ry ⟨i, j, rfl, rfl, ⟨c1, by omega, by omega⟩, q.here R m .int'⟩
    | _ => exact m.elim
  | _ => cases my <;> exact m.elim
theorem u_neg : UnR X (unaryOp .USub) (canU T uNeg) := by
  intro pins s σ H x v Q I rx c
  obtain ⟨ι, h, mx, Qm, R, r1, q, m⟩ := c
  cases mx with
  | int i => cases r1.int_; exact un_neg pins s σ H _ v Q I rx ⟨i, rfl, q.here R m .int'⟩
  | _ => exact m.elim
/-! ### comparisons -/
theorem o_ord {o : Op2} {op : CmpOp} {p : Int → Int → Bool} (hr : OpR X (compareOp op) (rI0 fun i j => .bl (p i j))) (ho : ∀ mx my h Q, o mx my h Q → ∃ i j, mx = .int i ∧ my = .int j ∧ Q (.bl (p i j)) h) : OpR X (compareOp op) (canR T o) := by
  intro pins s σ H x y v u Q I rx ry c
  obtain ⟨ι, h, mx, my, Qm, R, r1, r2, q, m⟩ := c
  obtain ⟨i, j, rfl, rfl, m'⟩ := ho _ _ _ _ m
  cases r1.int_; cases r2.int_
  exact hr pins s σ H _ _ v u Q I rx ry ⟨i, j, rfl, rfl, q.here R m' .bl'⟩
theorem o_lt : OpR X (compareOp .Lt) (canR T oLt) := o_ord op_lt fun mx my h Q m => by
  cases mx <;> cases my <;> first | exact ⟨_, _, rfl, rfl, m⟩ | exact m.elim
theorem o_le : OpR X (compareOp .LtE) (canR T oLe) := o_ord op_le fun mx my h Q m => by
  cases mx <;> cases my <;> first | exact ⟨_, _, rfl, rfl, m⟩ | exact m.elim
theorem o_gt : OpR X (compareOp .Gt) (canR T oGt) := o_ord op_gt fun mx my h Q m => by
  cases mx <;> cases my <;> first | exact ⟨_, _, rfl, rfl, m⟩ | exact m.elim
theorem o_ge : OpR X (compareOp .GtE) (canR T oGe) := o_ord op_ge fun mx my h Q m => by
  cases mx <;> cases my <;> first | exact ⟨_, _, rfl, rfl, m⟩ | exact m.elim
/-! == -/
mutual
def toPy : PD → PyData
  | .non => .none
  | .bl b => .bool b
  | .int i => .int i
  | .str s => .str (st s)
  | .tup xs => .tuple (toPys xs)
  | .lst xs => .list (toPys xs)
def toPys : List PD → List PyData
  | [] => []
  | x :: xs => toPy x :: toPys xs
end
theorem strOk_st (s : String) : PyData.strOk (st s) = true := by
  unfold st PyData.strOk
  rw [Str.ofString_eq_toList]
  simp only [List.all_toArray, List.all_map, List.all_eq_true, Function.comp]
  intro c _
  have h := c.valid
  simp only [UInt32.isValidChar, Nat.isValidChar] at h
  have : c.toNat = c.val.toNat := rfl
  simp only [decide_eq_true_eq]
  omega
mutual
theorem canLay_py : ∀ d : PD, (toPy d).canLay0 = true
  | .non => rfl
  | .bl _ => rfl
  | .int _ => rfl
  | .str s => by unfold toPy PyData.canLay0; exact strOk_st s
  | .tup xs => by unfold toPy PyData.canLay0; exact canLay_pys xs
  | .lst xs => by unfold toPy PyData.canLay0; exact canLay_pys xs
theorem canLay_pys : ∀ ds : List PD, PyData.canLayAll0 (toPys ds) = true
  | [] => rfl
  | d :: ds => by
    unfold toPys PyData.canLayAll0
    rw [canLay_py d, canLay_pys ds]
    rfl
end
mutual
theorem eqv_py : ∀ a b : PD, PyData.eqv (toPy a) (toPy b) = PD.eqv a b
  | .non, b => by cases b <;> (unfold toPy PyData.eqv PD.eqv; rfl)
  | .bl x, b => by cases b <;> (unfold toPy PyData.eqv PD.eqv; rfl)
  | .int i, b => by
    cases b with
    | int j => unfold toPy PyData.eqv PD.eqv; exact Bool.beq_eq_decide_eq i j
    | _ => unfold toPy PyData.eqv PD.eqv; rfl
  | .str i, b => by
    cases b with
    | str j =>
      unfold toPy PyData.eqv PD.eqv
      by_cases c : i = j
      · subst c; simp
      · rw [decide_eq_false c]
        exact beq_eq_false_iff_ne.mpr fun z => c (st_inj z)
    | _ => unfold toPy PyData.eqv PD.eqv; rfl
  | .tup xs, b => by
    cases b with
    | tup ys => unfold toPy PyData.eqv PD.eqv; exact eqv_pys xs ys
    | _ => unfold toPy PyData.eqv PD.eqv; rfl
  | .lst xs, b => by
    cases b with
    | lst ys => unfold toPy PyData.eqv PD.eqv; exact eqv_pys xs ys
    | _ => unfold toPy PyData.eqv PD.eqv; rfl
theorem eqv_pys : ∀ a b : List PD, PyData.eqvAll (toPys a) (toPys b) = PD.eqvs a b
  | [], [] => rfl
  | [], _ :: _ => by unfold toPys PyData.eqvAll PD.eqvs; rfl
  | _ :: _, [] => by unfold toPys PyData.eqvAll PD.eqvs; rfl
  | a :: as, b :: bs => by
    unfold toPys PyData.eqvAll PD.eqvs
    rw [eqv_py a b, eqv_pys as bs]
end
theorem dp_all {ι : IA} {h : MH} {H : Hp} {n : Nat} (ih : ∀ (v : MV) (u : V) (d : PD), RV T.K ι H v u → dat h n v = some d → Dp T.K H u (toPy d) ∧ (toPy d).depth ≤ n) :
    ∀ (xs : List MV) (vs : List V) (ds : List PD), RVs T.K ι H xs vs → xs.mapM (dat h n) = some ds → DpAll T.K H vs (toPys ds) ∧ PyData.depthAll (toPys ds) ≤ n
  | [], vs, ds, r, e => by
    unfold RVs at r; subst r
    simp at e; subst e
    exact ⟨.nil, Nat.zero_le _⟩
  | x :: xs, vs, ds, r, e => by
    unfold RVs at r
    obtain ⟨v, w, rfl, r1, r2⟩ := r
    rw [List.mapM_cons] at e
    simp only [Option.pure_def, Option.bind_eq_bind, Option.bind_eq_some_iff] at e
    obtain ⟨d, e1, ds', e2, e3⟩ := e
    cases e3
    obtain ⟨q1, q2⟩ := ih x v d r1 e1
    obtain ⟨q3, q4⟩ := dp_all ih xs w ds' r2 e2
    refine ⟨.cons q1 q3, ?_⟩
    show PyData.depthAll (toPy d :: toPys ds') ≤ n
    unfold PyData.depthAll
    omega
theorem dp_of {ι : IA} {h : MH} {H : Hp} (R : Rel T ι h H) : ∀ (n : Nat) (v : MV) (u : V) (d : PD), RV T.K ι H v u → dat h n v = some d → Dp T.K H u (toPy d) ∧ (toPy d).depth ≤ n
  | n, .non, u, d, r, e => by cases r.non_; unfold dat at e; cases e; exact ⟨.non, Nat.zero_le _⟩
  | n, .bl _, u, d, r, e => by cases r.bl_; unfold dat at e; cases e; exact ⟨.bl _, Nat.zero_le _⟩
  | n, .int _, u, d, r, e => by cases r.int_; unfold dat at e; cases e; exact ⟨.int _, Nat.zero_le _⟩
  | n, .str _, u, d, r, e => by cases r.str_; unfold dat at e; cases e; exact ⟨.str _, Nat.zero_le _⟩
  | 0, .tup _, u, d, r, e => by unfold dat at e; cases e
  | 0, .cst _, u, d, r, e => by unfold dat at e; cases e
  | 0, .ref _ _, u, d, r, e => by unfold dat at e; cases e
  | 0, .exc _, u, d, r, e => by unfold dat at e; cases e
  | n + 1, .exc _, u, d, r, e => by unfold dat at e; cases e
  | n + 1, .tup xs, u, d, r, e => by
    obtain ⟨p, vs, rfl, e1, e2⟩ := r.tup_
    unfold dat at e
    obtain ⟨ds, e3, rfl⟩ := Option.map_eq_some_iff.mp e
    obtain ⟨q1, q2⟩ := dp_all (fun v u d => dp_of R n v u d) xs vs ds e2 e3
    unfold toPy
    refine ⟨.tup e1 q1, ?_⟩
    unfold PyData.depth
    omega
  | n + 1, .cst xs, u, d, r, e => by
    obtain ⟨p, vs, rfl, e1, e2⟩ := r.cst_
    unfold dat at e
    obtain ⟨ds, e3, rfl⟩ := Option.map_eq_some_iff.mp e
    obtain ⟨q1, q2⟩ := dp_all (fun v u d => dp_of R n v u d) xs vs ds e2 e3
    unfold toPy
    refine ⟨.lst e1.l q1, ?_⟩
    unfold PyData.depth
    omega
  | n + 1, .ref a i, u, d, r, e => by
    have e : (match rd h a i with
      | some (.lst xs) => (xs.mapM (dat h n)).map .lst
      | _ => none) = some d := by unfold dat at e; exact e
    split at e
    · rename_i xs ea
      obtain ⟨p, vs, rfl, _, e1, e2⟩ := R.lst_ r ea
      obtain ⟨ds, e3, rfl⟩ := Option.map_eq_some_iff.mp e
      obtain ⟨q1, q2⟩ := dp_all (fun v u d => dp_of R n v u d) xs vs ds e2 e3
      unfold toPy
      refine ⟨.lst (L2.SqL.of e1) q1, ?_⟩
      unfold PyData.depth
      omega
    · cases e
theorem shaped_of {d : PD} {n : Nat} (h : (toPy d).depth ≤ n) (hn : n ≤ 64) : SeqAt.shaped (toPy d) = true := by
  unfold SeqAt.shaped
  rw [canLay_py, decide_eq_true (Nat.le_trans h hn)]
  rfl
theorem o_eq (hK : X.K = T.K) (hu : X.A.units + 64 < cLine) : OpR X (compareOp .Eq) (canR T oEq) := by
  intro pins s σ H x y v u Q I rx ry c
  obtain ⟨ι, h, mx, my, Qm, R, r1, r2, q, m⟩ := c
  unfold oEq at m
  split at m
  · rename_i d e e1 e2
    obtain ⟨q1, q2⟩ := dp_of R _ _ _ _ r1 e1
    obtain ⟨q3, q4⟩ := dp_of R _ _ _ _ r2 e2
    exact op_eqD hu pins s σ H _ _ v u Q I rx ry ⟨_, _, by rw [hK]; exact q1, by rw [hK]; exact q3, shaped_of q2 (by decide), shaped_of q4 (by decide), by rw [eqv_py]; exact q.here R m .bl'⟩
  · exact m.elim
theorem o_ne (hK : X.K = T.K) (hu : X.A.units + 64 < cLine) : OpR X (compareOp .NotEq) (canR T oNe) := by
  intro pins s σ H x y v u Q I rx ry c
  obtain ⟨ι, h, mx, my, Qm, R, r1, r2, q, m⟩ := c
  unfold oNe at m
  split at m
  · rename_i d e e1 e2
    obtain ⟨q1, q2⟩ := dp_of R _ _ _ _ r1 e1
    obtain ⟨q3, q4⟩ := dp_of R _ _ _ _ r2 e2
    exact op_neD hu pins s σ H _ _ v u Q I rx ry ⟨_, _, by rw [hK]; exact q1, by rw [hK]; exact q3, shaped_of q2 (by decide), shaped_of q4 (by decide), by rw [eqv_py]; exact q.here R m .bl'⟩
  · exact m.elim
theorem non_iff {ι : IA} {H : Hp} {m : MV} {v : V} (r : RV T.K ι H m v) : decide (v = .non) = isN m := by
  cases m with
  | non => cases r.non_; rfl
  | bl _ => cases r.bl_; rfl
  | int _ => cases r.int_; rfl
  | str _ => cases r.str_; rfl
  | tup _ => obtain ⟨_, _, rfl, _⟩ := r.tup_; rfl
  | cst _ => obtain ⟨_, _, rfl, _⟩ := r.cst_; rfl
  | ref _ _ => obtain ⟨_, _, rfl⟩ := r.ref_; rfl
  | exc _ => unfold RV at r; subst r; rfl
theorem o_is : OpR X (compareOp .Is) (canR T oIsN) := by
  intro pins s σ H x y v u Q I rx ry c
  obtain ⟨ι, h, mx, my, Qm, R, r1, r2, q, m⟩ := c
  unfold oIsN at m
  split at m
  · cases r2.non_
    exact op_isN pins s σ H _ _ v u Q I rx ry ⟨rfl, q.here R m (by rw [non_iff r1]; exact .bl')⟩
  · exact m.elim
theorem o_isnot : OpR X (compareOp .IsNot) (canR T oNotN) := by
  intro pins s σ H x y v u Q I rx ry c
  obtain ⟨ι, h, mx, my, Qm, R, r1, r2, q, m⟩ := c
  unfold oNotN at m
  split at m
  · cases r2.non_
    exact op_notN pins s σ H _ _ v u Q I rx ry ⟨rfl, q.here R m (by rw [non_iff r1]; exact .bl')⟩
  · exact m.elim
end
end Mi
end TxMiniO

section TxMiniC
set_option Elab.async false
set_option linter.all false
set_option autoImplicit false
set_option maxRecDepth 100000
set_option maxHeartbeats 4000000
namespace Mi
open PySem PySem.Spec PyProof.Rows L2
section
variable {T : Tx} {X : Cx} {W : WX} {pos : Pos}
/-! ### keys -/
theorem KR.eq {m1 m2 : MV} {k1 k2 : Key} (a : KR m1 k1) (b : KR m2 k2) : eqF m1 m2 = decide (k1 = k2) := by
  cases a with
  | int i => cases b with
    | int j => rw [key_ll]; unfold eqF; rw [Bool.beq_eq_decide_eq]
    | str j => rw [key_lr]; rfl
  | str i => cases b with
    | int j => rw [key_rl]; rfl
    | str j =>
      rw [key_rr]
      show decide (i = j) = decide (st i = st j)
      by_cases c : i = j
      · subst c; simp
      · rw [decide_eq_false c, decide_eq_false fun z => c (st_inj z)]
theorem key_of_ {m : MV} {v : V} {ι : IA} {H : Hp} (k : isKey m = true) (r : RV T.K ι H m v) : ∃ k, KR m k ∧ v = kV k := by
  cases m with
  | int i => cases r.int_; exact ⟨_, .int i, rfl⟩
  | str i => cases r.str_; exact ⟨_, .str i, rfl⟩
  | _ => cases k
variable {ι : IA} {h : MH} {H : Hp}
abbrev KVR (T : Tx) (ι : IA) (H : Hp) : List (MV × MV) → List (Key × V) → Prop := Paired (fun (m : MV × MV) (k : Key × V) => KR m.1 k.1 ∧ RV T.K ι H m.2 k.2)
theorem KVR.at_ {m : MV} {k : Key} (hk : KR m k) : ∀ {kvs : List (MV × MV)} {kws : List (Key × V)}, KVR T ι H kvs kws → (∀ v, Mi.atKey m kvs = some v → ∃ u, valV kws k = some u ∧ RV T.K ι H v u) ∧ Mi.hasKey m kvs = (valV kws k).isSome
  | _, _, .nil => by
    refine ⟨fun v e => ?_, rfl⟩
    cases e
  | _, _, .cons (a := p) (b := q) ⟨r1, r2⟩ t => by
    obtain ⟨i1, i2⟩ := KVR.at_ hk t
    have e := r1.eq hk
    unfold Mi.atKey Mi.hasKey valV at *
    rw [List.find?_cons, List.find?_cons, List.any_cons]
    rw [e]
    cases c : decide (q.1 = k) with
    | true => exact ⟨fun v z => ⟨q.2, rfl, by have z : some p.2 = some v := z; cases z; exact r2⟩, rfl⟩
    | false => exact ⟨i1, by rw [Bool.false_or]; exact i2⟩
theorem KVR.has_any {m : MV} {k : Key} (hk : KR m k) : ∀ {kvs : List (MV × MV)} {kws : List (Key × V)}, KVR T ι H kvs kws → Mi.hasKey m kvs = kws.any fun kv => decide (kv.1 = k)
  | _, _, .nil => rfl
  | _, _, .cons (a := p) (b := q) ⟨r1, r2⟩ t => by
    have i2 := KVR.has_any hk t
    unfold Mi.hasKey at *
    rw [List.any_cons, List.any_cons, r1.eq hk, i2]
theorem KVR.map_put {m v : MV} {k : Key} {u : V} (hk : KR m k) (hv : RV T.K ι H v u) : ∀ {kvs : List (MV × MV)} {kws : List (Key × V)}, KVR T ι H kvs kws →
    KVR T ι H (kvs.map fun p => if eqF p.1 m then (p.1, v) else p) (kws.map fun kv => if kv.1 = k then (kv.1, u) else kv)
  | _, _, .nil => .nil
  | _, _, .cons (a := p) (b := q) ⟨r1, r2⟩ t => by
    rw [List.map_cons, List.map_cons]
    refine .cons ?_ (KVR.map_put hk hv t)
    have e := r1.eq hk
    by_cases c : q.1 = k
    · rw [decide_eq_true c] at e
      rw [if_pos c, if_pos e]
      exact ⟨r1, hv⟩
    · rw [decide_eq_false c] at e
      rw [if_neg c, if_neg (by rw [e]; exact Bool.false_ne_true)]
      exact ⟨r1, r2⟩
theorem KVR.append : ∀ {kvs kvs' : List (MV × MV)} {kws kws' : List (Key × V)}, KVR T ι H kvs kws → KVR T ι H kvs' kws' → KVR T ι H (kvs ++ kvs') (kws ++ kws')
  | _, _, _, _, .nil, s => s
  | _, _, _, _, .cons r t, s => .cons r (KVR.append t s)
theorem KVR.put {m v : MV} {k : Key} {u : V} {kvs : List (MV × MV)} {kws : List (Key × V)} (hk : KR m k) (hv : RV T.K ι H v u) (r : KVR T ι H kvs kws) : KVR T ι H (putKey m v kvs) (putK kws k u) := by
  unfold putKey putK
  rw [r.has_any hk]
  by_cases c : (kws.any fun kv => decide (kv.1 = k)) = true
  · rw [if_pos c, if_pos c]
    exact KVR.map_put hk hv r
  · rw [if_neg c, if_neg c]
    exact KVR.append r (.cons ⟨hk, hv⟩ .nil)
theorem KVR.ext {ι' : IA} {H' : Hp} (R : Rel T ι h H) (X : Ext ι H ι' H') {kvs : List (MV × MV)} {kws : List (Key × V)} (r : KVR T ι H kvs kws) : KVR T ι' H' kvs kws := Paired.imp (fun a b q => ⟨q.1, RV.ext R X _ _ q.2⟩) r
/-! ### in -/
theorem flat_of {m : MV} {v : V} (r : RV T.K ι H m v) (f : Mi.flat m = true) : flatV v = true ∧ ∀ m' v', RV T.K ι H m' v' → Mi.flat m' = true → eqV v v' = eqF m m' := by
  cases m with
  | non => cases r.non_; exact ⟨rfl, fun m' v' r' f' => by cases m' <;> first | (cases f' <;> done) | (first | cases r'.non_ | cases r'.bl_ | cases r'.int_ | cases r'.str_) <;> rfl⟩
  | bl b => cases r.bl_; exact ⟨rfl, fun m' v' r' f' => by cases m' <;> first | (cases f' <;> done) | (first | cases r'.non_ | cases r'.bl_ | cases r'.int_ | cases r'.str_) <;> rfl⟩
  | int b =>
    cases r.int_
    refine ⟨rfl, fun m' v' r' f' => ?_⟩
    cases m' with
    | non => cases r'.non_; rfl
    | bl _ => cases r'.bl_; rfl
    | int j => cases r'.int_; exact Bool.beq_eq_decide_eq b j
    | str _ => cases r'.str_; rfl
    | _ => cases f'
  | str b =>
    cases r.str_
    refine ⟨rfl, fun m' v' r' f' => ?_⟩
    cases m' with
    | non => cases r'.non_; rfl
    | bl _ => cases r'.bl_; rfl
    | int j => cases r'.int_; rfl
    | str j =>
      cases r'.str_
      show (st b == st j) = decide (b = j)
      by_cases c : b = j
      · subst c; simp
      · rw [decide_eq_false c]
        exact beq_eq_false_iff_ne.mpr fun z => c (st_inj z)
    | _ => cases f'
  | _ => cases f
theorem flats_of : ∀ {ms : List MV} {vs : List V}, RVs T.K ι H ms vs → ms.all Mi.flat = true → vs.all flatV = true ∧ ∀ m' v', RV T.K ι H m' v' → Mi.flat m' = true → (vs.any fun y => eqV y v') = ms.any fun y => eqF y m'
  | [], _, e, _ => by unfold RVs at e; subst e; exact ⟨rfl, fun _ _ _ _ => rfl⟩
  | m :: ms, _, e, f => by
    unfold RVs at e
    obtain ⟨v, w, rfl, e1, e2⟩ := e
    rw [List.all_cons, Bool.and_eq_true] at f
    obtain ⟨a1, a2⟩ := flat_of e1 f.1
    obtain ⟨b1, b2⟩ := flats_of e2 f.2
    exact ⟨by rw [List.all_cons, a1, b1]; rfl, fun m' v' r' f' => by rw [List.any_cons, List.any_cons, a2 m' v' r' f', b2 m' v' r' f']⟩
theorem sign_of {s : String} {c : Char} (e : s.toList = [c]) : st s = ⟨#[c.toNat]⟩ := by
  unfold st
  rw [Str.ofString_eq_toList, e]
  rfl
theorem mem_st (z : String) (c : Char) : decide (c.toNat ∈ (st z).cps.toList) = z.toList.any fun d => decide (d = c) := by
  have e : (st z).cps.toList = z.toList.map Char.toNat := by
    unfold st
    rw [Str.ofString_eq_toList]
  rw [e, Bool.eq_iff_iff]
  simp only [decide_eq_true_eq, List.mem_map, List.any_eq_true]
  constructor
  · rintro ⟨d, hd, q⟩
    exact ⟨d, hd, Char.ext (UInt32.toNat.inj q)⟩
  · rintro ⟨d, hd, rfl⟩
    exact ⟨d, hd, rfl⟩
theorem inB_ok {op : CmpOp} {f : Bool → Bool} (hK : X.K = T.K) (h1 : OpR X (compareOp op) (fun x y H Q => ∃ p xs, y = .ref p ∧ (L2.SqL X.K H p xs ∨ L2.SqT X.K H p xs) ∧ flatV x = true ∧ xs.all flatV = true ∧ Q (.bl (f (inV x xs))) H))
    (h2 : OpR X (compareOp op) (fun y x H Q => ∃ a o, x = .ref a ∧ DGet H a y o ∧ Q (.bl (f o.isSome)) H))
    (h3 : OpR X (compareOp op) (fun x y H Q => ∃ (c : Nat) (z : Str), x = .str ⟨#[c]⟩ ∧ y = .str z ∧ Q (.bl (f (decide (c ∈ z.cps.toList)))) H)) :
    OpR X (compareOp op) (canR T fun x y h Q => match inB x y h with | some b => Q (.bl (f b)) h | none => False) := by
  intro pins s σ H x y v u Q I rx ry c
  obtain ⟨ι, h, mx, my, Qm, R, r1, r2, q, m⟩ := c
  have m : (match (generalizing := false) inB mx my h with | some b => Qm (.bl (f b)) h | none => False) := m
  cases e : inB mx my h with
  | none => rw [e] at m; exact m.elim
  | some b =>
    rw [e] at m
    have go : ∀ {p : Addr} {ms : List MV} {vs : List V}, y = .ref p → (L2.SqL X.K H p vs ∨ L2.SqT X.K H p vs) → RVs T.K ι H ms vs → (if Mi.flat mx && ms.all Mi.flat then some (ms.any fun y => eqF y mx) else none) = some b →
        wpAny (model X.prog X.w) X.A (compareOp op v u) (EP X pins σ Q) X.xe s := fun {p ms vs} hy hq hr hb => by
      split at hb
      · rename_i hf
        rw [Bool.and_eq_true] at hf
        obtain ⟨a1, _⟩ := flat_of r1 hf.1
        obtain ⟨b1, b2⟩ := flats_of hr hf.2
        refine h1 pins s σ H x y v u Q I rx ry ⟨p, vs, hy, hq, a1, b1, ?_⟩
        unfold inV
        rw [b2 _ _ r1 hf.1, Option.some.inj hb]
        exact q.here R m .bl'
      · cases hb
    cases my with
    | tup ys =>
      obtain ⟨p, vs, rfl, e1, e2⟩ := r2.tup_
      exact go rfl (.inr (by rw [hK]; exact e1)) e2 e
    | cst ys =>
      obtain ⟨p, vs, rfl, e1, e2⟩ := r2.cst_
      exact go rfl (.inl (by rw [hK]; exact e1.l)) e2 e
    | str z =>
      cases mx with
      | str w =>
        have e : (match w.toList with | [c] => some (z.toList.any fun d => decide (d = c)) | _ => none) = some b := e
        split at e
        · rename_i c hc
          cases r1.str_; cases r2.str_
          cases e
          refine h3 pins s σ H _ _ v u Q I rx ry ⟨c.toNat, st z, by rw [sign_of hc], rfl, ?_⟩
          rw [mem_st]
          exact q.here R m .bl'
        · cases e
      | _ => cases e
    | ref a i =>
      have e : (match rd h a i with
        | some (.lst ys) => if Mi.flat mx && ys.all Mi.flat then some (ys.any fun y => eqF y mx) else none
        | some (.dic kvs) => if isKey mx then some (hasKey mx kvs) else none
        | _ => none) = some b := e
      split at e
      · rename_i ys ea
        obtain ⟨p, vs, rfl, _, e1, e2⟩ := R.lst_ r2 ea
        exact go rfl (.inl (SqL.of e1)) e2 e
      · rename_i kvs ea
        split at e
        · rename_i hk
          cases e
          obtain ⟨k, k1, rfl⟩ := key_of_ hk r1
          obtain ⟨p, kws, rfl, _, e1, e2⟩ := R.dic_ r2 ea
          refine h2 pins s σ H _ _ v u Q I rx ry ⟨p, _, rfl, DGet.k e1, ?_⟩
          rw [← (KVR.at_ k1 e2).2]
          exact q.here R m .bl'
        · cases e
      · cases e
    | _ => cases e
theorem o_in (hK : X.K = T.K) (hu : X.A.units + 1 < cLine) : OpR X (compareOp .In) (canR T oIn) :=
  inB_ok (f := fun b => b) hK op_in_seq (fun pins s σ H y x v u Q I ry rx ⟨a, o, e, g, q⟩ => by
    subst e
    obtain rfl : u = Value.ref a := rx
    exact d_in hu I g ry fun s3 I3 => ⟨.bl o.isSome, H, I3, rfl, q⟩) op_in_sign
theorem o_notin (hK : X.K = T.K) (hu : X.A.units + 1 < cLine) : OpR X (compareOp .NotIn) (canR T oNotIn) :=
  inB_ok (f := fun b => !b) hK op_notIn_seq (fun pins s σ H y x v u Q I ry rx ⟨a, o, e, g, q⟩ => by
    subst e
    obtain rfl : u = Value.ref a := rx
    exact d_notIn hu I g ry fun s3 I3 => ⟨.bl (!o.isSome), H, I3, rfl, q⟩) op_notIn_sign
/-! ### items -/
theorem ix_dic (hu : X.A.units + 1 < cLine) : IxR X (fun x y H Q => ∃ a v, x = .ref a ∧ DGet H a y (some v) ∧ Q v H) := by
  intro value slice pins s σ H x y v u Q I rx ry hq hs
  obtain ⟨a, w, rfl, g, q⟩ := hq
  obtain rfl : v = Value.ref a := rx
  have ty := dict_typeIs I g
  unfold subscriptTail
  refine wpAny_bind ?_
  rw [getitemInPython_of_ne ty.not_modules]
  refine wpAny_bind (wpAny_specialOf ty PySem.F.slot_dict_getitem.lookup ?_)
  have fin : wpAny (model X.prog X.w) X.A (subscripted slice false (.ref a) u) (fun r s₃ => wpAny (model X.prog X.w) X.A (letTemporaryGo value (.ref a) r >>= fun _ => pure r) (EP X pins σ Q) X.xe s₃) X.xe s := by
    rw [hs]
    exact wpAny_operating (d_getItem hu I g ry fun w' s3 I3 rw' => wpAny_bind (wpAny_letTemporaryGo (wpAny_pure ⟨w, H, I3, rw', q⟩)))
  first
    | exact wpAny_pure (wpAny_bind fin)
    | exact wpAny_bind (wpAny_pure (wpAny_bind fin))
    | exact wpAny_bind fin
theorem RVs.atI : ∀ {ms : List MV} {vs : List V} {i : Int} {m : MV}, RVs T.K ι H ms vs → Mi.atI ms i = some m → ∃ v, L2.atI vs i = some v ∧ RV T.K ι H m v := fun {ms vs i m} r e => by
  unfold Mi.atI at e
  obtain ⟨j, e1, e2⟩ := Option.bind_eq_some_iff.mp e
  obtain ⟨v, e3, e4⟩ := r.get e2
  refine ⟨v, ?_, e4⟩
  unfold L2.atI
  rw [← r.length]
  have : L2.ixN ms.length i = some j := e1
  rw [this]
  exact e3
theorem ix_ok (hK : X.K = T.K) (hu : X.A.units + 1 < cLine) : IxR X (canR T oIx) := by
  intro value slice pins s σ H x y v u Q I rx ry c hs
  obtain ⟨ι, h, mx, my, Qm, R, r1, r2, q, m⟩ := c
  have m' : (match (generalizing := false) getIx mx my h with | some v => Qm v h | none => False) := m
  clear m
  cases e : getIx mx my h with
  | none => rw [e] at m'; exact m'.elim
  | some w =>
    rw [e] at m'
    have m' : Qm w h := m'
    cases mx with
    | tup xs => cases my with
      | int i =>
        obtain ⟨p, vs, rfl, e1, e2⟩ := r1.tup_
        cases r2.int_
        obtain ⟨z, e3, e4⟩ := e2.atI (show Mi.atI xs i = some w from e)
        exact ix_tup value slice pins s σ H _ _ v u Q I rx ry ⟨p, vs, i, z, rfl, rfl, by rw [hK]; exact e1, e3, q.here R m' e4⟩ hs
      | _ => cases e
    | cst xs => cases my with
      | int i =>
        obtain ⟨p, vs, rfl, e1, e2⟩ := r1.cst_
        cases r2.int_
        obtain ⟨z, e3, e4⟩ := e2.atI (show Mi.atI xs i = some w from e)
        exact ix_list value slice pins s σ H _ _ v u Q I rx ry ⟨p, vs, i, z, rfl, rfl, by rw [hK]; exact e1.l, e3, q.here R m' e4⟩ hs
      | _ => cases e
    | str z => cases my with
      | int i =>
        cases r1.str_; cases r2.int_
        have e : (if z.length ≤ lim then (Mi.atI z.toList i).map fun c => .str (String.singleton c) else none) = some w := e
        split at e
        · rename_i hl
          obtain ⟨c, e1, rfl⟩ := Option.map_eq_some_iff.mp e
          have e2 : L2.atI (st z).cps.toList i = some c.toNat := by
            have e3 : (st z).cps.toList = z.toList.map Char.toNat := by
              unfold st
              rw [Str.ofString_eq_toList]
            unfold Mi.atI at e1
            obtain ⟨j, e4, e5⟩ := Option.bind_eq_some_iff.mp e1
            unfold L2.atI
            rw [e3, List.length_map]
            have : L2.ixN z.toList.length i = some j := e4
            rw [this]
            show (z.toList.map Char.toNat)[j]? = _
            rw [List.getElem?_map, e5]
            rfl
          refine ix_str value slice pins s σ H _ _ v u Q I rx ry ⟨st z, i, c.toNat, rfl, rfl, by rw [st_len]; exact le_line hl, e2, ?_⟩ hs
          rw [← sign_of (s := String.singleton c) (c := c) (by simp)]
          exact q.here R m' .str'
        · cases e
      | _ => cases e
    | ref a i =>
      have e : (match (generalizing := false) rd h a i, my with
        | some (.lst xs), .int i => Mi.atI xs i
        | some (.dic kvs), k => if isKey k then Mi.atKey k kvs else none
        | _, _ => none) = some w := e
      split at e
      · rename_i xs j ea _
        obtain ⟨p, vs, rfl, _, e1, e2⟩ := R.lst_ r1 ea
        cases r2.int_
        obtain ⟨z, e3, e4⟩ := e2.atI e
        exact ix_list value slice pins s σ H _ _ v u Q I rx ry ⟨p, vs, j, z, rfl, rfl, SqL.of e1, e3, q.here R m' e4⟩ hs
      · rename_i kvs ea _
        split at e
        · rename_i hk
          obtain ⟨k, k1, rfl⟩ := key_of_ hk r2
          obtain ⟨p, kws, rfl, _, e1, e2⟩ := R.dic_ r1 ea
          obtain ⟨z, e3, e4⟩ := (KVR.at_ k1 e2).1 w e
          exact ix_dic hu value slice pins s σ H _ _ v u Q I rx ry ⟨p, z, rfl, by rw [← e3]; exact DGet.k e1, q.here R m' e4⟩ hs
        · cases e
      · cases e
    | _ => cases e
variable {a b e : Expr} {ma mb me : WE}
theorem e_ix (hK : X.K = T.K) (hu : X.A.units + 1 < cLine) (ha : PE X a (canE T W ma)) (hb : PE X b (canE T W mb)) (hs : PlainIx b) : PE X (.Subscript a b pos) (canE T W (wOp oIx ma mb)) :=
  PE.le (pe_ix (ix_ok hK hu) ha hb hs) fun _ _ _ c => rd_op c
/-! ### slices -/
def canO (T : Tx) (W : WX) (m : WO) : L2.TO := fun σ H Q => ∃ ι h σm Qm Em, Rel T ι h H ∧ RS T ι H σm σ ∧ (∀ k h', Qm k h' → ∀ ι' H', Rel T ι' h' H' → Ext ι H ι' H' → Q k H') ∧ PX T ι H Em (L2.WE W σ) ∧ m σm h Qm Em
theorem p_none : PO X none (canO T W pNone) := ⟨fun pins s σ H Q I c => po_none.run pins s σ H Q I (by
  obtain ⟨ι, h, σm, Qm, Em, R, s, q, x, m⟩ := c
  exact q _ _ m _ _ R Ext.refl)⟩
theorem p_some (ha : PE X a (canE T W ma)) : PO X (some a) (canO T W (pSome ma)) := ⟨fun pins s σ H Q I c => (po_some ha).run pins s σ H Q I (by
  obtain ⟨ι, h, σm, Qm, Em, R, s, q, x, m⟩ := c
  refine canE_mk R s x m fun v h1 m1 ι1 H1 u R1 X1 s1 x1 r1 => ?_
  cases v with
  | int i => exact ⟨i, r1.int_, q _ _ m1 _ _ R1 X1⟩
  | _ => exact m1.elim)⟩
theorem sIx_eq (n d : Nat) (o : Option Int) : HT.sIx n d o = Mi.sIx n d o := by
  unfold HT.sIx Mi.sIx
  cases o <;> rfl
theorem RVs.cut {ms : List MV} {vs : List V} (r : RVs T.K ι H ms vs) (lo hi : Option Int) : RVs T.K ι H (Mi.cut ms lo hi) (cutV vs lo hi) := by
  unfold Mi.cut cutV
  rw [← r.length, sIx_eq, sIx_eq]
  exact (r.drop _).take _
def canL (T : Tx) (r : Nat) : V → Option Int → Option Int → Hp → VK → Prop := fun x l u H Q => ∃ ι h mx Qm, Rel T ι h H ∧ RV T.K ι H mx x ∧ PQ T ι H Qm Q ∧ (match mx with
  | .tup xs => Qm (.tup (Mi.cut xs l u)) h
  | .str s => s.length ≤ lim ∧ Qm (.str (String.ofList (Mi.cut s.toList l u))) h
  | .cst xs => Qm (.ref r (h r).length) (al h r (.lst (Mi.cut xs l u)))
  | .ref q i => match rd h q i with
    | some (.lst xs) => Qm (.ref r (h r).length) (al h r (.lst (Mi.cut xs l u)))
    | _ => False
  | _ => False)
theorem cutS_st (s : String) (lo hi : Option Int) : cutS (st s) lo hi = st (String.ofList (Mi.cut s.toList lo hi)) := by
  have e3 : (st s).cps.toList = s.toList.map Char.toNat := by
    unfold st
    rw [Str.ofString_eq_toList]
  unfold cutS Mi.cut
  rw [e3, st_len, sIx_eq, sIx_eq, ← List.map_drop, ← List.map_take]
  unfold st
  rw [Str.ofString_eq_toList, String.toList_ofList, String.length_toList]
theorem sl_ok {r : Nat} (hK : X.K = T.K) : SlR X (canL T r) := by
  intro pins s σ H x v vl vu lo hi sl Q I rx hs pl pu c
  obtain ⟨ι, h, mx, Qm, R, r1, q, m⟩ := c
  cases mx with
  | tup xs =>
    obtain ⟨p, vs, rfl, e1, e2⟩ := r1.tup_
    refine sl_tupA pins s σ H _ v vl vu lo hi sl Q I rx hs pl pu ⟨p, vs, rfl, by rw [hK]; exact e1, fun z => ?_, fun z a ha => q.tup R m ha (e2.cut lo hi)⟩
    have e : Mi.cut xs lo hi = xs := by
      unfold Mi.cut
      rw [← sIx_eq, ← sIx_eq, e2.length, z.1, z.2, ← e2.length]
      simp
    have m : Qm (.tup (Mi.cut xs lo hi)) h := m
    rw [e] at m
    refine q.here R m ?_
    unfold RV
    exact ⟨p, vs, rfl, e1, e2⟩
  | str z =>
    cases r1.str_
    obtain ⟨l, m⟩ := (show z.length ≤ lim ∧ Qm (.str (String.ofList (Mi.cut z.toList lo hi))) h from m)
    refine sl_str pins s σ H _ v vl vu lo hi sl Q I rx hs pl pu ⟨st z, rfl, by rw [st_len]; exact le_line l, ?_⟩
    rw [cutS_st]
    exact q.here R m .str'
  | cst xs =>
    obtain ⟨p, vs, rfl, e1, e2⟩ := r1.cst_
    exact sl_list pins s σ H _ v vl vu lo hi sl Q I rx hs pl pu ⟨p, vs, rfl, by rw [hK]; exact e1.l, fun a ha => q.lst R m ha (e2.cut lo hi)⟩
  | ref a i =>
    have m : (match rd h a i with
      | some (.lst xs) => Qm (.ref r (h r).length) (al h r (.lst (Mi.cut xs lo hi)))
      | _ => False) := m
    split at m
    · rename_i xs ea
      obtain ⟨p, vs, rfl, _, e1, e2⟩ := R.lst_ r1 ea
      exact sl_list pins s σ H _ v vl vu lo hi sl Q I rx hs pl pu ⟨p, vs, rfl, SqL.of e1, fun a ha => q.lst R m ha (e2.cut lo hi)⟩
    · exact m.elim
  | _ => exact m.elim
theorem e_sl {r : Nat} {lo hi : Option Expr} {ml mh : WO} {p2 : Pos} (hK : X.K = T.K) (ha : PE X a (canE T W ma)) (hl : PO X lo (canO T W ml)) (hh : PO X hi (canO T W mh)) :
    PE X (.Subscript a (.Slice lo hi none p2) pos) (canE T W (wSl r ma ml mh)) := PE.le (pe_slice (sl_ok (T := T) (r := r) hK) ha hl hh) fun σ H Q ⟨ι, h, σm, Qm, Em, R, s, q, x, m⟩ => by
  refine canE_mk R s x m fun v h1 m1 ι1 H1 u R1 X1 s1 x1 r1 => ?_
  refine ⟨ι1, h1, σm, _, Em, R1, s1, fun l h2 m2 ι2 H2 R2 X2 => ?_, x1, m1⟩
  refine ⟨ι2, h2, σm, _, Em, R2, s1.ext R1 X2, fun y h3 m3 ι3 H3 R3 X3 => ?_, x1.ext R2 X2, m2⟩
  exact ⟨ι3, h3, v, Qm, R3, RV.ext R2 X3 _ _ (RV.ext R1 X2 _ _ r1), ((q.ext R1 X1).ext R2 X2).ext R3 X3, m3⟩
end
end Mi
end TxMiniC

section TxMiniD
set_option Elab.async false
set_option linter.all false
set_option autoImplicit false
set_option maxRecDepth 100000
set_option maxHeartbeats 4000000
namespace Mi
open PySem PySem.Spec PyProof.Rows L2
/-! ### fields -/
section
variable {T : Tx} {X : Cx} {W : WX} {pos : Pos} {ι : IA} {h : MH} {H : Hp}
abbrev FVR (T : Tx) (ι : IA) (H : Hp) : List (String × MV) → List (Str × V) → Prop := Paired (fun (m : String × MV) (k : Str × V) => k.1 = st m.1 ∧ RV T.K ι H m.2 k.2)
theorem st_beq (a b : String) : (st a == st b) = (a == b) := by
  by_cases c : a = b
  · subst c; simp
  · rw [beq_eq_false_iff_ne.mpr c]
    exact beq_eq_false_iff_ne.mpr fun z => c (st_inj z)
theorem FVR.look : ∀ {fs : List (String × MV)} {gs : List (Str × V)} {f : String}, FVR T ι H fs gs → (∀ v, fs.lookup f = some v → ∃ u, gs.lookup (st f) = some u ∧ RV T.K ι H v u) ∧ (fs.lookup f = none → gs.lookup (st f) = none)
  | _, _, f, .nil => by
    refine ⟨fun v e => ?_, fun _ => rfl⟩
    cases e
  | _, _, f, .cons (a := p) (b := q) ⟨r1, r2⟩ t => by
    obtain ⟨i1, i2⟩ := FVR.look (f := f) t
    obtain ⟨p1, p2⟩ := p
    obtain ⟨q1, q2⟩ := q
    simp only at r1 r2
    subst r1
    rw [List.lookup_cons, List.lookup_cons, st_beq]
    cases c : f == p1 with
    | true => exact ⟨fun v e => ⟨q2, rfl, by cases e; exact r2⟩, fun e => by cases e⟩
    | false => exact ⟨i1, i2⟩
theorem FVR.put {f : String} {v : MV} {u : V} (hv : RV T.K ι H v u) : ∀ {fs : List (String × MV)} {gs : List (Str × V)}, FVR T ι H fs gs → FVR T ι H (Mi.putF f v fs) (L2.putF (st f) u gs)
  | _, _, .nil => .cons ⟨rfl, hv⟩ .nil
  | _, _, .cons (a := p) (b := q) ⟨r1, r2⟩ t => by
    have ih := FVR.put (f := f) hv t
    obtain ⟨p1, p2⟩ := p
    obtain ⟨q1, q2⟩ := q
    simp only at r1 r2
    subst r1
    show FVR T ι H (if f = p1 then (p1, v) :: _ else (p1, p2) :: Mi.putF f v _) (if st p1 = st f then (st p1, u) :: _ else (st p1, q2) :: L2.putF (st f) u _)
    by_cases c : f = p1
    · subst c
      rw [if_pos rfl, if_pos rfl]
      exact .cons ⟨rfl, hv⟩ t
    · rw [if_neg c, if_neg (fun z => c (st_inj z).symm)]
      exact .cons ⟨rfl, r2⟩ ih
theorem FVR.length {fs : List (String × MV)} {gs : List (Str × V)} (r : FVR T ι H fs gs) : fs.length = gs.length := Paired.length r
theorem FVR.ext {ι' : IA} {H' : Hp} (R : Rel T ι h H) (X : Ext ι H ι' H') {fs : List (String × MV)} {gs : List (Str × V)} (r : FVR T ι H fs gs) : FVR T ι' H' fs gs := Paired.imp (fun a b q => ⟨q.1, RV.ext R X _ _ q.2⟩) r
/-- an object changed -/
theorem wr_at {r i : Nat} {p : Addr} {O : HO} {o : MO} {Qm : MH → Prop} {Q : Hp → Prop} (R : Rel T ι h H) (hp : (ι r)[i]? = some p) (ho : Ext ι H ι (upd H p O) → OR T ι (upd H p O) p o) :
    Rel T ι (wr h r i o) (upd H p O) ∧ Ext ι H ι (upd H p O) := by
  have X := ext_wr (O := O) R hp
  exact ⟨rel_wr R hp (ho X), X⟩
theorem wr_lst {r i : Nat} {p : Addr} {ms : List MV} {vs : List V} (R : Rel T ι h H) (hp : (ι r)[i]? = some p) (e : RVs T.K ι H ms vs) :
    Rel T ι (wr h r i (.lst ms)) (upd H p (.lst vs)) ∧ Ext ι H ι (upd H p (.lst vs)) :=
  wr_at (Qm := fun _ => True) (Q := fun _ => True) R hp fun X => ⟨vs, upd_same, RVs.ext R X _ _ e⟩
theorem wr_dic {r i : Nat} {p : Addr} {ms : List (MV × MV)} {vs : List (Key × V)} (R : Rel T ι h H) (hp : (ι r)[i]? = some p) (e : KVR T ι H ms vs) :
    Rel T ι (wr h r i (.dic ms)) (upd H p (.dK vs)) ∧ Ext ι H ι (upd H p (.dK vs)) :=
  wr_at (Qm := fun _ => True) (Q := fun _ => True) R hp fun X => ⟨vs, upd_same, KVR.ext R X e⟩
theorem wr_ins {r i : Nat} {p dx : Addr} {c : String} {ms : List (String × MV)} {vs : List (Str × V)} (R : Rel T ι h H) (hp : (ι r)[i]? = some p) (hc : c ∈ T.Cl) (hf : ∀ p ∈ ms, p.1 ∈ T.Fl) (e : FVR T ι H ms vs) :
    Rel T ι (wr h r i (.ins c ms)) (upd H p (.ins (clA T.K c) dx vs)) ∧ Ext ι H ι (upd H p (.ins (clA T.K c) dx vs)) :=
  wr_at (Qm := fun _ => True) (Q := fun _ => True) R hp fun X => ⟨hc, hf, dx, vs, upd_same, FVR.ext R X e⟩
variable {o e : Expr} {mo me : WE}
theorem e_fld {f : String} (hK : X.K = T.K) (hc : ∀ c ∈ T.Cl, Cls T.K (clA T.K c)) (hn : ∀ c ∈ T.Cl, NoAttr T.K (clA T.K c) (st f)) (he : PE X e (canE T W me)) (hb : attributeBase e (st f) X.env (eval e X.env) = eval e X.env) :
    PE X (.Attribute e (st f) pos) (canE T W (wFld me f)) := PE.le (pe_fld he hb) fun σ H Q ⟨ι, h, σm, Qm, Em, R, s, q, x, m⟩ => by
  refine canE_mk R s x m fun v h1 m1 ι1 H1 u R1 X1 s1 x1 r1 => ?_
  cases v with
  | ref r i =>
    have m1 : (match rd h1 r i with
      | some (.ins _ fs) => match fs.lookup f with
        | some v => Qm v h1
        | none => False
      | _ => False) := m1
    split at m1
    · rename_i c fs ea
      obtain ⟨p, dx, gs, rfl, _, cl, _, e1, e2⟩ := R1.ins_ r1 ea
      split at m1
      · rename_i w el
        obtain ⟨z, e3, e4⟩ := (FVR.look e2).1 w el
        exact ⟨p, _, dx, gs, z, rfl, e1, by rw [hK]; exact hc c cl, by rw [hK]; exact hn c cl, e3, (q.ext R1 X1).here R1 m1 e4⟩
      · exact m1.elim
    · exact m1.elim
  | _ => exact m1.elim
/-! ### what defs promise -/
def spM (T : Tx) (F : WF) : Sp := fun vs H Q E => ∃ ι h ms Qm Em, Rel T ι h H ∧ RVs T.K ι H ms vs ∧ PQ T ι H Qm Q ∧ PX T ι H Em E ∧ F ms h Qm Em
/-- the function object at an address -/
def FdAt (K : PySem.W.Frag) (f : Addr) (fd : FuncData) : Prop := ∃ oc od osl, K.lookup f = some ⟨oc, od, .func fd, osl⟩
theorem FdAt.inj {K : PySem.W.Frag} {f : Addr} {fd fd' : FuncData} (a : FdAt K f fd) (b : FdAt K f fd') : fd = fd' := by
  obtain ⟨_, _, _, a⟩ := a
  obtain ⟨_, _, _, b⟩ := b
  rw [a] at b
  cases b
  rfl
/-- a def of the text: it keeps its reading -/
structure FnM (T : Tx) (P : Program) (w : World) (mg : Str → Option Value) (base : Heap) (k : Nat) (x : String) (ps : List Str) (F : WF) : Prop where
  ok : ∃ fd, FnOk P w T.K mg base (L2.CX P w) k (He.ga T.K (st x)) fd ps (spM T F) ∧ Binds T.K fd ps [] ∧ FdAt T.K (He.ga T.K (st x)) fd
  at_ : mg (st x) = some (.ref (He.ga T.K (st x)))
  kp : PySem.W.keepIn T.K (.ref (He.ga T.K (st x))) = true
/-- a method -/
structure MtM (T : Tx) (P : Program) (w : World) (mg : Str → Option Value) (base : Heap) (k : Nat) (c m : String) (ps : List Str) (F : WF) : Prop where
  ok : ∃ fd, FnOk P w T.K mg base (L2.CX P w) k (He.ma T.K (clA T.K c) (st m)) fd ps (spM T F) ∧ Binds T.K fd ps []
  at_ : Meth T.K (clA T.K c) (st m) (He.ma T.K (clA T.K c) (st m))
variable {P : Program} {w : World} {mg : Str → Option Value} {base : Heap} {k j : Nat} {x c mt : String} {ps : List Str} {F : WF} {es : List Expr} {as : WA}
theorem FnM.mono (f : FnM T P w mg base j x ps F) (h : j ≤ k) : FnM T P w mg base k x ps F := ⟨let ⟨fd, a, b, c⟩ := f.ok; ⟨fd, a.mono h, b, c⟩, f.at_, f.kp⟩
theorem MtM.mono (f : MtM T P w mg base j c mt ps F) (h : j ≤ k) : MtM T P w mg base k c mt ps F := ⟨let ⟨fd, a, b⟩ := f.ok; ⟨fd, a.mono h, b⟩, f.at_⟩
theorem sp_of {σ : L2.St} {Q : VK} {Qm : QV} {Em : QX} {ms : List MV} {vs : List V} (R : Rel T ι h H) (r : RVs T.K ι H ms vs) (q : PQ T ι H Qm Q) (x : PX T ι H Em (L2.WE W σ)) (m : F ms h Qm Em) : spM T F vs H Q (L2.WE W σ) := ⟨ι, h, ms, Qm, Em, R, r, q, x, m⟩
theorem e_call {e : Expr} {p : Pos} (hK : X.K = T.K) (tk : Takes X W) (f : FnM T X.prog X.w X.mg X.base j x ps F) (hj : j ≤ k) (hr : Room k X.A) (hg : Gl X (st x)) (ha : PA X (e :: es) (canA T W as)) (hdb : (st x == ("__debug__" : Str)) = false)
    (he : starEach (e :: es) X.env = (false, eval e X.env) :: starEach es X.env := by rfl) (hpl : (backTo pos (starEach es X.env)).any (·.1) = false := by rfl) :
    PE X (.Call (.Name (st x) p) (e :: es) [] pos) (canE T W (wCall F as)) := by
  obtain ⟨fd, g, b, _⟩ := f.ok
  rw [← hK] at g b
  have kp := f.kp
  have at_ := f.at_
  rw [← hK] at kp at_
  refine PE.le (pe_callS (E := L2.WE W) g (hr.mono hj) hg at_ kp b (fun σ => passAt tk σ) ha hdb he hpl) fun σ H Q ⟨ι, h, σm, Qm, Em, R, s, q, x, m⟩ => ?_
  exact canA_mk R s x m fun ms h1 m1 ι1 H1 vs R1 X1 s1 x1 r1 => sp_of R1 r1 (q.ext R1 X1) x1 m1
theorem e_call0 {p : Pos} (hK : X.K = T.K) (tk : Takes X W) (f : FnM T X.prog X.w X.mg X.base j x ps F) (hj : j ≤ k) (hr : Room k X.A) (hg : Gl X (st x)) (hdb : (st x == ("__debug__" : Str)) = false) :
    PE X (.Call (.Name (st x) p) [] [] pos) (canE T W (wCall F aNil)) := by
  obtain ⟨fd, g, b, _⟩ := f.ok
  rw [← hK] at g b
  have kp := f.kp
  have at_ := f.at_
  rw [← hK] at kp at_
  refine ⟨fun pins s σ H Q I ⟨ι, h, σm, Qm, Em, R, sr, q, x, m⟩ => ?_⟩
  refine wpAny_Call_Name_kw (ld_glob I hg at_ ?_ hdb)
  exact PySem.W.callWith_K0 I.kIn kp (run_fnS (E := L2.WE W) (us := []) g (hr.mono hj) b (passAt tk σ) I .nil (sp_of R RVs.nil q x m))
/-- which methods an expression may come to -/
def MtAll (T : Tx) (P : Program) (w : World) (mg : Str → Option Value) (base : Heap) (k : Nat) (m : String) (tb : String → Option WF) : Prop := ∀ c F, c ∈ T.Cl → tb c = some F → ∃ ps, MtM T P w mg base k c m ps F
def tb1 (c : String) (F : WF) : String → Option WF := fun d => if d = c then some F else none
def tbO (a b : String → Option WF) : String → Option WF := fun d => match a d with
  | some F => some F
  | none => b d
theorem MtAll.one (f : MtM T P w mg base j c mt ps F) (h : j ≤ k) : MtAll T P w mg base k mt (tb1 c F) := fun d G _ e => by
  unfold tb1 at e
  split at e
  · rename_i z
    subst z
    cases e
    exact ⟨ps, f.mono h⟩
  · cases e
theorem MtAll.or {a b : String → Option WF} (f : MtAll T P w mg base k mt a) (g : MtAll T P w mg base k mt b) : MtAll T P w mg base k mt (tbO a b) := fun d G hd e => by
  have e : (match a d with | some F => some F | none => b d) = some G := e
  split at e
  · rename_i F ea
    cases e
    exact f d G hd ea
  · exact g d G hd e
theorem nolook {fs : List (String × MV)} {gs : List (Str × V)} {Fl : List String} (r : FVR T ι H fs gs) (hf : ∀ p ∈ fs, p.1 ∈ Fl) (hm : mt ∉ Fl) : gs.lookup (st mt) = none := by
  refine (FVR.look r).2 ?_
  cases e : fs.lookup mt with
  | none => rfl
  | some v =>
    have : (mt, v) ∈ fs := by
      have := List.lookup_eq_some_iff.mp e
      obtain ⟨l1, l2, e1, _⟩ := this
      rw [e1]
      simp
    exact absurd (hf _ this) hm
end
end Mi
end TxMiniD

section TxMiniF
set_option Elab.async false
set_option linter.all false
set_option autoImplicit false
set_option maxRecDepth 100000
set_option maxHeartbeats 4000000
namespace Mi
open PySem PySem.Spec PyProof.Rows L2
section
variable {T : Tx} {X : Cx} {W : WX} {pos : Pos} {ι : IA} {h : MH} {H : Hp} {o e : Expr} {mo me : WE}
variable {P : Program} {w : World} {mg : Str → Option Value} {base : Heap} {k j : Nat} {x c mt : String} {ps : List Str} {F : WF} {es : List Expr} {as : WA} {tb : String → Option WF}
/-! ### methods -/
theorem e_meth {apos : Pos} {pl : Sem Bool} (hK : X.K = T.K) (tk : Takes X W) (hc : ∀ c ∈ T.Cl, Cls T.K (clA T.K c)) (f : MtAll T X.prog X.w X.mg X.base k mt tb) (hm : mt ∉ T.Fl) (hr : Room k X.A) (ho : PE X o (canE T W mo)) (ha : PA X (e :: es) (canA T W as))
    (hst : starEach (e :: es) X.env = (false, eval e X.env) :: starEach es X.env := by rfl) (hpl : (backTo pos (starEach es X.env)).any (·.1) = false := by rfl)
    (ht : eval (.Call (.Attribute o (st mt) apos) (e :: es) [] pos) X.env = (do
      let ov ← eval o X.env
      standAt apos.atName
      let (f, first) ← holding [ov] (getMethod ov (st mt) pl)
      callWith pos f first (backTo pos (starEach (e :: es) X.env)) (backToKw pos (keywordEach [] X.env))) := by rfl) :
    PE X (.Call (.Attribute o (st mt) apos) (e :: es) [] pos) (canE T W (wMeth tb mo as)) := by
  refine ⟨fun pins s σ H Q I ⟨ι, h, σm, Qm, Em, R, sr, q, xx, m⟩ => ?_⟩
  refine PySem.W.methodCall_KW (pl := pl) (thn (ho.run pins s σ H (fun x H1 => ∃ ι1 h1 r i c fs F, Rel T ι1 h1 H1 ∧ Ext ι H ι1 H1 ∧ RV T.K ι1 H1 (.ref r i) x ∧ rd h1 r i = some (.ins c fs) ∧ tb c = some F ∧ as σm h1 (fun vs h2 => F (.ref r i :: vs) h2 Qm Em) Em) I
    (canE_mk R sr xx m fun v h1 m1 ι1 H1 u R1 X1 s1 x1 r1 => ?_)) fun u s1 ⟨x, H1, I1, rx, ι1, h1, r, i, c, fs, F, R1, X1, r1, ea, et, m1⟩ => ?_) ht
  · cases v with
    | ref r i =>
      have m2 : (match rd h1 r i with
        | some (.ins c _) => match tb c with
          | some F => as σm h1 (fun vs h2 => F (.ref r i :: vs) h2 Qm Em) Em
          | none => False
        | _ => False) := m1
      split at m2
      · rename_i c fs ea
        split at m2
        · rename_i F et
          exact ⟨ι1, h1, r, i, c, fs, F, R1, X1, r1, ea, et, m2⟩
        · exact m2.elim
      · exact m2.elim
    | _ => exact m1.elim
  · obtain ⟨p, dx, gs, rfl, e0, cl, hf, e1, e2⟩ := R1.ins_ r1 ea
    obtain rfl : u = Value.ref p := rx
    obtain ⟨ps, M⟩ := f c F cl et
    obtain ⟨fd, g, b⟩ := M.ok
    have at_ := M.at_
    have hcl := hc c cl
    rw [← hK] at g b at_ hcl e1
    refine getmeth_ok I1 e1 hcl at_ (nolook e2 hf hm) ?_
    have A1 : canA T W as σ H1 (fun vs H2 => spM T F (.ref p :: vs) H2 Q (L2.WE W σ)) :=
      canA_mk R1 (sr.ext R X1) (xx.ext R1 X1) m1 fun ms h2 m2 ι2 H2 vs R2 X2 s2 x2 r2 => sp_of R2 (RVs.cons (RV.ext R1 X2 _ _ r1) r2) ((q.ext R1 X1).ext R2 X2) x2 m2
    refine PySem.W.callWith_K (first := [.ref p]) (h₀ := X.base) I.ok.mod.kin at_.kp (thn (ha.run pos pins s1 σ H1 _ I1 A1) fun us s2 ⟨vs, H2, I2, r, q2⟩ => ⟨I2.kIn, ?_⟩) hst hpl
    exact run_fnS (E := L2.WE W) (us := .ref p :: us) (vs := .ref p :: vs) g hr b (passAt tk σ) I2 (.cons rfl r) q2
theorem e_meth0 {apos : Pos} {pl : Sem Bool} (hK : X.K = T.K) (tk : Takes X W) (hc : ∀ c ∈ T.Cl, Cls T.K (clA T.K c)) (f : MtAll T X.prog X.w X.mg X.base k mt tb) (hm : mt ∉ T.Fl) (hr : Room k X.A) (ho : PE X o (canE T W mo))
    (ht : eval (.Call (.Attribute o (st mt) apos) [] [] pos) X.env = (do
      let ov ← eval o X.env
      standAt apos.atName
      let (f, first) ← holding [ov] (getMethod ov (st mt) pl)
      callWith pos f first (backTo pos (starEach [] X.env)) (backToKw pos (keywordEach [] X.env))) := by rfl) :
    PE X (.Call (.Attribute o (st mt) apos) [] [] pos) (canE T W (wMeth tb mo aNil)) := by
  refine ⟨fun pins s σ H Q I ⟨ι, h, σm, Qm, Em, R, sr, q, xx, m⟩ => ?_⟩
  refine PySem.W.methodCall_KW (pl := pl) (thn (ho.run pins s σ H (fun x H1 => ∃ ι1 h1 r i c fs F, Rel T ι1 h1 H1 ∧ Ext ι H ι1 H1 ∧ RV T.K ι1 H1 (.ref r i) x ∧ rd h1 r i = some (.ins c fs) ∧ tb c = some F ∧ F [.ref r i] h1 Qm Em) I
    (canE_mk R sr xx m fun v h1 m1 ι1 H1 u R1 X1 s1 x1 r1 => ?_)) fun u s1 ⟨x, H1, I1, rx, ι1, h1, r, i, c, fs, F, R1, X1, r1, ea, et, m1⟩ => ?_) ht
  · cases v with
    | ref r i =>
      have m2 : (match rd h1 r i with
        | some (.ins c _) => match tb c with
          | some F => F [.ref r i] h1 Qm Em
          | none => False
        | _ => False) := m1
      split at m2
      · rename_i c fs ea
        split at m2
        · rename_i F et
          exact ⟨ι1, h1, r, i, c, fs, F, R1, X1, r1, ea, et, m2⟩
        · exact m2.elim
      · exact m2.elim
    | _ => exact m1.elim
  · obtain ⟨p, dx, gs, rfl, e0, cl, hf, e1, e2⟩ := R1.ins_ r1 ea
    obtain rfl : u = Value.ref p := rx
    obtain ⟨ps, M⟩ := f c F cl et
    obtain ⟨fd, g, b⟩ := M.ok
    have at_ := M.at_
    have hcl := hc c cl
    rw [← hK] at g b at_ hcl e1
    refine getmeth_ok I1 e1 hcl at_ (nolook e2 hf hm) ?_
    exact PySem.W.callWith_K0 (first := [.ref p]) I1.kIn at_.kp (run_fnS (E := L2.WE W) (us := [.ref p]) (vs := [.ref p]) g hr b (passAt tk σ) I1 (.cons rfl .nil)
      (sp_of R1 (RVs.one r1) (q.ext R1 X1) (xx.ext R1 X1) m1))
/-! ### instances made -/
/-- a class whose instances are made here -/
structure MkM (T : Tx) (P : Program) (w : World) (mg : Str → Option Value) (base : Heap) (k : Nat) (c : String) (ps : List Str) (F : WF) : Prop where
  cl : c ∈ T.Cl
  ok : ∃ fd, FnOk P w T.K mg base (L2.CX P w) k (He.ma T.K (clA T.K c) (st "__init__")) fd ps (spM T F) ∧ Binds T.K fd ps []
  mk_ : Mk T.K (clA T.K c) (He.ma T.K (clA T.K c) (st "__init__"))
  at_ : mg (st c) = some (.ref (clA T.K c))
theorem MkM.mono (f : MkM T P w mg base j c ps F) (h : j ≤ k) : MkM T P w mg base k c ps F := ⟨f.cl, let ⟨fd, a, b⟩ := f.ok; ⟨fd, a.mono h, b⟩, f.mk_, f.at_⟩
theorem run_mk {pins : List (Addr × Obj)} {σ : L2.St} {H : Hp} {s : Shared} {Q : VK} {us : List Value} {vs : List V} {C f : Addr} {fd : FuncData} {ps : List Str} {sp : Sp} (M : Mk X.K C f) (F : FnOk X.prog X.w X.K X.mg X.base (L2.CX X.prog X.w) k f fd ps sp) (hr : Room (k + 1) X.A) (hb : Binds X.K fd ps [])
    (tk : Takes X W) (I : Inv X pins σ H s) (r : Vals vs us)
    (h : ∀ x dx, H x = none → H dx = none → dx ≠ x → sp (.ref x :: vs) (upd (upd H dx (.own x)) x (.ins C dx [])) (fun v H2 => v = .non ∧ Q (.ref x) H2) (L2.WE W σ)) :
    wpAny (model X.prog X.w) X.A (call (.ref C) us) (EP X pins σ Q) X.xe s := by
  have hq := h (s.heap.objs.size + 1) s.heap.objs.size (I.hok.fresh (Nat.le_succ _)) (I.hok.fresh (Nat.le_refl _)) (Nat.ne_of_lt (Nat.lt_succ_self _))
  have I2 := Inv.made (C := C) I
  have r2 : Vals (V.ref (s.heap.objs.size + 1) :: vs) (Value.ref (s.heap.objs.size + 1) :: us) := .cons rfl r
  have hl : ((Value.ref (s.heap.objs.size + 1) :: us) ++ []).length = ps.length := by
    rw [List.append_nil, ← r2.length]
    exact F.len _ _ _ _ hq
  have b := hb _ (Value.ref (s.heap.objs.size + 1) :: us) I2.kIn hl
  rw [List.append_nil] at b
  refine wpAny_call (make_map (f := f) I.kIn M.makes M.init (beq_iff_eq.mp M.fn) (codeAny_mono (F.run _ X.stack _ _ ⟨Value.ref (s.heap.objs.size + 1) :: us, []⟩ (Value.ref (s.heap.objs.size + 1) :: us) _ _ (L2.WE W σ) (hr.make C us [])
    (I2.env0.make C us []) b r2 hq) fun r s' hq' => ?_))
  cases r with
  | error e => exact passAt tk σ pins _ _ e s' I2 hq'
  | ok fl =>
    cases fl with
    | ret u =>
      obtain ⟨v, H', I3, rv, ev, q3⟩ := I2.after hq'
      subst ev
      exact ⟨rv, ⟨V.ref (s.heap.objs.size + 1), H', I3, rfl, q3⟩⟩
    | next => exact False.elim hq'
    | brk => exact False.elim hq'
    | cont => exact False.elim hq'
theorem ins_at {r : Nat} {p dx : Addr} (cl : c ∈ T.Cl) (R : Rel T ι h H) (hp : H p = none) (hd : H dx = none) (ne : dx ≠ p) :
    Rel T (ia ι r p) (al h r (.ins c [])) (upd (upd H dx (.own p)) p (.ins (clA T.K c) dx [])) ∧ Ext ι H (ia ι r p) (upd (upd H dx (.own p)) p (.ins (clA T.K c) dx [])) ∧
      RV T.K (ia ι r p) (upd (upd H dx (.own p)) p (.ins (clA T.K c) dx [])) (.ref r (h r).length) (.ref p) := by
  obtain ⟨R1, X1⟩ := aside (O := .own p) R hd
  obtain ⟨R2, X2, r2⟩ := new_at (r := r) (p := p) (O := .ins (clA T.K c) dx []) (o := .ins c []) R1 (by rw [upd_ne ne.symm]; exact hp) fun _ => ⟨cl, by simp, dx, [], upd_same, .nil⟩
  exact ⟨R2, Ext.trans R1 X1 X2, r2⟩
theorem sp_mk {r : Nat} {σ : L2.St} {Q : VK} {Qm : QV} {Em : QX} {ms : List MV} {vs : List V} (cl : c ∈ T.Cl) (R : Rel T ι h H) (rv : RVs T.K ι H ms vs) (q : PQ T ι H Qm Q) (xx : PX T ι H Em (L2.WE W σ))
    (m : F (.ref r (h r).length :: ms) (al h r (.ins c [])) (fun v h2 => match v with | .non => Qm (.ref r (h r).length) h2 | _ => False) Em) :
    ∀ x dx, H x = none → H dx = none → dx ≠ x → spM T F (.ref x :: vs) (upd (upd H dx (.own x)) x (.ins (clA T.K c) dx [])) (fun v H2 => v = .non ∧ Q (.ref x) H2) (L2.WE W σ) := fun p dx hp hd ne => by
  obtain ⟨R1, X1, r1⟩ := ins_at (r := r) cl R hp hd ne
  refine ⟨_, _, _, _, Em, R1, RVs.cons r1 (RVs.ext R X1 _ _ rv), ?_, xx.ext R1 X1, m⟩
  intro v h2 m2 ι2 H2 u R2 X2 r2
  cases v with
  | non => exact ⟨r2.non_, q _ _ m2 _ _ _ R2 (Ext.trans R1 X1 X2) (RV.ext R1 X2 _ _ r1)⟩
  | _ => exact m2.elim
theorem e_make {r : Nat} {e : Expr} {p : Pos} (hK : X.K = T.K) (tk : Takes X W) (f : MkM T X.prog X.w X.mg X.base j c ps F) (hj : j ≤ k) (hr : Room (k + 1) X.A) (hg : Gl X (st c)) (ha : PA X (e :: es) (canA T W as)) (hdb : (st c == ("__debug__" : Str)) = false)
    (he : starEach (e :: es) X.env = (false, eval e X.env) :: starEach es X.env := by rfl) (hpl : (backTo pos (starEach es X.env)).any (·.1) = false := by rfl) :
    PE X (.Call (.Name (st c) p) (e :: es) [] pos) (canE T W (wMake c r F as)) := by
  obtain ⟨fd, g, b⟩ := f.ok
  have M := f.mk_
  have at_ := f.at_
  have cl := f.cl
  rw [← hK] at g b M at_
  refine ⟨fun pins s σ H Q I ⟨ι, h, σm, Qm, Em, R, sr, q, xx, m⟩ => ?_⟩
  refine wpAny_Call_Name_kw (ld_glob I hg at_ ?_ hdb)
  refine PySem.W.callWith_K (h₀ := X.base) I.ok.mod.kin M.kp (thn (ha.run pos pins s σ H (fun vs H1 => ∃ ι1 h1 ms, Rel T ι1 h1 H1 ∧ Ext ι H ι1 H1 ∧ RVs T.K ι1 H1 ms vs ∧
      F (.ref r (h1 r).length :: ms) (al h1 r (.ins c [])) (fun v h2 => match v with | .non => Qm (.ref r (h1 r).length) h2 | _ => False) Em) I
      (canA_mk R sr xx m fun ms h1 m1 ι1 H1 vs R1 X1 s1 x1 r1 => ⟨ι1, h1, ms, R1, X1, r1, m1⟩)) fun us s1 ⟨vs, H1, I1, ru, ι1, h1, ms, R1, X1, r1, m1⟩ => ⟨I1.kIn, ?_⟩) he hpl
  refine run_mk M g (hr.mono (by omega)) b tk I1 ru ?_
  rw [hK]
  exact sp_mk cl R1 r1 (q.ext R1 X1) (xx.ext R1 X1) m1
theorem e_make0 {r : Nat} {p : Pos} (hK : X.K = T.K) (tk : Takes X W) (f : MkM T X.prog X.w X.mg X.base j c ps F) (hj : j ≤ k) (hr : Room (k + 1) X.A) (hg : Gl X (st c)) (hdb : (st c == ("__debug__" : Str)) = false) :
    PE X (.Call (.Name (st c) p) [] [] pos) (canE T W (wMake c r F aNil)) := by
  obtain ⟨fd, g, b⟩ := f.ok
  have M := f.mk_
  have at_ := f.at_
  have cl := f.cl
  rw [← hK] at g b M at_
  refine ⟨fun pins s σ H Q I ⟨ι, h, σm, Qm, Em, R, sr, q, xx, m⟩ => ?_⟩
  refine wpAny_Call_Name_kw (ld_glob I hg at_ ?_ hdb)
  refine PySem.W.callWith_K0 I.kIn M.kp (run_mk (us := []) M g (hr.mono (by omega)) b tk I .nil ?_)
  rw [hK]
  exact sp_mk cl R RVs.nil q xx m
/-! ### built-in functions -/
def canB (T : Tx) (b : List MV → MH → QV → Prop) : List V → Hp → VK → Prop := fun vs H Q => ∃ ι h ms Qm, Rel T ι h H ∧ RVs T.K ι H ms vs ∧ PQ T ι H Qm Q ∧ b ms h Qm
theorem rd_b {b : List MV → MH → QV → Prop} {σ : L2.St} {H : Hp} {Q : VK} (c : canE T W (wB b as) σ H Q) : tCB (canB T b) (canA T W as) σ H Q := by
  obtain ⟨ι, h, σm, Qm, Em, R, s, q, x, m⟩ := c
  exact canA_mk R s x m fun ms h1 m1 ι1 H1 vs R1 X1 s1 x1 r1 => ⟨ι1, h1, ms, Qm, R1, r1, q.ext R1 X1, m1⟩
theorem e_b {x : Str} {id : String} {p : Pos} {b : List MV → MH → QV → Prop} (hb : CallR X (.builtin id) (canB T b)) (hg : Gl X x) (hm : X.mg x = none) (hv : bootBuiltins x = some (.builtin id)) (ha : PA X (e :: es) (canA T W as)) (hn : x ≠ "__name__") (hdb : (x == ("__debug__" : Str)) = false)
    (he : starEach (e :: es) X.env = (false, eval e X.env) :: starEach es X.env := by rfl) (hpl : (backTo pos (starEach es X.env)).any (·.1) = false := by rfl) : PE X (.Call (.Name x p) (e :: es) [] pos) (canE T W (wB b as)) :=
  PE.le (pe_callB hb hg hm hv ha hn hdb he hpl) fun _ _ _ c => rd_b c
theorem e_bt {x : Str} {id : String} {p : Pos} {b : List MV → MH → QV → Prop} (hb : CallR X (.type id) (canB T b)) (hg : Gl X x) (hm : X.mg x = none) (hv : bootBuiltins x = some (.type id)) (ha : PA X (e :: es) (canA T W as)) (hn : x ≠ "__name__") (hdb : (x == ("__debug__" : Str)) = false)
    (he : starEach (e :: es) X.env = (false, eval e X.env) :: starEach es X.env := by rfl) (hpl : (backTo pos (starEach es X.env)).any (·.1) = false := by rfl) : PE X (.Call (.Name x p) (e :: es) [] pos) (canE T W (wB b as)) :=
  PE.le (pe_callTy hb hg hm hv ha hn hdb he hpl) fun _ _ _ c => rd_b c
theorem RVs.one_ {K : PySem.W.Frag} {m : MV} {vs : List V} (r : RVs K ι H [m] vs) : ∃ v, vs = [v] ∧ RV K ι H m v := by
  unfold RVs at r
  obtain ⟨v, r', rfl, e1, e2⟩ := r
  unfold RVs at e2
  subst e2
  exact ⟨v, rfl, e1⟩
theorem RVs.two_ {K : PySem.W.Frag} {m n : MV} {vs : List V} (r : RVs K ι H [m, n] vs) : ∃ v u, vs = [v, u] ∧ RV K ι H m v ∧ RV K ι H n u := by
  unfold RVs at r
  obtain ⟨v, r', rfl, e1, e2⟩ := r
  obtain ⟨u, rfl, e3⟩ := RVs.one_ e2
  exact ⟨v, u, rfl, e1, e3⟩
theorem b_len (hK : X.K = T.K) : CallR X (.builtin "len") (canB T bLen) := by
  intro pins s σ H xs us Q I r c
  obtain ⟨ι, h, ms, Qm, R, rv, q, m⟩ := c
  unfold bLen at m
  split at m
  · obtain ⟨v, rfl, r1⟩ := rv.one_
    obtain ⟨p, vs, rfl, e1, e2⟩ := r1.tup_
    exact call_len_seq pins s σ H _ us Q I r ⟨p, vs, rfl, .inr (by rw [hK]; exact e1), by rw [← e2.length]; exact q.here R m.2 .int'⟩
  · obtain ⟨v, rfl, r1⟩ := rv.one_
    obtain ⟨p, vs, rfl, e1, e2⟩ := r1.cst_
    exact call_len_seq pins s σ H _ us Q I r ⟨p, vs, rfl, .inl (by rw [hK]; exact e1.l), by rw [← e2.length]; exact q.here R m .int'⟩
  · obtain ⟨v, rfl, r1⟩ := rv.one_
    cases r1.str_
    exact call_len pins s σ H _ us Q I r ⟨_, _, rfl, ⟨by rw [st_len]; exact le_line m.1, rfl⟩, by rw [st_len]; exact q.here R m.2 .int'⟩
  · obtain ⟨v, rfl, r1⟩ := rv.one_
    split at m
    · rename_i ys ea
      obtain ⟨p, vs, rfl, _, e1, e2⟩ := R.lst_ r1 ea
      exact call_len_seq pins s σ H _ us Q I r ⟨p, vs, rfl, .inl (SqL.of e1), by rw [← e2.length]; exact q.here R m .int'⟩
    · rename_i kvs ea
      obtain ⟨p, kws, rfl, _, e1, e2⟩ := R.dic_ r1 ea
      cases r with
      | cons r0 rr =>
        cases rr
        cases r0
        refine d_len I (.inl e1) fun t s' I' => ⟨.int kws.length, H, I', ⟨_, rfl⟩, ?_⟩
        rw [← Paired.length e2]
        exact q.here R m .int'
    · exact m.elim
  · exact m.elim
theorem b_int : CallR X (.type "int") (canB T bInt) := by
  intro pins s σ H xs us Q I r c
  obtain ⟨ι, h, ms, Qm, R, rv, q, m⟩ := c
  unfold bInt at m
  split at m
  · obtain ⟨v, rfl, r1⟩ := rv.one_
    cases r1.int_
    exact call_int1 pins s σ H _ us Q I r (.inl ⟨_, rfl, q.here R m .int'⟩)
  · obtain ⟨v, rfl, r1⟩ := rv.one_
    cases r1.bl_
    exact call_int1 pins s σ H _ us Q I r (.inr ⟨_, rfl, q.here R m .int'⟩)
  · exact m.elim
theorem b_min (hc : X.calm = true) : CallR X (.builtin "min") (canB T bMin) := by
  intro pins s σ H xs us Q I r c
  obtain ⟨ι, h, ms, Qm, R, rv, q, m⟩ := c
  unfold bMin at m
  split at m
  · obtain ⟨v, u, rfl, r1, r2⟩ := rv.two_
    cases r1.int_; cases r2.int_
    exact call_min2 hc pins s σ H _ us Q I r ⟨_, _, rfl, q.here R m .int'⟩
  · exact m.elim
theorem b_max (hc : X.calm = true) : CallR X (.builtin "max") (canB T bMax) := by
  intro pins s σ H xs us Q I r c
  obtain ⟨ι, h, ms, Qm, R, rv, q, m⟩ := c
  unfold bMax at m
  split at m
  · obtain ⟨v, u, rfl, r1, r2⟩ := rv.two_
    cases r1.int_; cases r2.int_
    exact call_max2 hc pins s σ H _ us Q I r ⟨_, _, rfl, q.here R m .int'⟩
  · exact m.elim
theorem lstOf_ok {m : MV} {v : V} {xs : List MV} (R : Rel T ι h H) (r : RV T.K ι H m v) (e : lstOf h m = some xs) : ∃ p vs, v = .ref p ∧ L2.SqL T.K H p vs ∧ RVs T.K ι H xs vs := by
  cases m with
  | cst ys =>
    cases e
    obtain ⟨p, vs, rfl, e1, e2⟩ := r.cst_
    exact ⟨p, vs, rfl, e1.l, e2⟩
  | ref a i =>
    have e : (match rd h a i with | some (.lst xs) => some xs | _ => none) = some xs := e
    split at e
    · rename_i ys ea
      cases e
      obtain ⟨p, vs, rfl, _, e1, e2⟩ := R.lst_ r ea
      exact ⟨p, vs, rfl, SqL.of e1, e2⟩
    · cases e
  | _ => cases e
theorem allB_ok : ∀ {ms : List MV} {vs : List V} {bs : List Bool}, RVs T.K ι H ms vs → allB ms = some bs → vs = bs.map V.bl
  | [], _, _, r, e => by unfold RVs at r; cases e; exact r
  | m :: ms, _, bs, r, e => by
    unfold RVs at r
    obtain ⟨v, r', rfl, e1, e2⟩ := r
    cases m with
    | bl b =>
      obtain ⟨bs', e3, rfl⟩ := Option.map_eq_some_iff.mp (show (allB ms).map (b :: ·) = some bs from e)
      rw [e1.bl_, allB_ok e2 e3]
      rfl
    | _ => cases e
theorem allI_ok : ∀ {ms : List MV} {vs : List V} {bs : List Int}, RVs T.K ι H ms vs → allI ms = some bs → vs = bs.map V.int
  | [], _, _, r, e => by unfold RVs at r; cases e; exact r
  | m :: ms, _, bs, r, e => by
    unfold RVs at r
    obtain ⟨v, r', rfl, e1, e2⟩ := r
    cases m with
    | int b =>
      obtain ⟨bs', e3, rfl⟩ := Option.map_eq_some_iff.mp (show (allI ms).map (b :: ·) = some bs from e)
      rw [e1.int_, allI_ok e2 e3]
      rfl
    | _ => cases e
theorem b_all (hK : X.K = T.K) (hc : X.calm = true) : CallR X (.builtin "all") (canB T bAll) := by
  intro pins s σ H xs us Q I r c
  obtain ⟨ι, h, ms, Qm, R, rv, q, m⟩ := c
  unfold bAll at m
  split at m
  rotate_left
  · exact m.elim
  · obtain ⟨v, rfl, r1⟩ := rv.one_
    split at m
    · rename_i bs eb
      obtain ⟨ys, e1, e2⟩ := Option.bind_eq_some_iff.mp eb
      obtain ⟨p, vs, rfl, e3, e4⟩ := lstOf_ok R r1 e1
      rw [allB_ok e4 e2] at e3
      exact cr_all hc pins s σ H _ us Q I r ⟨p, bs, rfl, by rw [hK]; exact e3, q.here R m .bl'⟩
    · exact m.elim
theorem b_sum (hK : X.K = T.K) (hc : X.calm = true) : CallR X (.builtin "sum") (canB T bSum) := by
  intro pins s σ H xs us Q I r c
  obtain ⟨ι, h, ms, Qm, R, rv, q, m⟩ := c
  unfold bSum at m
  split at m
  rotate_left
  · exact m.elim
  · obtain ⟨v, rfl, r1⟩ := rv.one_
    split at m
    · rename_i bs eb
      obtain ⟨ys, e1, e2⟩ := Option.bind_eq_some_iff.mp eb
      obtain ⟨p, vs, rfl, e3, e4⟩ := lstOf_ok R r1 e1
      rw [allI_ok e4 e2] at e3
      exact cr_sum hc pins s σ H _ us Q I r ⟨p, bs, rfl, by rw [hK]; exact e3, q.here R m .int'⟩
    · exact m.elim
theorem seqOf_ok {m : MV} {v : V} {xs : List MV} (R : Rel T ι h H) (r : RV T.K ι H m v) (e : seqOf h m = some xs) : ∃ p vs, v = .ref p ∧ (L2.SqL T.K H p vs ∨ L2.SqT T.K H p vs) ∧ RVs T.K ι H xs vs := by
  cases m with
  | tup ys =>
    cases e
    obtain ⟨p, vs, rfl, e1, e2⟩ := r.tup_
    exact ⟨p, vs, rfl, .inr e1, e2⟩
  | _ => exact let ⟨p, vs, e1, e2, e3⟩ := lstOf_ok R r e; ⟨p, vs, e1, .inl e2, e3⟩
theorem b_list {r : Nat} (hK : X.K = T.K) : CallR X (.type "list") (canB T (bList r)) := by
  intro pins s σ H xs us Q I ru c
  obtain ⟨ι, h, ms, Qm, R, rv, q, m⟩ := c
  unfold bList at m
  split at m
  rotate_left
  · exact m.elim
  · obtain ⟨v, rfl, r1⟩ := rv.one_
    split at m
    · rename_i ys e1
      obtain ⟨p, vs, rfl, e3, e4⟩ := seqOf_ok R r1 e1
      exact call_list_of pins s σ H _ us Q I ru ⟨p, vs, rfl, by rw [hK]; exact e3, fun a ha => q.lst R m ha e4⟩
    · exact m.elim
theorem b_tuple (hK : X.K = T.K) : CallR X (.type "tuple") (canB T bTuple) := by
  intro pins s σ H xs us Q I ru c
  obtain ⟨ι, h, ms, Qm, R, rv, q, m⟩ := c
  unfold bTuple at m
  split at m
  rotate_left
  · exact m.elim
  · obtain ⟨v, rfl, r1⟩ := rv.one_
    split at m
    · rename_i ys e1
      obtain ⟨p, vs, rfl, e3, e4⟩ := seqOf_ok R r1 e1
      rcases e3 with e3 | e3
      · exact call_tuple_of pins s σ H _ us Q I ru ⟨p, vs, rfl, .inl ⟨by rw [hK]; exact e3, fun a ha => q.tup R m ha e4⟩⟩
      · refine call_tuple_of pins s σ H _ us Q I ru ⟨p, vs, rfl, .inr ⟨by rw [hK]; exact e3, q.here R m ?_⟩⟩
        unfold RV
        exact ⟨p, vs, rfl, e3, e4⟩
    · exact m.elim
/-! ### isinstance -/
def tyNames : List String := ["NoneType", "bool", "int", "str", "tuple", "list"]
theorem tyN_ok {m : MV} {v : V} {t : String} (R : Rel T ι h H) (r : RV T.K ι H m v) (e : tyN h m = some t) : t ∈ tyNames ∧ TyX T.K H v (.type t) := by
  cases m with
  | non => cases r.non_; cases e; exact ⟨by decide, .base .non⟩
  | bl _ => cases r.bl_; cases e; exact ⟨by decide, .base (.bl _)⟩
  | int _ => cases r.int_; cases e; exact ⟨by decide, .base (.int _)⟩
  | str _ => cases r.str_; cases e; exact ⟨by decide, .base (.str _)⟩
  | tup ys =>
    cases e
    obtain ⟨p, vs, rfl, e1, e2⟩ := r.tup_
    refine ⟨by decide, ?_⟩
    rcases e1 with (e1 | ⟨ob, e1⟩) | ⟨ob, its, n, e1, e3, _⟩
    · exact .base (.tup e1)
    · exact .fTuple e1
    · exact .kTuple e1 e3
  | cst _ => cases e
  | exc _ => cases e
  | ref a i =>
    have e : (match rd h a i with | some (.lst _) => some "list" | _ => none) = some t := e
    split at e
    · rename_i ys ea
      cases e
      obtain ⟨p, vs, rfl, _, e1, e2⟩ := R.lst_ r ea
      exact ⟨by decide, .base (.lst e1)⟩
    · cases e
theorem e_isi {ty : String} {p p2 : Pos} (hK : X.K = T.K) (hg : Gl X "isinstance") (hm : X.mg "isinstance" = none) (hgt : Gl X (st ty)) (hmt : X.mg (st ty) = none) (hv : bootBuiltins (st ty) = some (.type ty)) (hn : st ty ≠ "__name__") (hdb : (st ty == ("__debug__" : Str)) = false)
    (hk : ∀ t ∈ tyNames, PySem.W.kitOne T.K (.type t) (.type ty) = some (tySub t ty)) (he : PE X e (canE T W me))
    (hs : starEach [e, .Name (st ty) p2] X.env = (false, eval e X.env) :: starEach [.Name (st ty) p2] X.env := by rfl) (hpl : (backTo pos (starEach [.Name (st ty) p2] X.env)).any (·.1) = false := by rfl) :
    PE X (.Call (.Name "isinstance" p) [e, .Name (st ty) p2] [] pos) (canE T W (bIsi [ty] me)) := by
  refine PE.le (pe_callB call_isi hg hm (by decide +kernel) (pa_cons he (pa_cons (pe_bltn (v := V.ty ty) hgt hmt hv rfl hn hdb) pa_nil) hs) (by decide) (by decide) hs hpl) fun σ H Q ⟨ι, h, σm, Qm, Em, R, s, q, x, m⟩ => ?_
  refine canE_mk R s x m fun v h1 m1 ι1 H1 u R1 X1 s1 x1 r1 => ?_
  have m1 : (match tyN h1 v with | some t => Qm (.bl ([ty].any (tySub t))) h1 | none => False) := m1
  split at m1
  · rename_i t et
    obtain ⟨t1, t2⟩ := tyN_ok R1 r1 et
    refine ⟨u, .ty ty, .type t, .type ty, tySub t ty, rfl, .ty ty, by rw [hK]; exact t2, by rw [hK]; exact hk t t1, ?_⟩
    have m1 : Qm (.bl (tySub t ty || false)) h1 := m1
    rw [Bool.or_false] at m1
    exact (q.ext R1 X1).here R1 m1 .bl'
  · exact m1.elim
/-! ### built-in methods -/
def canM (T : Tx) (b : MV → List MV → MH → QV → Prop) : V → List V → Hp → VK → Prop := fun x vs H Q => ∃ ι h mx ms Qm, Rel T ι h H ∧ RV T.K ι H mx x ∧ RVs T.K ι H ms vs ∧ PQ T ι H Qm Q ∧ b mx ms h Qm
theorem tyV_of {m : MV} {v : V} {ty : String} (R : Rel T ι h H) (r : RV T.K ι H m v) (e : hasTy ty h m = true) : tyV T.K ty v H := by
  cases m with
  | str _ => cases r.str_; exact beq_iff_eq.mp e
  | ref a i =>
    have e : (match rd h a i with | some (.lst _) => ty == "list" | some (.dic _) => ty == "dict" | _ => false) = true := e
    split at e
    · rename_i ys ea
      obtain ⟨p, vs, rfl, _, e1, e2⟩ := R.lst_ r ea
      exact .inl ⟨beq_iff_eq.mp e, vs, SqL.of e1⟩
    · rename_i ys ea
      obtain ⟨p, vs, rfl, _, e1, e2⟩ := R.dic_ r ea
      exact .inr (.inr (.inl ⟨beq_iff_eq.mp e, .inl ⟨vs, e1⟩⟩))
    · cases e
  | _ => cases e
theorem e_bm {name : Str} {apos : Pos} {ty id : String} {b : MV → List MV → MH → QV → Prop} (hK : X.K = T.K) (pa : PlainAttrs ty) (slot : Slot ty name id) (hty : typeOf (.builtin id) = pure (.type "method_descriptor")) (hm : MtR X id (canM T b)) (ho : PE X o (canE T W mo)) (ha : PA X (e :: es) (canA T W as))
    (hbase : attributeBase o name X.env (eval o X.env) = eval o X.env := by rfl)
    (hfew : ((backTo pos (starEach (e :: es) X.env)).all (fun x => !x.1) && (backToKw pos (keywordEach [] X.env)).all (fun x => x.1.isSome)
      && decide ((e :: es).length + ([] : List Keyword).length + (if ([] : List Keyword).isEmpty then 0 else 1) < 30)) = true := by rfl)
    (hline : (apos.endLine == pos.line) = true := by rfl) (hs : starEach (e :: es) X.env = (false, eval e X.env) :: starEach es X.env := by rfl) (hpl : (backTo pos (starEach es X.env)).any (·.1) = false := by rfl) :
    PE X (.Call (.Attribute o name apos) (e :: es) [] pos) (canE T W (wBM ty b mo as)) := PE.le (pe_bm pa slot hty hm ho ha hbase hfew hline hs hpl) fun σ H Q ⟨ι, h, σm, Qm, Em, R, s, q, x, m⟩ => by
  refine canE_mk R s x m fun v h1 m1 ι1 H1 u R1 X1 s1 x1 r1 => ?_
  obtain ⟨m1, m2⟩ := m1
  refine ⟨by rw [hK]; exact tyV_of R1 r1 m1, ?_⟩
  exact canA_mk R1 s1 x1 m2 fun ms h2 m3 ι2 H2 vs R2 X2 s2 x2 r2 => ⟨ι2, h2, v, ms, Qm, R2, RV.ext R1 X2 _ _ r1, r2, (q.ext R1 X1).ext R2 X2, m3⟩
theorem e_bm0 {name : Str} {apos : Pos} {ty id : String} {b : MV → List MV → MH → QV → Prop} (hK : X.K = T.K) (pa : PlainAttrs ty) (slot : Slot ty name id) (hty : typeOf (.builtin id) = pure (.type "method_descriptor")) (hm : MtR X id (canM T b)) (ho : PE X o (canE T W mo))
    (hbase : attributeBase o name X.env (eval o X.env) = eval o X.env := by rfl) (hline : (apos.endLine == pos.line) = true := by rfl) :
    PE X (.Call (.Attribute o name apos) [] [] pos) (canE T W (wBM ty b mo aNil)) := PE.le (pe_bm0 pa slot hty hm ho hbase hline) fun σ H Q ⟨ι, h, σm, Qm, Em, R, s, q, x, m⟩ => by
  refine canE_mk R s x m fun v h1 m1 ι1 H1 u R1 X1 s1 x1 r1 => ?_
  obtain ⟨m1, m2⟩ := m1
  exact ⟨by rw [hK]; exact tyV_of R1 r1 m1, ι1, h1, v, [], Qm, R1, r1, RVs.nil, q.ext R1 X1, m2⟩
theorem PQ.wr {r i : Nat} {p : Addr} {Qm : QV} {Q : VK} {ms : List MV} {vs : List V} (q : PQ T ι H Qm Q) (R : Rel T ι h H) (hp : (ι r)[i]? = some p) (e : RVs T.K ι H ms vs) (m : Qm .non (wr h r i (.lst ms))) : Q .non (upd H p (.lst vs)) := by
  obtain ⟨R2, X2⟩ := wr_lst (r := r) R hp e
  exact q _ _ m _ _ _ R2 X2 .non'
theorem m_append : MtR X "list.append" (canM T mAppend) := by
  intro pins s σ H x xs v us Q I rx rv c
  obtain ⟨ι, h, mx, ms, Qm, R, r1, rs, q, m⟩ := c
  unfold mAppend at m
  split at m
  rotate_left
  · exact m.elim
  · obtain ⟨u, rfl, r2⟩ := rs.one_
    split at m
    · rename_i ys ea
      obtain ⟨p, vs, rfl, e0, e1, e2⟩ := R.lst_ r1 ea
      exact mt_append pins s σ H _ _ v us Q I rx rv ⟨p, vs, u, rfl, rfl, e1, by rw [← e2.length]; exact lt_line m.1, q.wr R e0 (e2.append (RVs.one r2)) m.2⟩
    · exact m.elim
theorem m_clear : MtR X "list.clear" (canM T mClear) := by
  intro pins s σ H x xs v us Q I rx rv c
  obtain ⟨ι, h, mx, ms, Qm, R, r1, rs, q, m⟩ := c
  unfold mClear at m
  split at m
  rotate_left
  · exact m.elim
  · unfold RVs at rs
    subst rs
    split at m
    · rename_i ys ea
      obtain ⟨p, vs, rfl, e0, e1, e2⟩ := R.lst_ r1 ea
      exact mt_clear pins s σ H _ _ v us Q I rx rv ⟨p, vs, rfl, rfl, e1, q.wr R e0 RVs.nil m⟩
    · exact m.elim
end
end Mi
end TxMiniF

section TxMiniS
set_option Elab.async false
set_option linter.all false
set_option autoImplicit false
set_option maxRecDepth 100000
set_option maxHeartbeats 4000000
namespace Mi
open PySem PySem.Spec PyProof.Rows L2
section
variable {T : Tx} {X : Cx} {W : WX} {pos pos' : Pos} {e o : Expr} {me mo : WE} {c : Stmt} {cs ds : List Stmt} {a b : WS} {t : WT}
/-! ### statements -/
theorem canS_mk {σ : L2.St} {H : Hp} {D : Ends} {ι : IA} {h : MH} {σm : MS} {Dm : En} (R : Rel T ι h H) (s : RS T ι H σm σ) (p : PEn T ι H Dm D W) (m : a Dm σm h) : canS T W a D σ H := ⟨ι, h, σm, Dm, R, s, p, m⟩
theorem ss_nil : PSs X [] (canS T W sNx) := PSs.le pss_nil fun D σ H ⟨ι, h, σm, Dm, R, s, p, m⟩ => p.nx σm h m ι H σ R Ext.refl s
theorem ss_one (h : PS X c (canS T W a)) : PSs X [c] (canS T W a) := pss_one h
theorem ss_cons (h1 : PS X c (canS T W a)) (h2 : PSs X cs (canS T W b)) : PSs X (c :: cs) (canS T W (sSeq a b)) := PSs.le (pss_cons h1 h2) fun D σ H ⟨ι, h, σm, Dm, R, s, p, m⟩ =>
  canS_mk R s (Dm := { Dm with nx := b Dm }) ⟨fun σm' h' m' ι' H' σ' R' X' s' => canS_mk R' s' (p.ext R' X') m', p.rt, p.bk, p.ct, p.ex⟩ m
theorem s_pass : PS X (.Pass pos) (canS T W sNx) := PS.le ps_pass fun D σ H ⟨ι, h, σm, Dm, R, s, p, m⟩ => p.nx σm h m ι H σ R Ext.refl s
theorem s_brk : PS X (.Break pos) (canS T W sBrk) := PS.le ps_break fun D σ H ⟨ι, h, σm, Dm, R, s, p, m⟩ => p.bk σm h m ι H σ R Ext.refl s
theorem s_cnt : PS X (.Continue pos) (canS T W sCnt) := PS.le ps_continue fun D σ H ⟨ι, h, σm, Dm, R, s, p, m⟩ => p.ct σm h m ι H σ R Ext.refl s
theorem s_doc {x : Str} {j} : PS X (.Expr (.Constant (.str x) j pos) pos') (canS T W sNx) := PS.le ps_doc fun D σ H ⟨ι, h, σm, Dm, R, s, p, m⟩ => p.nx σm h m ι H σ R Ext.refl s
theorem s_ex (he : PE X e (canE T W me)) (hs : swapsWith e none pos.line X.env = pure false := by rfl) : PS X (.Expr e pos) (canS T W (sEx me)) := PS.le (ps_expr he hs) fun D σ H ⟨ι, h, σm, Dm, R, s, p, m⟩ =>
  canE_mk R s (p.ex.at_ R s) m fun v h1 m1 ι1 H1 u R1 X1 s1 x1 r1 => p.nx _ _ m1 _ _ _ R1 X1 s1
theorem s_ret (he : PE X e (canE T W me)) : PS X (.Return (some e) pos) (canS T W (sRet me)) := PS.le (ps_ret he) fun D σ H ⟨ι, h, σm, Dm, R, s, p, m⟩ =>
  canE_mk R s (p.ex.at_ R s) m fun v h1 m1 ι1 H1 u R1 X1 s1 x1 r1 => p.rt _ _ m1 _ _ _ R1 X1 r1
theorem s_retN : PS X (.Return none pos) (canS T W sRetN) := PS.le ps_retN fun D σ H ⟨ι, h, σm, Dm, R, s, p, m⟩ => p.rt _ _ m _ _ _ R Ext.refl .non'
theorem s_if {d : Expr} (hc : PT X d (canT T W t)) (ha : PSs X cs (canS T W a)) (hb : PSs X ds (canS T W b)) : PS X (.If d cs ds pos) (canS T W (sIf t a b)) := PS.le (ps_if hc ha hb) fun D σ H ⟨ι, h, σm, Dm, R, s, p, m⟩ =>
  canT_mk R s (p.ex.at_ R s) m fun k h1 m1 ι1 H1 R1 X1 s1 x1 => by
    cases k with
    | true => exact canS_mk R1 s1 (p.ext R1 X1) m1
    | false => exact canS_mk R1 s1 (p.ext R1 X1) m1
/-! targets -/
def canG (T : Tx) (W : WX) (g : WG) : TG := fun v σ H Q => ∃ ι h σm mv Qm Em, Rel T ι h H ∧ RS T ι H σm σ ∧ RV T.K ι H mv v ∧ PP T ι H Qm Q ∧ PX T ι H Em (L2.WE W σ) ∧ g mv σm h Qm Em
def canGs (T : Tx) (W : WX) (g : WGs) : TGs := fun vs σ H Q => ∃ ι h σm ms Qm Em, Rel T ι h H ∧ RS T ι H σm σ ∧ RVs T.K ι H ms vs ∧ PP T ι H Qm Q ∧ (∀ σm' σ', RS T ι H σm' σ' → PX T ι H Em (L2.WE W σ')) ∧ g ms σm h Qm Em
theorem PG.le {e : Expr} {t t' : TG} (h : PG X e t) (le : ∀ v σ H Q, t' v σ H Q → t v σ H Q) : PG X e t' := ⟨fun pins s σ H v u Q I r q => h.run pins s σ H v u Q I r (le _ _ _ _ q)⟩
theorem g_name {i : Nat} {x : Str} (h : PG X (.Name x pos) (gName i)) : PG X (.Name x pos) (canG T W (gN i)) := PG.le h fun v σ H Q ⟨ι, h, σm, mv, Qm, Em, R, s, r, q, x, m⟩ => q _ _ m _ _ _ R Ext.refl (s.set i r)
def canSet (T : Tx) : TSet := fun o i v H Q => ∃ (ι : IA) (h : MH) (mo mi mv : MV) (Qm : MH → Prop), Rel T ι h H ∧ RV T.K ι H mo o ∧ RV T.K ι H mi i ∧ RV T.K ι H mv v ∧ (∀ h', Qm h' → ∀ ι' H', Rel T ι' h' H' → Ext ι H ι' H' → Q H') ∧ (match setIx mo mi mv h with | some h3 => Qm h3 | none => False)
theorem set_ok (hu : X.A.units + 1 < cLine) : PSet X (canSet T) := by
  intro pins s σ H o i v ov iv u Q I ro ri rv c
  obtain ⟨ι, h, mo, mi, mv, Qm, R, r1, r2, r3, q, m⟩ := c
  cases e : setIx mo mi mv h with
  | none => rw [e] at m; exact m.elim
  | some h3 =>
    rw [e] at m
    have m : Qm h3 := m
    unfold setIx at e
    split at e
    · rename_i r j
      split at e
      · rename_i xs k ea
        obtain ⟨p, vs, rfl, e0, e1, e2⟩ := R.lst_ r1 ea
        obtain ⟨n, en, rfl⟩ := Option.map_eq_some_iff.mp e
        cases r2.int_
        obtain ⟨R2, X2⟩ := wr_lst (r := r) R e0 (RVs.set r3 n e2)
        refine set_list pins s σ H _ _ v ov iv u Q I ro ri rv ⟨p, vs, k, n, rfl, rfl, e1, ?_, q _ m _ _ R2 X2⟩
        rw [← e2.length]
        exact en
      · rename_i kvs ea
        split at e
        · rename_i hk
          rw [Bool.and_eq_true] at hk
          cases e
          obtain ⟨k, k1, rfl⟩ := key_of_ hk.1 r2
          obtain ⟨p, kws, rfl, e0, e1, e2⟩ := R.dic_ r1 ea
          obtain ⟨R2, X2⟩ := wr_dic (r := r) R e0 (KVR.put k1 r3 e2)
          obtain rfl : ov = Value.ref p := ro
          exact d_setItem hu I (DPut.k e1 (by rw [← Paired.length e2]; exact lt_line (of_decide_eq_true hk.2))) ri rv fun s4 I4 => ⟨_, I4, q _ m _ _ R2 X2⟩
        · cases e
      · cases e
    · cases e
theorem g_ix {i : Expr} {mi : WE} (hu : X.A.units + 1 < cLine) (ho : PE X o (canE T W mo)) (hi : PE X i (canE T W mi))
    (ha : ∀ v, assign (.Subscript o i pos) X.env v = (do
      let ov ← holding [v] (eval o X.env)
      let iv ← holding [v, ov] (eval i X.env)
      standAt pos
      holding [v, ov, iv] (setItem ov iv v)
      release [v, ov, iv] []) := by intro _; rfl) : PG X (.Subscript o i pos) (canG T W (gIx mo mi)) := PG.le (pg_sub ho hi (set_ok (T := T) hu) ha) fun v σ H Q ⟨ι, h, σm, mv, Qm, Em, R, s, r, q, x, m⟩ => by
  refine canE_mk R s x m fun v1 h1 m1 ι1 H1 u R1 X1 s1 x1 r1 => ?_
  refine canE_mk R1 s1 x1 m1 fun v2 h2 m2 ι2 H2 u2 R2 X2 s2 x2 r2 => ?_
  refine ⟨ι2, h2, v1, v2, mv, fun h3 => Qm σm h3, R2, RV.ext R1 X2 _ _ r1, r2, RV.ext R1 X2 _ _ (RV.ext R X1 _ _ r), fun h3 m3 ι3 H3 R3 X3 => ?_, m2⟩
  exact (q.ext R1 X1).ext R2 X2 _ _ m3 _ _ _ R3 X3 (s2.ext R2 X3)
theorem s_asg {tg : Expr} {g : WG} (he : PE X e (canE T W me)) (hg : PG X tg (canG T W g)) (hs : swapsWithSole [tg] e pos.line X.env = pure false := by rfl) (hw : swappedStores [tg] e X.env = pure none := by rfl)
    (h1 : (assignEach [tg] X.env).map (·.2) = [assign tg X.env] := by rfl) : PS X (.Assign [tg] e pos) (canS T W (sAsg me g)) := PS.le (ps_asg he hg hs hw h1) fun D σ H ⟨ι, h, σm, Dm, R, s, p, m⟩ =>
  canE_mk R s (p.ex.at_ R s) m fun v h1 m1 ι1 H1 u R1 X1 s1 x1 r1 => ⟨ι1, h1, σm, v, Dm.nx, _, R1, s1, r1, (p.ext R1 X1).nx, x1, m1⟩
theorem s_set {i : Nat} {x : Str} (h : ∀ te, PE X e te → PS X (.Assign [.Name x pos'] e pos) (tAsg te (gName i))) (he : PE X e (canE T W me)) : PS X (.Assign [.Name x pos'] e pos) (canS T W (sAsg me (gN i))) :=
  PS.le (h _ he) fun D σ H ⟨ι, h, σm, Dm, R, s, p, m⟩ => canE_mk R s (p.ex.at_ R s) m fun v h1 m1 ι1 H1 u R1 X1 s1 x1 r1 => p.nx _ _ m1 _ _ _ R1 X1 (s1.set i r1)
theorem mem_putF {f : String} {v : MV} {Fl : List String} (hf : f ∈ Fl) : ∀ {fs : List (String × MV)}, (∀ p ∈ fs, p.1 ∈ Fl) → ∀ p ∈ Mi.putF f v fs, p.1 ∈ Fl
  | [], _, p, hp => by
    have : p = (f, v) := List.mem_singleton.mp hp
    rw [this]; exact hf
  | q :: fs, hq, p, hp => by
    have hp : p ∈ (if f = q.1 then (q.1, v) :: fs else q :: Mi.putF f v fs) := hp
    by_cases c : f = q.1
    · rw [if_pos c] at hp
      rcases List.mem_cons.mp hp with z | z
      · rw [z]; exact hq q List.mem_cons_self
      · exact hq p (List.mem_cons_of_mem _ z)
    · rw [if_neg c] at hp
      rcases List.mem_cons.mp hp with z | z
      · rw [z]; exact hq q List.mem_cons_self
      · exact mem_putF hf (fun p hp => hq p (List.mem_cons_of_mem _ hp)) p z
theorem s_fld {f : String} {value : Expr} {mv : WE} (hK : X.K = T.K) (hc : ∀ c ∈ T.Cl, Cls T.K (clA T.K c)) (hn : ∀ c ∈ T.Cl, NoAttr T.K (clA T.K c) (st f)) (hf : f ∈ T.Fl) (ho : PE X o (canE T W mo)) (hv : PE X value (canE T W mv))
    (hs : swapsWith value (some (.Attribute o (st f) pos')) pos.line X.env = pure false := by rfl) : PS X (.Assign [.Attribute o (st f) pos'] value pos) (canS T W (sAsg mv (gFld mo f))) :=
  PS.le (ps_fld ho hv hs) fun D σ H ⟨ι, h, σm, Dm, R, s, p, m⟩ => by
    refine canE_mk R s (p.ex.at_ R s) m fun v h1 m1 ι1 H1 u R1 X1 s1 x1 r1 => ?_
    refine canE_mk R1 s1 x1 m1 fun v2 h2 m2 ι2 H2 u2 R2 X2 s2 x2 r2 => ?_
    cases v2 with
    | ref r i =>
      have m2 : (match rd h2 r i with
        | some (.ins c fs) => fs.length < 1000 ∧ Dm.nx σm (wr h2 r i (.ins c (Mi.putF f v fs)))
        | _ => False) := m2
      split at m2
      · rename_i c fs ea
        obtain ⟨l, m2⟩ := m2
        obtain ⟨q, dx, gs, rfl, e0, cl, hfl, e1, e2⟩ := R2.ins_ r2 ea
        obtain ⟨R3, X3⟩ := wr_ins (r := r) (dx := dx) R2 e0 cl (mem_putF (v := v) hf hfl) (FVR.put (f := f) (RV.ext R1 X2 _ _ r1) e2)
        exact ⟨q, _, dx, gs, rfl, e1, by rw [hK]; exact hc c cl, by rw [hK]; exact hn c cl, by rw [← e2.length]; exact l, ((p.ext R1 X1).ext R2 X2).nx _ _ m2 _ _ _ R3 X3 (s2.ext R2 X3)⟩
      · exact m2.elim
    | _ => exact m2.elim
/-! ### while -/
theorem s_while (hp : PassesOwn (model X.prog X.w) X.A X.env X.xe) {d : Expr} (hc : PT X d (canT T W t)) (hb : PSs X cs (canS T W b)) : PS X (.While d cs [] pos) (canS T W (sWhile t b)) := PS.le (ps_while hp hc hb) fun D σ H ⟨ι, h, σm, Dm, R, s, p, n, m⟩ => by
  refine ⟨fun n σ' H' => ∃ ι' h' σm', Rel T ι' h' H' ∧ Ext ι H ι' H' ∧ RS T ι' H' σm' σ' ∧ whileN t b n Dm σm' h', ⟨n, ι, h, σm, R, Ext.refl, s, m⟩, ?_⟩
  rintro n σ1 H1 ⟨ι1, h1, σm1, R1, X1, s1, m1⟩
  cases n with
  | zero => exact m1.elim
  | succ n =>
    refine canT_mk R1 s1 ((p.ext R1 X1).ex.at_ R1 s1) m1 fun k h2 m2 ι2 H2 R2 X2 s2 x2 => ?_
    have X12 := Ext.trans R1 X1 X2
    cases k with
    | false => exact p.nx _ _ m2 _ _ _ R2 X12 s2
    | true =>
      refine ⟨fun σ' H' => ∃ ι' h' σm', Rel T ι' h' H' ∧ Ext ι H ι' H' ∧ RS T ι' H' σm' σ' ∧ whileN t b n Dm σm' h', fun σ' H' z => ⟨n, Nat.lt_succ_self n, z⟩, ?_⟩
      have pp := p.ext R2 X12
      have nx : PP T ι2 H2 (whileN t b n Dm) fun σ' H' => ∃ ι' h' σm', Rel T ι' h' H' ∧ Ext ι H ι' H' ∧ RS T ι' H' σm' σ' ∧ whileN t b n Dm σm' h' :=
        fun σm3 h3 m3 ι3 H3 σ3 R3 X3 s3 => ⟨ι3, h3, σm3, R3, Ext.trans R2 X12 X3, s3, m3⟩
      exact canS_mk R2 s2 (Dm := { Dm with nx := whileN t b n Dm, ct := whileN t b n Dm, bk := Dm.nx }) ⟨nx, pp.rt, pp.nx, nx, pp.ex⟩ m2
/-! ### walks -/
structure SrcR (T : Tx) (ι : IA) (H : Hp) (src : Src) (J : It) : Prop where
  go : ∀ i ι' h' H', Rel T ι' h' H' → Ext ι H ι' H' → src.chk h' → i < src.xs.length → J.go i H'
  yld : ∀ i ι' h' H' m x H'', Rel T ι' h' H' → Ext ι H ι' H' → src.chk h' → src.xs[i]? = some m → J.yld i H' x H'' → Rel T ι' h' H'' ∧ Ext ι' H' ι' H'' ∧ RV T.K ι' H'' m x
  stop : ∀ ι' h' H', Rel T ι' h' H' → Ext ι H ι' H' → src.chk h' → J.stop src.xs.length H'
def canI (T : Tx) (W : WX) (m : WI) : L2.TI := fun σ H R => ∃ ι h σm Rm Em, Rel T ι h H ∧ RS T ι H σm σ ∧ PX T ι H Em (L2.WE W σ) ∧ (∀ src h', Rm src h' → ∀ ι' H' J, Rel T ι' h' H' → Ext ι H ι' H' → SrcR T ι' H' src J → R J H') ∧ m σm h Rm Em
theorem PI.le {tg it : Expr} {t t' : L2.TI} (h : PI X tg it t) (le : ∀ σ H R, t' σ H R → t σ H R) : PI X tg it t' := ⟨fun pins s σ H R I q => h.run pins s σ H R I (le _ _ _ q)⟩
theorem srcR_lst {ι : IA} {h : MH} {H : Hp} {r i : Nat} {p : Addr} {xs : List MV} (e0 : (ι r)[i]? = some p) : SrcR T ι H ⟨xs, fun h' => rd h' r i = some (.lst xs)⟩ (Itl T.K p) where
  go := fun j ι' h' H' R X c hj => by
    obtain ⟨p', e1, vs, e2, e3⟩ := R.of_rd c
    rw [X.ix e0] at e1; cases e1
    have hj : j < xs.length := hj
    exact ⟨vs, vs[j]'(by rw [← e3.length]; exact hj), SqL.of e2, List.getElem?_eq_getElem _⟩
  yld := fun j ι' h' H' m x H'' R X c hm y => by
    obtain ⟨p', e1, vs, e2, e3⟩ := R.of_rd c
    rw [X.ix e0] at e1; cases e1
    obtain ⟨rfl, y⟩ := y
    obtain ⟨v, e4, e5⟩ := e3.get hm
    have := y vs (SqL.of e2)
    rw [e4] at this; cases this
    exact ⟨R, Ext.refl, e5⟩
  stop := fun ι' h' H' R X c => by
    obtain ⟨p', e1, vs, e2, e3⟩ := R.of_rd c
    rw [X.ix e0] at e1; cases e1
    exact ⟨vs, SqL.of e2, by rw [e3.length]; exact Nat.le_refl _⟩
theorem srcR_tup {ι : IA} {h : MH} {H : Hp} {p : Addr} {xs : List MV} {vs : List V} (R0 : Rel T ι h H) (e : L2.SqT T.K H p vs) (r : RVs T.K ι H xs vs) : SrcR T ι H ⟨xs, fun _ => True⟩ (Itt T.K p) where
  go := fun j ι' h' H' R X c hj => ⟨vs, vs[j]'(by rw [← r.length]; exact hj), sqT_ext R0 X e, List.getElem?_eq_getElem _⟩
  yld := fun j ι' h' H' m x H'' R X c hm y => by
    obtain ⟨rfl, y⟩ := y
    obtain ⟨v, e4, e5⟩ := r.get hm
    have := y vs (sqT_ext R0 X e)
    rw [e4] at this; cases this
    exact ⟨R, Ext.refl, RV.ext R0 X _ _ e5⟩
  stop := fun ι' h' H' R X c => ⟨vs, sqT_ext R0 X e, by rw [r.length]; exact Nat.le_refl _⟩
theorem srcR_cst {ι : IA} {h : MH} {H : Hp} {p : Addr} {xs : List MV} {vs : List V} (R0 : Rel T ι h H) (e : SqC T.K H p vs) (r : RVs T.K ι H xs vs) : SrcR T ι H ⟨xs, fun _ => True⟩ (Itl T.K p) where
  go := fun j ι' h' H' R X c hj => ⟨vs, vs[j]'(by rw [← r.length]; exact hj), (SqC.ext R0 X e).l, List.getElem?_eq_getElem _⟩
  yld := fun j ι' h' H' m x H'' R X c hm y => by
    obtain ⟨rfl, y⟩ := y
    obtain ⟨v, e4, e5⟩ := r.get hm
    have := y vs (SqC.ext R0 X e).l
    rw [e4] at this; cases this
    exact ⟨R, Ext.refl, RV.ext R0 X _ _ e5⟩
  stop := fun ι' h' H' R X c => ⟨vs, (SqC.ext R0 X e).l, by rw [r.length]; exact Nat.le_refl _⟩
theorem rng_get {lo : Int} {n i : Nat} {m : MV} (h : (rng lo n)[i]? = some m) : m = .int (lo + i) ∧ i < n := by
  unfold rng at h
  rw [List.getElem?_map] at h
  obtain ⟨k, e1, e2⟩ := Option.map_eq_some_iff.mp h
  rw [List.getElem?_range] at e1
  · cases e1
    refine ⟨e2.symm, ?_⟩
    by_cases c : i < n
    · exact c
    · simp [c] at h
  · by_cases c : i < n
    · exact c
    · simp [c] at h
theorem rng_len (lo : Int) (n : Nat) : (rng lo n).length = n := by unfold rng; simp
theorem srcR_rng {ι : IA} {H : Hp} {lo : Int} {n : Nat} : SrcR T ι H ⟨rng lo n, fun _ => True⟩ (Itr lo n) where
  go := fun j ι' h' H' R X c hj => by
    have hj : j < (rng lo n).length := hj
    rw [rng_len] at hj
    exact hj
  yld := fun j ι' h' H' m x H'' R X c hm y => by
    obtain ⟨rfl, y⟩ := y
    obtain ⟨rfl, _⟩ := rng_get hm
    exact ⟨R, Ext.refl, by rw [y]; exact .int'⟩
  stop := fun ι' h' H' R X c => by
    show n ≤ (rng lo n).length
    rw [rng_len]
    exact Nat.le_refl _
/-- a list or a tuple, walked -/
def iEither (K : PySem.W.Frag) (tl : TE) : L2.TI := fun σ H R => tl σ H fun x H1 => ∃ a, x = .ref a ∧ (((∃ xs, L2.SqL K H1 a xs) ∧ R (Itl K a) H1) ∨ ((∃ xs, L2.SqT K H1 a xs) ∧ R (Itt K a) H1))
theorem pi_either {tg l : Expr} {tl : TE} (hl : PE X l tl) : PI X tg l (iEither X.K tl) := by
  refine ⟨fun pins s σ H R I h => ?_⟩
  refine thn (hl.run pins s σ H _ I h) fun v s1 ⟨x, H1, I1, r1, q1⟩ => ?_
  obtain ⟨a, ex, q1⟩ := q1
  subst ex
  obtain rfl : v = Value.ref a := r1
  have fp : ∀ b ∈ [s1.heap.objs.size], FpOk X pins H1 b := fun b hb => by
    have eb : b = s1.heap.objs.size := List.mem_singleton.mp hb
    subst eb
    exact I1.fpOk (Nat.le_refl _) (I1.hok.fresh (Nat.le_refl _))
  rcases q1 with ⟨⟨xs, hq⟩, q⟩ | ⟨⟨xs, hq⟩, q⟩
  · obtain ⟨its, rv, p, hz⟩ := I1.list hq
    exact wpAny_pyIter_list p.isList ⟨_, _, _, _, H1, rfl, I1.kept (t' := s1.toks) fun b o e => Heap.get?_push_of_some _ e, turn_list a _, ⟨_, Heap.get?_push_size _ rfl, rfl, rfl⟩, fp, q⟩
  · obtain ⟨its, rv, p, hz⟩ := I1.tuple hq
    exact wpAny_pyIter_tuple (show s1.heap.IsTuple a its.toArray from p) ⟨_, _, _, _, H1, rfl, I1.kept (t' := s1.toks) fun b o e => Heap.get?_push_of_some _ e, turn_tuple a _, ⟨_, Heap.get?_push_size _ rfl, rfl, rfl⟩, fp, q⟩
theorem i_seq {tg l : Expr} {ml : WE} (hK : X.K = T.K) (hl : PE X l (canE T W ml)) : PI X tg l (canI T W (iSeq ml)) := PI.le (pi_either hl) fun σ H Rr ⟨ι, h, σm, Rm, Em, R, s, x, q, m⟩ => by
  refine canE_mk R s x m fun v h1 m1 ι1 H1 u R1 X1 s1 x1 r1 => ?_
  cases v with
  | tup xs =>
    obtain ⟨p, vs, rfl, e1, e2⟩ := r1.tup_
    exact ⟨p, rfl, .inr ⟨⟨vs, by rw [hK]; exact e1⟩, by rw [hK]; exact q _ _ m1 _ _ _ R1 X1 (srcR_tup R1 e1 e2)⟩⟩
  | cst xs =>
    obtain ⟨p, vs, rfl, e1, e2⟩ := r1.cst_
    exact ⟨p, rfl, .inl ⟨⟨vs, by rw [hK]; exact e1.l⟩, by rw [hK]; exact q _ _ m1 _ _ _ R1 X1 (srcR_cst R1 e1 e2)⟩⟩
  | ref r i =>
    have m1 : (match rd h1 r i with
      | some (.lst xs) => Rm ⟨xs, fun h' => rd h' r i = some (.lst xs)⟩ h1
      | _ => False) := m1
    split at m1
    · rename_i xs ea
      obtain ⟨p, vs, rfl, e0, e1, e2⟩ := R1.lst_ r1 ea
      exact ⟨p, rfl, .inl ⟨⟨vs, SqL.of e1⟩, by rw [hK]; exact q _ _ m1 _ _ _ R1 X1 (srcR_lst (h := h1) e0)⟩⟩
    · exact m1.elim
  | _ => exact m1.elim
theorem i_rng1 {tg a : Expr} {ma : WE} {p : Pos} (hg : Gl X "range") (hm : X.mg "range" = none) (ha : PE X a (canE T W ma)) (hs : starEach [a] X.env = [(false, eval a X.env)] := by rfl) :
    PI X tg (.Call (.Name "range" p) [a] [] pos) (canI T W (iRng1 ma)) := PI.le (pi_range1 hg hm (pa_cons ha pa_nil (by rw [hs]; rfl)) hs) fun σ H Rr ⟨ι, h, σm, Rm, Em, R, s, x, q, m⟩ => by
  refine canE_mk R s x m fun v h1 m1 ι1 H1 u R1 X1 s1 x1 r1 => ?_
  cases v with
  | int j =>
    obtain ⟨⟨b1, b2⟩, m1⟩ := m1
    cases r1.int_
    exact ⟨j, rfl, b1, b2, q _ _ m1 _ _ _ R1 X1 srcR_rng⟩
  | _ => exact m1.elim
theorem i_rng2 {tg a b : Expr} {ma mb : WE} {p : Pos} (hg : Gl X "range") (hm : X.mg "range" = none) (ha : PE X a (canE T W ma)) (hb : PE X b (canE T W mb)) (hs : starEach [a, b] X.env = [(false, eval a X.env), (false, eval b X.env)] := by rfl) (hs2 : starEach [b] X.env = [(false, eval b X.env)] := by rfl) :
    PI X tg (.Call (.Name "range" p) [a, b] [] pos) (canI T W (iRng2 ma mb)) := PI.le (pi_range2 hg hm (pa_cons ha (pa_cons hb pa_nil (by rw [hs2]; rfl)) (by rw [hs, hs2])) hs hs2) fun σ H Rr ⟨ι, h, σm, Rm, Em, R, s, x, q, m⟩ => by
  refine canE_mk R s x m fun v h1 m1 ι1 H1 u R1 X1 s1 x1 r1 => ?_
  refine canE_mk R1 s1 x1 m1 fun v2 h2 m2 ι2 H2 u2 R2 X2 s2 x2 r2 => ?_
  cases v with
  | int i =>
    cases v2 with
    | int j =>
      obtain ⟨⟨b1, b2⟩, ⟨b3, b4⟩, m2⟩ := m2
      cases r1.int_; cases r2.int_
      exact ⟨i, j, rfl, ⟨b1, b2, b3, b4⟩, q _ _ m2 _ _ _ R2 (Ext.trans R1 X1 X2) srcR_rng⟩
    | _ => exact m2.elim
  | _ => cases v2 <;> exact m2.elim
/-! ### for -/
theorem s_for {tg it : Expr} {i : WI} {g : WG} (hp : PassesOwn (model X.prog X.w) X.A X.env X.xe) (hc : X.calm = true) (hi : PI X tg it (canI T W i)) (hg : PG X tg (canG T W g)) (hb : PSs X cs (canS T W b))
    (hs : ∀ x, foldedSetIterable it X.env x = pure x := by intro _; rfl) : PS X (.For tg it cs [] pos) (canS T W (sFor i g b)) := PS.le (ps_for hp hc hi hg hb hs) fun D σ H ⟨ι, h, σm, Dm, R, s, p, m⟩ => by
  refine ⟨ι, h, σm, _, _, R, s, p.ex.at_ R s, fun src h1 m1 ι1 H1 J R1 X1 sr => ?_, m⟩
  rw [forL_eq] at m1
  refine ⟨fun i n σ' H' => ∃ ι' h' σm', Rel T ι' h' H' ∧ Ext ι1 H1 ι' H' ∧ RS T ι' H' σm' σ' ∧ n = src.xs.length - i ∧ i ≤ src.xs.length ∧ forR src.chk g b (src.xs.drop i) Dm σm' h', ⟨_, ι1, h1, σm, R1, Ext.refl, s.ext R X1, rfl, Nat.zero_le _, m1⟩, ?_⟩
  rintro i n σ2 H2 ⟨ι2, h2, σm2, R2, X2, s2, rfl, hi, m2⟩
  by_cases hlt : i < src.xs.length
  · rw [List.drop_eq_getElem_cons hlt] at m2
    obtain ⟨ck, m2⟩ := m2
    refine .inr ⟨sr.go i ι2 h2 H2 R2 X2 ck hlt, fun σ' H' => ∃ ι' h' σm', Rel T ι' h' H' ∧ Ext ι1 H1 ι' H' ∧ RS T ι' H' σm' σ' ∧ forR src.chk g b (src.xs.drop (i + 1)) Dm σm' h', ?_, fun x H3 y => ?_⟩
    · rintro σ' H' ⟨ι', h', σm', z1, z2, z3, z4⟩
      exact ⟨src.xs.length - (i + 1), by omega, ι', h', σm', z1, z2, z3, rfl, hlt, z4⟩
    · obtain ⟨R3, X3, r3⟩ := sr.yld i ι2 h2 H2 _ x H3 R2 X2 ck (List.getElem?_eq_getElem hlt) y
      have X23 := Ext.trans R2 X2 X3
      have X03 := Ext.trans R1 X1 X23
      have pp := p.ext R3 X03
      have s3 := s2.ext R2 X3
      refine ⟨ι2, h2, σm2, _, _, _, R3, s3, r3, fun σm4 h4 m4 ι4 H4 σ4 R4 X4 s4 => ?_, pp.ex.at_ R3 s3, m2⟩
      have X14 := Ext.trans R3 X23 X4
      have p4 := pp.ext R4 X4
      have nx : PP T ι4 H4 (forR src.chk g b (src.xs.drop (i + 1)) Dm) fun σ' H' => ∃ ι' h' σm', Rel T ι' h' H' ∧ Ext ι1 H1 ι' H' ∧ RS T ι' H' σm' σ' ∧ forR src.chk g b (src.xs.drop (i + 1)) Dm σm' h' :=
        fun σm5 h5 m5 ι5 H5 σ5 R5 X5 s5 => ⟨ι5, h5, σm5, R5, Ext.trans R4 X14 X5, s5, m5⟩
      exact canS_mk R4 s4 (Dm := { Dm with nx := forR src.chk g b (src.xs.drop (i + 1)) Dm, ct := forR src.chk g b (src.xs.drop (i + 1)) Dm, bk := Dm.nx }) ⟨nx, p4.rt, p4.nx, nx, p4.ex⟩ m4
  · have e : i = src.xs.length := by omega
    subst e
    rw [List.drop_length] at m2
    obtain ⟨ck, m2⟩ := m2
    exact .inl ⟨sr.stop ι2 h2 H2 R2 X2 ck, (p.ext R1 X1).nx _ _ m2 _ _ _ R2 X2 s2⟩
/-! ### raise -/
theorem s_raise {cn : String} {x m : Str} {j : Nat} {p p2 : Pos} (hK : X.K = T.K) (hc : X.calm = true) (tk : Takes X W) (he : cn ∈ T.Er) (q : PySem.W.excIn T.K (clA T.K cn) He.veBase "ValueError.__new__" = true) (gC : X.mg (st cn) = some (.ref (clA T.K cn))) (kC : PySem.W.keepIn T.K (.ref (clA T.K cn)) = true)
    (h1 : PySem.W.subIn T.K (.ref (clA T.K cn)) (.type "BaseException") = some true) (h2 : PySem.W.typeIn T.K (.ref (clA T.K cn)) = some (.type "type")) (hg : Gl X (st cn)) (hdb : (st cn == ("__debug__" : Str)) = false) :
    PS X (.Raise (some (.Call (.Name (st cn) p) [.Constant (.str m) j p2] [] pos')) none pos) (canS T W (sRaise cn)) := by
  rw [← hK] at q kC h1 h2
  refine PS.le (ps_raise hc tk (pmk_own PySem.F.excBase_ValueError q (by rw [hK]; exact gC) kC (raises_own h1 h2) hg hdb)) fun D σ H ⟨ι, h, σm, Dm, R, s, pp, m⟩ => ?_
  rw [hK]
  exact pp.ex cn σm h he m ι H σ R Ext.refl s
end
end Mi
end TxMiniS

section TxMiniT
set_option Elab.async false
set_option linter.all false
set_option autoImplicit false
set_option maxRecDepth 100000
set_option maxHeartbeats 4000000
namespace Mi
open PySem PySem.Spec PyProof.Rows L2
abbrev W0 : WX := fun _ _ _ _ => False
/-! ### what leans on the tuples alone -/
def Keeps (H H' : Hp) : Prop := ∀ p u, ((∃ xs, u = HO.tup xs) ∨ ∃ o w, u = HO.frz o w) → H p = some u → H' p = some u
section
variable {T : Tx} {ι : IA} {h : MH} {H H' : Hp}
theorem sqT_keep {p : Addr} {vs : List V} (k : Keeps H H') (e : L2.SqT T.K H p vs) : L2.SqT T.K H' p vs := by
  rcases e with (e | ⟨o, e⟩) | e
  · exact .inl (.inl (k _ _ (.inl ⟨_, rfl⟩) e))
  · exact .inl (.inr ⟨o, k _ _ (.inr ⟨_, _, rfl⟩) e⟩)
  · exact .inr e
theorem sqC_keep {p : Addr} {vs : List V} (k : Keeps H H') (e : SqC T.K H p vs) : SqC T.K H' p vs := by
  rcases e with ⟨o, e⟩ | e
  · exact .inl ⟨o, k _ _ (.inr ⟨_, _, rfl⟩) e⟩
  · exact .inr e
mutual
theorem RV.keep (k : Keeps H H') : ∀ (m : MV) (v : V), RV T.K ι H m v → RV T.K ι H' m v
  | .non, _, e => by unfold RV at e ⊢; exact e
  | .bl _, _, e => by unfold RV at e ⊢; exact e
  | .int _, _, e => by unfold RV at e ⊢; exact e
  | .str _, _, e => by unfold RV at e ⊢; exact e
  | .tup xs, _, e => by
    unfold RV at e ⊢
    obtain ⟨p, vs, e1, e2, e3⟩ := e
    exact ⟨p, vs, e1, sqT_keep k e2, RVs.keep k xs vs e3⟩
  | .cst xs, _, e => by
    unfold RV at e ⊢
    obtain ⟨p, vs, e1, e2, e3⟩ := e
    exact ⟨p, vs, e1, sqC_keep k e2, RVs.keep k xs vs e3⟩
  | .ref r i, _, e => by unfold RV at e ⊢; exact e
  | .exc _, _, e => by unfold RV at e ⊢; exact e
theorem RVs.keep (k : Keeps H H') : ∀ (ms : List MV) (vs : List V), RVs T.K ι H ms vs → RVs T.K ι H' ms vs
  | [], _, e => by unfold RVs at e ⊢; exact e
  | m :: ms, _, e => by
    unfold RVs at e ⊢
    obtain ⟨v, r, e1, e2, e3⟩ := e
    exact ⟨v, r, e1, RV.keep k m v e2, RVs.keep k ms r e3⟩
end
theorem OR.keep (k : Keeps H H') {p : Addr} {o : MO} (x : OR T ι H p o) (e : H' p = H p) : OR T ι H' p o := by
  cases o with
  | lst xs =>
    obtain ⟨vs, e1, e2⟩ := x
    exact ⟨vs, e.trans e1, RVs.keep k _ _ e2⟩
  | dic kvs =>
    obtain ⟨kws, e1, e2⟩ := x
    exact ⟨kws, e.trans e1, Paired.imp (fun a b q => ⟨q.1, RV.keep k _ _ q.2⟩) e2⟩
  | ins c fs =>
    obtain ⟨hc, hf, dx, fvs, e1, e2⟩ := x
    exact ⟨hc, hf, dx, fvs, e.trans e1, Paired.imp (fun a b q => ⟨q.1, RV.keep k _ _ q.2⟩) e2⟩
/-- a list beside what is related changes -/
theorem Rel.off (R : Rel T ι h H) {D : Addr} {xs : List V} (hd : H D = some (.lst xs)) (nd : ∀ (r i : Nat), (ι r)[i]? ≠ some D) (e : ∀ b, b ≠ D → H' b = H b) : Rel T ι h H' ∧ Keeps H H' := by
  have k : Keeps H H' := fun p u hu hp => by
    rw [e]
    · exact hp
    · intro z
      subst z
      rw [hd] at hp
      rcases hu with ⟨_, rfl⟩ | ⟨_, _, rfl⟩ <;> cases hp
  refine ⟨⟨R.len, fun r i o p e1 e2 => (R.obj r i o p e1 e2).keep k (e p fun z => ?_), R.inj⟩, k⟩
  subst z
  exact nd r i e2
end
section
variable {T : Tx} {X : Cx} {W : WX} {pos : Pos} {me : WE} {t : WT}
theorem tst_nil : PTs X [] (canT T W tYes) := ⟨fun pins s σ H Q I ⟨ι, h, σm, Qm, Em, R, sr, q, x, m⟩ => pts_nil.run pins s σ H Q I (q _ _ m _ _ R Ext.refl)⟩
theorem tst_one {c : Expr} (hc : PT X c (canT T W t)) : PTs X [c] (canT T W t) := pts_one hc
theorem px_none {ι : IA} {H : Hp} {E : XK} : PX T ι H (fun _ _ => False) E := fun _ _ _ z => z.elim
/-- the reading of a comprehension -/
theorem rd_comp {r : Nat} {wi : WI} {i : Nat} {σ : L2.St} {H : Hp} {Q : VK} (c : canE T W (wComp r wi i t me) σ H Q) : tLc (canI T W wi) (gName i) (canT T W0 t) (canE T W0 me) [i] σ H Q := by
  obtain ⟨ι, h, σm, Qm, Em, R, s, q, x, m⟩ := c
  refine ⟨ι, h, σm, _, Em, R, s, x, fun src h1 m1 ι1 H1 J R1 X1 sr => ?_, m⟩
  rw [compL_eq] at m1
  intro D hD
  obtain ⟨RD, XD⟩ := aside (O := .lst []) R1 hD
  refine ⟨fun k n H' => ∃ ι' h' am av, Rel T ι' h' H' ∧ Ext ι1 H1 ι' H' ∧ (∀ (r i : Nat), (ι' r)[i]? ≠ some D) ∧ H' D = some (.lst av) ∧ RVs T.K ι' H' am av ∧ n = src.xs.length - k ∧ k ≤ src.xs.length ∧ compR r src.chk i t me σm Qm (src.xs.drop k) am h',
    ⟨_, ι1, h1, [], [], RD, XD, R1.fresh hD, upd_same, RVs.nil, rfl, Nat.zero_le _, m1⟩, ?_⟩
  rintro k n H2 ⟨ι2, h2, am, av, R2, X2, nd, hd, ra, rfl, hk, m2⟩
  by_cases hlt : k < src.xs.length
  · rw [List.drop_eq_getElem_cons hlt] at m2
    obtain ⟨ck, m2⟩ := m2
    refine .inr ⟨sr.go k ι2 h2 H2 R2 X2 ck hlt, fun H' => ∃ ι' h' am av, Rel T ι' h' H' ∧ Ext ι1 H1 ι' H' ∧ (∀ (r i : Nat), (ι' r)[i]? ≠ some D) ∧ H' D = some (.lst av) ∧ RVs T.K ι' H' am av ∧ compR r src.chk i t me σm Qm (src.xs.drop (k + 1)) am h', ?_, fun v H3 y => ?_⟩
    · rintro H' ⟨ι', h', am', av', z1, z2, z3, z4, z5, z6⟩
      exact ⟨src.xs.length - (k + 1), by omega, ι', h', am', av', z1, z2, z3, z4, z5, rfl, hlt, z6⟩
    · obtain ⟨R3, X3, r3⟩ := sr.yld k ι2 h2 H2 _ v H3 R2 X2 ck (List.getElem?_eq_getElem hlt) y
      have d3 : H3 D = some (.lst av) := X3.oth _ _ hd nd
      have X13 := Ext.trans R2 X2 X3
      have ew : wipe σ [i] = σ.set i none := rfl
      show wipe ((wipe σ [i]).set i (some v)) [i] = wipe σ [i] ∧ _
      rw [ew, List.set_set]
      refine ⟨by show (σ.set i (some v)).set i none = _; rw [List.set_set], ?_⟩
      have s3 : RS T ι2 H3 (σm.set i (some src.xs[k])) (σ.set i (some v)) := RS.set ((s.ext R X1).ext R1 X13) i r3
      have step : ∀ {ι4 : IA} {h4 : MH} {H4 : Hp}, Rel T ι4 h4 H4 → Ext ι2 H3 ι4 H4 → Ext ι1 H1 ι4 H4 ∧ (∀ (r i : Nat), (ι4 r)[i]? ≠ some D) ∧ H4 D = some (.lst av) ∧ RVs T.K ι4 H4 am av := fun {ι4 h4 H4} R4 X4 => by
        have d4 := X4.oth _ _ d3 nd
        refine ⟨Ext.trans R3 X13 X4, fun r' i' z => ?_, d4, RVs.ext R3 X4 _ _ (RVs.ext R2 X3 _ _ ra)⟩
        obtain ⟨more, e1, e2⟩ := X4.pre r'
        rw [e1] at z
        rcases List.mem_append.mp (List.mem_of_getElem? z) with z | z
        · obtain ⟨j, hj⟩ := List.mem_iff_getElem?.mp z
          exact nd r' j hj
        · rw [e2 D z] at d3; cases d3
      refine canT_mk R3 s3 px_none m2 fun b h4 m4 ι4 H4 R4 X4 s4 x4 => ?_
      cases b with
      | false =>
        obtain ⟨y1, y2, y3, y4⟩ := step R4 X4
        exact ⟨ι4, h4, am, av, R4, y1, y2, y3, y4, m4⟩
      | true =>
        refine canE_mk R4 s4 x4 m4 fun v5 h5 m5 ι5 H5 u5 R5 X5 s5 x5 r5 => ?_
        obtain ⟨y1, y2, y3, y4⟩ := step R5 (Ext.trans R4 X4 X5)
        obtain ⟨l5, m5⟩ := m5
        refine ⟨av, y3, by rw [← y4.length]; exact lt_line l5, ?_⟩
        obtain ⟨R6, k6⟩ := R5.off (H' := upd H5 D (.lst (av ++ [u5]))) y3 y2 fun b hb => upd_ne hb
        refine ⟨ι5, h5, am ++ [v5], av ++ [u5], R6, ⟨y1.pre, fun p o e n => ?_⟩, y2, upd_same, RVs.keep k6 _ _ (y4.append (RVs.one r5)), m5⟩
        rw [upd_ne (ne_of_none e hD)]
        exact y1.oth p o e n
  · have e : k = src.xs.length := by omega
    subst e
    rw [List.drop_length] at m2
    obtain ⟨ck, m2⟩ := m2
    refine .inl ⟨sr.stop ι2 h2 H2 R2 X2 ck, ?_⟩
    -- D is taken into what is related
    let H0 : Hp := fun b => if b = D then none else H2 b
    have e0 : H0 D = none := if_pos rfl
    obtain ⟨R5, k5⟩ := R2.off (H' := H0) hd nd fun b hb => if_neg hb
    have eu : upd H0 D (.lst av) = H2 := by
      funext b
      unfold upd
      by_cases c : b = D
      · rw [if_pos c, c, hd]
      · rw [if_neg c]; exact if_neg c
    obtain ⟨R6, X6, r6⟩ := lst_at (r := r) R5 e0 (RVs.keep k5 _ _ ra)
    rw [eu] at R6 X6 r6
    refine q _ _ m2 _ _ _ R6 (Ext.trans R1 X1 ⟨fun r' => ?_, fun p o e n => X2.oth p o e n⟩) r6
    obtain ⟨m1', a1, a2⟩ := X2.pre r'
    by_cases c : r' = r
    · subst c
      refine ⟨m1' ++ [D], by rw [ia_same, a1, List.append_assoc], fun p hp => ?_⟩
      rcases List.mem_append.mp hp with z | z
      · exact a2 p z
      · rw [List.mem_singleton.mp z]; exact hD
    · exact ⟨m1', by rw [ia_ne _ _ c, a1], a2⟩
variable {elt tg it : Expr} {ifs : List Expr} {scope : Scope} {xn : Str}
theorem e_comp {r : Nat} {wi : WI} {i : Nat} (hc : X.calm = true) (hN : X.N.Nodup) (hi : PI X tg it (canI T W wi)) (ok : BlkOk X.N X.env.scope scope [(xn, i)])
    (hg : ∀ (s : Shared) (H : Hp) (C : Addr) (cl : List (Str × Addr)) (fp : List Addr), PG (X.blk s H scope (compEnvC scope cl C X.env) fp) tg (gName i)) (ht : ∀ (s : Shared) (H : Hp) (C : Addr) (cl : List (Str × Addr)) (fp : List Addr), PTs (X.blk s H scope (compEnvC scope cl C X.env) fp) ifs (canT T W0 t))
    (he : ∀ (s : Shared) (H : Hp) (C : Addr) (cl : List (Str × Addr)) (fp : List Addr), PE (X.blk s H scope (compEnvC scope cl C X.env) fp) elt (canE T W0 me)) (hs : ∀ x, foldedSetIterable it X.env x = pure x := by intro _; rfl) :
    PE X (.ListComp elt [⟨tg, it, ifs, 0⟩] scope pos) (canE T W (wComp r wi i t me)) := PE.le (pe_lc (own := [(xn, i)]) hc hN hi ok hg ht he hs) fun _ _ _ c => rd_comp c
theorem s_setLc {r : Nat} {wi : WI} {i j : Nat} {y : Str} {py spos : Pos} (hc : X.calm = true) (hN : X.N.Nodup) (hy : X.N[j]? = some y) (hyl : X.env.scope.names.lookup y = some .local) (hsw : swapsWith (.ListComp elt [⟨tg, it, ifs, 0⟩] scope pos) (some (.Name y py)) spos.line X.env = pure true)
    (hi : PI X tg it (canI T W wi)) (ok : BlkOk X.N X.env.scope scope [(xn, i)])
    (hg : ∀ (s : Shared) (H : Hp) (C : Addr) (cl : List (Str × Addr)) (fp : List Addr), PG (X.blk s H scope (compEnvC scope cl C X.env) fp) tg (gName i)) (ht : ∀ (s : Shared) (H : Hp) (C : Addr) (cl : List (Str × Addr)) (fp : List Addr), PTs (X.blk s H scope (compEnvC scope cl C X.env) fp) ifs (canT T W0 t))
    (he : ∀ (s : Shared) (H : Hp) (C : Addr) (cl : List (Str × Addr)) (fp : List Addr), PE (X.blk s H scope (compEnvC scope cl C X.env) fp) elt (canE T W0 me)) (hs : ∀ x, foldedSetIterable it X.env x = pure x := by intro _; rfl) :
    PS X (.Assign [.Name y py] (.ListComp elt [⟨tg, it, ifs, 0⟩] scope pos) spos) (canS T W (sAsg (wComp r wi i t me) (gN j))) :=
  PS.le (ps_setLc (i := j) (own := [(xn, i)]) hc hN hy hyl hsw hi ok hg ht he hs) fun D σ H ⟨ι, h, σm, Dm, R, s, p, m⟩ =>
    rd_comp (canE_mk R s (p.ex.at_ R s) m fun v h1 m1 ι1 H1 u R1 X1 s1 x1 r1 => p.nx _ _ m1 _ _ _ R1 X1 (s1.set j r1))
/-! ### try -/
variable {body suite : List Stmt} {b0 : Stmt} {n : Str} {np pos' : Pos} {b : WS} {su : String → Nat → WS} {cn : String}
theorem s_try_as {i : Nat} (hs : X.stack = X.env :: X.outer) (hf : X.env.frame = some X.env.locals) (hN : X.N.Nodup) (hi : X.N[i]? = some n) (hln : X.env.kindOf n = some .local) (hK : X.K = T.K) (hc : Names X (st cn) (.ref (clA T.K cn))) (tk : Takes X W)
    (hx : ∀ c ∈ T.Er, PySem.W.exmOne T.K (.ref (clA T.K c)) (.ref (clA T.K cn)) = some (isSub c cn))
    (hb : ∀ (W' : WX) (pn : List (Addr × Obj)) (xe : Value → Shared → Prop), Takes (X.tr pn xe) W' → PassesOwn (model X.prog X.w) X.A X.env xe → PSs (X.tr pn xe) body (canS T W' b))
    (hsu : ∀ c ∈ T.Er, isSub c cn = true → ∀ (a : Addr) (oe : Obj) (pn : List (Addr × Obj)), Zc (.ref (clA T.K c)) none oe → (∃ vs, oe.data = .fields vs) → PSs (X.suite a ((a, oe) :: pn)) (b0 :: suite) (canS T W0 (su c a))) :
    PS X (.Try body [.ExceptHandler (some (.Name (st cn) np)) (some n) (b0 :: suite) pos'] [] [] pos) (canS T W (sTry b [cn] (some i) su)) := by
  refine PS.le (ps_try_as (i := i) (tb := fun W' => canS T W' b) (ts := fun a cls d D σ H => ∃ c, c ∈ T.Er ∧ isSub c cn = true ∧ cls = .ref (clA T.K c) ∧ d = none ∧ canS T W0 (su c a) D σ H) hs hf hN hi hln hc tk hb (fun a oe cls d pn hz hv => ?_)) fun D σ H ⟨ι, h, σm, Dm, R, s, p, m⟩ => ?_
  · refine ⟨fun pins s σ H D I ⟨c, hc, hsub, e1, e2, can⟩ => ?_⟩
    subst e1 e2
    exact (hsu c hc hsub a oe pn hz hv).run pins s σ H D I can
  · refine canS_mk R s (Dm := tryEn [cn] (some i) su Dm) ⟨p.nx, p.rt, p.bk, p.ct, fun c σ1 h1 hc m1 ι1 H1 σ2 R1 X1 s1 => ?_⟩ m
    have m1 : if ([cn].any (isSub c)) = true then ∀ a : Nat, su c a (suEn (some i) Dm) (bindE (some i) a σ1) h1 else Dm.ex c σ1 h1 := m1
    refine ⟨isSub c cn, by rw [hK]; exact hx c hc, fun ht a ha => ?_, fun ht => ?_⟩
    · refine ⟨c, hc, ht, rfl, rfl, ?_⟩
      rw [if_pos (by show (isSub c cn || false) = true; rw [ht]; rfl)] at m1
      have pp := p.ext R1 X1
      have up : ∀ {Qm : MS → MH → Prop} {Q : L2.St → Hp → Prop}, PP T ι1 H1 Qm Q → PP T ι1 H1 (fun σ2 h2 => Qm (unset (some i) σ2) h2) fun σ' H' => Q (σ'.set i none) H' := fun {Qm Q} q σm h' m' ι' H' σ' R' X' s' => q _ _ m' _ _ _ R' X' (s'.unset i)
      exact canS_mk (Dm := suEn (some i) Dm) (σm := bindE (some i) a σ1) R1 (RS.set s1 i (m := .exc a) (v := .ref a) (by unfold RV; rfl)) ⟨up pp.nx, pp.rt, up pp.bk, up pp.ct, fun _ _ _ _ z => z.elim⟩ (m1 a)
    · have m1 : (if ([cn].any (isSub c)) = true then _ else _) := m1
      rw [if_neg (by show ¬ (isSub c cn || false) = true; rw [ht]; exact Bool.false_ne_true)] at m1
      exact p.ex c σ1 h1 hc m1 _ _ _ R1 X1 s1
theorem s_try (hs : X.stack = X.env :: X.outer) (hf : X.env.frame = some X.env.locals) (hK : X.K = T.K) (hc : Names X (st cn) (.ref (clA T.K cn))) (tk : Takes X W)
    (hx : ∀ c ∈ T.Er, PySem.W.exmOne T.K (.ref (clA T.K c)) (.ref (clA T.K cn)) = some (isSub c cn))
    (hb : ∀ (W' : WX) (pn : List (Addr × Obj)) (xe : Value → Shared → Prop), Takes (X.tr pn xe) W' → PassesOwn (model X.prog X.w) X.A X.env xe → PSs (X.tr pn xe) body (canS T W' b))
    (hsu : ∀ c ∈ T.Er, isSub c cn = true → ∀ (a : Addr) (oe : Obj) (pn : List (Addr × Obj)), Zc (.ref (clA T.K c)) none oe → (∃ vs, oe.data = .fields vs) → PSs (X.suite a ((a, oe) :: pn)) (b0 :: suite) (canS T W0 (su c a))) :
    PS X (.Try body [.ExceptHandler (some (.Name (st cn) np)) none (b0 :: suite) pos'] [] [] pos) (canS T W (sTry b [cn] none su)) := by
  refine PS.le (ps_try_only (tb := fun W' => canS T W' b) (ts := fun a cls d D σ H => ∃ c, c ∈ T.Er ∧ isSub c cn = true ∧ cls = .ref (clA T.K c) ∧ d = none ∧ canS T W0 (su c a) D σ H) hs hf hc tk hb (fun a oe cls d pn hz hv => ?_)) fun D σ H ⟨ι, h, σm, Dm, R, s, p, m⟩ => ?_
  · refine ⟨fun pins s σ H D I ⟨c, hc, hsub, e1, e2, can⟩ => ?_⟩
    subst e1 e2
    exact (hsu c hc hsub a oe pn hz hv).run pins s σ H D I can
  · refine canS_mk R s (Dm := tryEn [cn] none su Dm) ⟨p.nx, p.rt, p.bk, p.ct, fun c σ1 h1 hc m1 ι1 H1 σ2 R1 X1 s1 => ?_⟩ m
    have m1 : if ([cn].any (isSub c)) = true then ∀ a : Nat, su c a (suEn none Dm) (bindE none a σ1) h1 else Dm.ex c σ1 h1 := m1
    refine ⟨isSub c cn, by rw [hK]; exact hx c hc, fun ht a ha => ?_, fun ht => ?_⟩
    · refine ⟨c, hc, ht, rfl, rfl, ?_⟩
      rw [if_pos (by show (isSub c cn || false) = true; rw [ht]; rfl)] at m1
      have pp := p.ext R1 X1
      exact canS_mk (Dm := suEn none Dm) (σm := bindE none a σ1) R1 s1 ⟨pp.nx, pp.rt, pp.bk, pp.ct, fun _ _ _ _ z => z.elim⟩ (m1 a)
    · have m1 : (if ([cn].any (isSub c)) = true then _ else _) := m1
      rw [if_neg (by show ¬ (isSub c cn || false) = true; rw [ht]; exact Bool.false_ne_true)] at m1
      exact p.ex c σ1 h1 hc m1 _ _ _ R1 X1 s1
/-! ### the error of a suite -/
theorem call_isET {a D : Addr} {oe : Obj} {pn : List (Addr × Obj)} (C : ExcC X.K D) (hz : Zc (.ref D) none oe) (hf : ∃ vs, oe.data = .fields vs) :
    CallR (X.suite a ((a, oe) :: pn)) (.builtin "isinstance") (fun xs H Q => ∃ (tp : Addr) (cs : List V) (us : List Value) (b : Bool), xs = [.ref a, .ref tp] ∧ H tp = some (.tup cs) ∧ Paired ClsV cs us ∧ PySem.W.kitAny X.K (.ref D) us = some b ∧ Q (.bl b) H) := by
  intro pins s σ H xs us Q I r h
  obtain ⟨tp, cs, ws, b, rfl, hT, k, e, q⟩ := h
  cases r with
  | cons rx rr =>
    cases rr with
    | cons rt rr =>
      cases rr
      cases rx
      cases rt
      obtain ⟨hget, _⟩ := I.pin (a, oe) (List.mem_append.mpr (.inl List.mem_cons_self))
      obtain ⟨vs, hv⟩ := hf
      have J : PySem.W.InstAt s.heap a oe D none := by
        obtain ⟨oc, od, oda, osl⟩ := oe
        obtain ⟨h1, h2⟩ := hz
        simp only at h1 h2 hv
        subst h1 h2 hv
        exact ⟨hget, rfl, rfl, trivial⟩
      obtain ⟨_, its, rv, o, h1, h2, n, h3⟩ := (show ObjOk X.prog X.w H s.heap tp (.tup cs) from I.hok tp _ hT)
      have e3 := ClsV.all k rv
      subst e3
      obtain ⟨oc, od, dt, sl⟩ := o
      simp only at h2 h3
      subst h2 h3
      exact PySem.W.kia_tup (PySem.W.handS_kitx_exc C.hg C.hk C.hs C.hd C.ha C.hn C.ht C.hm) I.kIn J h1 e (fun z => nomatch z) fun tk => ⟨.bl b, H, I.kept (t' := tk) fun _ _ z => z, rfl, q⟩
end
end Mi
end TxMiniT

section TxMiniZ
set_option Elab.async false
set_option linter.all false
set_option autoImplicit false
set_option maxRecDepth 100000
set_option maxHeartbeats 4000000
namespace Mi
open PySem PySem.Spec PyProof.Rows L2
section
variable {T : Tx} {P : Program} {w : World} {mg : Str → Option Value} {base : Heap}
theorem rs_start {ι : IA} {H : Hp} {N : List Str} {nl : Nat} {ms : List MV} {vs : List V} (hn : N.length = nl) (r : RVs T.K ι H ms vs) : RS T ι H (ms.map some ++ List.replicate (nl - ms.length) none) (L2.start N vs) := by
  have e := r.length
  refine ⟨by unfold L2.start; simp [hn, e], fun i m hm => ?_⟩
  by_cases hi : i < ms.length
  · rw [List.getElem?_append_left (by simpa using hi), List.getElem?_map] at hm
    obtain ⟨m', e1, e2⟩ := Option.map_eq_some_iff.mp hm
    cases e2
    obtain ⟨v, e3, e4⟩ := r.get e1
    refine ⟨v, ?_, e4⟩
    unfold L2.start
    rw [List.getElem?_append_left (by rw [List.length_map, ← e]; exact hi), List.getElem?_map, e3]
    rfl
  · rw [List.getElem?_append_right (by simp; omega), List.getElem?_replicate] at hm
    split at hm <;> cases hm
theorem fn_rd {E : XK} {body : WS} {np nl : Nat} {N : List Str} {vs : List V} {H : Hp} {Q : VK} (hn : N.length = nl) (h : spM T (fnM np nl body) vs H Q E) :
    canS T (fun cls d _ H => E cls d H) body { nx := fun _ H' => Q .non H', rt := Q } (L2.start N vs) H := by
  obtain ⟨ι, h, ms, Qm, Em, R, rv, q, x, l, m⟩ := h
  exact ⟨ι, h, _, ⟨fun _ h' => Qm .non h', Qm, fun _ _ => False, fun _ _ => False, fun c _ h' => Em c h'⟩, R, rs_start hn rv, ⟨fun σ h' m' ι' H' σ' R' X' _ => q _ _ m' _ _ _ R' X' .non', q, fun _ _ z => z.elim, fun _ _ z => z.elim, fun c σ h' hc m' ι' H' σ' R' X' _ => x c h' hc m' _ _ R' X'⟩, m⟩
theorem sp_len {E : XK} {body : WS} {np nl : Nat} {vs : List V} {H : Hp} {Q : VK} (h : spM T (fnM np nl body) vs H Q E) : vs.length = np := by
  obtain ⟨ι, h, ms, Qm, Em, R, rv, q, x, l, m⟩ := h
  rw [← rv.length]
  exact l
/-- a def keeps its reading -/
theorem fn_ok {x qual : Str} {params : Arguments} {stmts : List Stmt} {scope : Scope} {f : Addr} {fd : FuncData} {N ps : List Str} {k np nl : Nat} {body : WS} (F : FunD T.K x qual params stmts scope [] [] f fd) (S : FnScope N ps scope) (hp : ps.length = np) (hn : N.length = nl)
    (hb : ∀ (cdv : Value) (A : Around) (outer : List Env) (s : Shared) (H : Hp) (E : XK), Room k (A.deeper (envOfC qual scope s.heap.objs.size f cdv)) →
      PSs (cxOf (L2.CX P w) P w T.K mg base N qual scope f cdv A outer s H E) stmts (canS T (fun cls d _ H => E cls d H) body)) : FnOk P w T.K mg base (L2.CX P w) (k + 1) f fd ps (spM T (fnM np nl body)) :=
  F.ok S (fun vs H Q E h => by rw [hp]; exact sp_len h) fun cdv A outer s H vs Q E hr h => ⟨_, hb cdv A outer s H E hr, fn_rd hn h⟩
theorem fnM_mk {x : String} {params : Arguments} {stmts : List Stmt} {scope : Scope} {N ps : List Str} {k np nl : Nat} {body : WS} (D : ∃ fd, FunD T.K (st x) (st x) params stmts scope [] [] (He.ga T.K (st x)) fd) (at_ : mg (st x) = some (.ref (He.ga T.K (st x)))) (S : FnScope N ps scope) (hp : ps.length = np) (hn : N.length = nl)
    (hbi : ∀ (kV doc pm : Value) (an : Option Addr) (cdv ct : Value) (us : List Value), us.length = ps.length → bindArgs (PySem.W.fnOf (st x) (st x) params stmts scope .none kV doc pm an cdv ct) ⟨us, []⟩ = pure (ps.zip us))
    (hb : ∀ (cdv : Value) (A : Around) (outer : List Env) (s : Shared) (H : Hp) (E : XK), Room k (A.deeper (envOfC (st x) scope s.heap.objs.size (He.ga T.K (st x)) cdv)) →
      PSs (cxOf (L2.CX P w) P w T.K mg base N (st x) scope (He.ga T.K (st x)) cdv A outer s H E) stmts (canS T (fun cls d _ H => E cls d H) body)) : FnM T P w mg base (k + 1) x ps (fnM np nl body) := by
  obtain ⟨fd, F⟩ := D
  exact ⟨⟨fd, fn_ok F S hp hn hb, F.bindsN hbi, let ⟨oc, od, _, _, _, _, _, _, _, osl, _, l, _⟩ := F.ex; ⟨oc, od, osl, l⟩⟩, at_, F.kp⟩
theorem mtM_mk {c m : String} {q : Str} {params : Arguments} {stmts : List Stmt} {scope : Scope} {N ps : List Str} {k np nl : Nat} {body : WS} (D : ∃ fd, FunD T.K (st m) q params stmts scope [] [] (He.ma T.K (clA T.K c) (st m)) fd) (at_ : Meth T.K (clA T.K c) (st m) (He.ma T.K (clA T.K c) (st m))) (S : FnScope N ps scope) (hp : ps.length = np) (hn : N.length = nl)
    (hbi : ∀ (kV doc pm : Value) (an : Option Addr) (cdv ct : Value) (us : List Value), us.length = ps.length → bindArgs (PySem.W.fnOf (st m) q params stmts scope .none kV doc pm an cdv ct) ⟨us, []⟩ = pure (ps.zip us))
    (hb : ∀ (cdv : Value) (A : Around) (outer : List Env) (s : Shared) (H : Hp) (E : XK), Room k (A.deeper (envOfC q scope s.heap.objs.size (He.ma T.K (clA T.K c) (st m)) cdv)) →
      PSs (cxOf (L2.CX P w) P w T.K mg base N q scope (He.ma T.K (clA T.K c) (st m)) cdv A outer s H E) stmts (canS T (fun cls d _ H => E cls d H) body)) : MtM T P w mg base (k + 1) c m ps (fnM np nl body) := by
  obtain ⟨fd, F⟩ := D
  exact ⟨⟨fd, fn_ok F S hp hn hb, F.bindsN hbi⟩, at_⟩
theorem mkM_mk {c : String} {q : Str} {params : Arguments} {stmts : List Stmt} {scope : Scope} {N ps : List Str} {k np nl : Nat} {body : WS} (cl : c ∈ T.Cl) (D : ∃ fd, FunD T.K (st "__init__") q params stmts scope [] [] (He.ma T.K (clA T.K c) (st "__init__")) fd) (mk : Mk T.K (clA T.K c) (He.ma T.K (clA T.K c) (st "__init__"))) (at_ : mg (st c) = some (.ref (clA T.K c))) (S : FnScope N ps scope) (hp : ps.length = np) (hn : N.length = nl)
    (hbi : ∀ (kV doc pm : Value) (an : Option Addr) (cdv ct : Value) (us : List Value), us.length = ps.length → bindArgs (PySem.W.fnOf (st "__init__") q params stmts scope .none kV doc pm an cdv ct) ⟨us, []⟩ = pure (ps.zip us))
    (hb : ∀ (cdv : Value) (A : Around) (outer : List Env) (s : Shared) (H : Hp) (E : XK), Room k (A.deeper (envOfC q scope s.heap.objs.size (He.ma T.K (clA T.K c) (st "__init__")) cdv)) →
      PSs (cxOf (L2.CX P w) P w T.K mg base N q scope (He.ma T.K (clA T.K c) (st "__init__")) cdv A outer s H E) stmts (canS T (fun cls d _ H => E cls d H) body)) : MkM T P w mg base (k + 1) c ps (fnM np nl body) := by
  obtain ⟨fd, F⟩ := D
  exact ⟨cl, ⟨fd, fn_ok F S hp hn hb, F.bindsN hbi⟩, mk, at_⟩
/-! ### the law -/
/-- nothing is let out -/
theorem nox_ok {k : Nat} {f : Addr} {fd : FuncData} {ps : List Str} {sp : Sp} (F : FnOk P w T.K mg base (L2.CX P w) k f fd ps sp) : FnOk P w T.K mg base L2.CX0 k f fd ps fun vs H Q _ => sp vs H Q fun _ _ _ => False :=
  ⟨fun vs H Q E h => F.len _ _ _ _ h, fun A outer s H args us vs Q E hr he hb hv hs => codeAny_mono (F.run A outer s H args us vs Q _ hr he hb hv hs) fun r s' hq => by
    cases r with
    | ok fl => cases fl <;> exact hq
    | error e =>
      obtain ⟨_, _, _, _, _, _, _, _, _, _, _, _, z⟩ := hq
      exact z.elim⟩
def h0 : MH := fun _ => []
theorem law_sp {F : WF} {H : Hp} {a : Addr} {ns : List Int} (hO : Only H) (hS : L2.SqL T.K H a (ns.map V.int)) (h : F [.cst (ns.map .int)] h0 (fun v _ => v = .bl true) fun _ _ => False) : spM T F [.ref a] H (fun v _ => v = .bl true) fun _ _ _ => False := by
  have c : SqC T.K H a (ns.map V.int) := by
    rcases hS with (e | ⟨o, e⟩) | e
    · rcases hO a with z | ⟨o, xs, z⟩
      · rw [z] at e; cases e
      · rw [z] at e; cases e
    · exact .inl ⟨o, e⟩
    · exact .inr e
  have rv : ∀ ns : List Int, RVs T.K (fun _ => []) H (ns.map .int) (ns.map V.int) := fun ns => by
    induction ns with
    | nil => exact RVs.nil
    | cons n ns ih => exact RVs.cons .int' ih
  refine ⟨fun _ => [], h0, _, _, _, ⟨fun _ => rfl, fun r i o p e => by simp [h0] at e, fun r i r' i' p e => by simp at e⟩, RVs.one (v := .ref a) ?_, ?_, fun c h' _ z => z.elim, h⟩
  · unfold RV
    exact ⟨a, _, rfl, c, rv ns⟩
  · intro v h' e ι' H' u R X r
    subst e
    exact r.bl_
end
/-! ### the head's facts, with a look of one's own -/
abbrev AlM : Type := He.AlD × Bool
def obsM (fa : List He.Fa) (fn : List He.DefD) (ex : PySem.W.Frag → Bool) (K : PySem.W.Frag) : AlM := (He.obsD fa fn K, ex K)
def valM (fn : List He.DefD) : AlM := (He.valD fn, true)
def SaysM (fa : List He.Fa) (fn : List He.DefD) (ex : PySem.W.Frag → Bool) (K : PySem.W.Frag) : Prop := obsM fa fn ex K = valM fn
def obsMG (n : Nat) (fa : List He.Fa) (fn : List He.DefD) (ex : PySem.W.Frag → Bool) (g : Addr → Option Obj) : AlM := obsM fa fn ex (He.frG g (He.asD g n))
def hookM (n : Nat) (fa : List He.Fa) (fn : List He.DefD) (ex : PySem.W.Frag → Bool) : PySem.W.Hook where
  α := AlM
  obs := fun s => obsMG n fa fn ex s.heap.get?
  val := fun _ => valM fn
  says := fun _ h => ∃ K : PySem.W.Frag, K.In h ∧ SaysM fa fn ex K
  of := fun _ _ e => ⟨_, He.frG_in, e⟩
  keeps := fun _ _ _ ⟨K, hK, c⟩ k => ⟨K, PySem.W.Frag.In.keeps hK k, c⟩
theorem obsMG_eq {n : Nat} {fa : List He.Fa} {fn : List He.DefD} {ex : PySem.W.Frag → Bool} {g : Addr → Option Obj} {s : Shared} (h : ∀ a, g a = s.heap.get? a) : obsMG n fa fn ex g = (hookM n fa fn ex).obs s := by
  have e : g = s.heap.get? := funext h
  rw [e] <;> rfl
section
variable {fa : List He.Fa} {fn : List He.DefD} {ex : PySem.W.Frag → Bool} {K : PySem.W.Frag}
theorem SaysM.d (c : SaysM fa fn ex K) : He.SaysD fa fn K := congrArg (fun z : AlM => z.1) c
theorem SaysM.x (c : SaysM fa fn ex K) : ex K = true := congrArg (fun z : AlM => z.2) c
theorem SaysM.fact (c : SaysM fa fn ex K) (i : Nat) {f : He.Fa} (h : fa[i]? = some f := by rfl) : f.ok K = true := c.d.fact i h
theorem SaysM.facts (c : SaysM fa fn ex K) {f : He.Fa} (h : f ∈ fa) : f.ok K = true := by
  obtain ⟨i, hi, e⟩ := List.mem_iff_getElem.mp h
  exact c.fact i (f := f) (by rw [List.getElem?_eq_getElem hi, e])
end
end Mi
end TxMiniZ

section TxMiniX
set_option Elab.async false
set_option linter.all false
set_option autoImplicit false
set_option maxRecDepth 100000
set_option maxHeartbeats 4000000
namespace Mi
open PySem PySem.Spec PyProof.Rows L2
/-! ### facts of the text, in bundles -/
/-- an error class that is raised -/
structure ExF (T : Tx) (mg : Str → Option Value) (c : String) : Prop where
  er : c ∈ T.Er
  q : PySem.W.excIn T.K (clA T.K c) He.veBase "ValueError.__new__" = true
  at_ : mg (st c) = some (.ref (clA T.K c))
  kp : PySem.W.keepIn T.K (.ref (clA T.K c)) = true
  sb : PySem.W.subIn T.K (.ref (clA T.K c)) (.type "BaseException") = some true
  ty : PySem.W.typeIn T.K (.ref (clA T.K c)) = some (.type "type")
/-- an error class that is caught -/
structure TrF (T : Tx) (mg : Str → Option Value) (c : String) : Prop where
  at_ : mg (st c) = some (.ref (clA T.K c))
  ex : ∀ d ∈ T.Er, PySem.W.exmOne T.K (.ref (clA T.K d)) (.ref (clA T.K c)) = some (isSub d c)
/-- what isinstance asks of errors -/
structure IsF (T : Tx) (mg : Str → Option Value) (ds : List String) : Prop where
  ec : ∀ c ∈ T.Er, ExcC T.K (clA T.K c)
  kt : ∀ c ∈ T.Er, ∀ d ∈ ds, PySem.W.kitOne T.K (.ref (clA T.K c)) (.ref (clA T.K d)) = some (isSub c d)
  kv : ∀ c ∈ T.Er, PySem.W.kitOne T.K (.ref (clA T.K c)) (.type "ValueError") = some true
  at_ : ∀ d ∈ ds, mg (st d) = some (.ref (clA T.K d))
section
variable {T : Tx} {X : Cx} {W : WX} {pos pos' : Pos}
theorem s_raise' {cn : String} {m : Str} {j : Nat} {p p2 : Pos} (f : ExF T X.mg cn) (hK : X.K = T.K) (hc : X.calm = true) (tk : Takes X W) (hg : Gl X (st cn)) (hdb : (st cn == ("__debug__" : Str)) = false) :
    PS X (.Raise (some (.Call (.Name (st cn) p) [.Constant (.str m) j p2] [] pos')) none pos) (canS T W (sRaise cn)) :=
  s_raise (x := Str.empty) hK hc tk f.er f.q f.at_ f.kp f.sb f.ty hg hdb
theorem TrF.names {cn : String} (f : TrF T X.mg cn) (hg : Gl X (st cn)) (hdb : (st cn == ("__debug__" : Str)) = false) : Names X (st cn) (.ref (clA T.K cn)) := ⟨hg, hdb, .inl f.at_⟩
theorem e_gint {x : String} {i : Int} (hm : ∃ t, X.mg (st x) = some (.int i t)) (hg : Gl X (st x)) (hdb : (st x == ("__debug__" : Str)) = false) : PE X (.Name (st x) pos) (canE T W (wC (.int i))) := by
  obtain ⟨t, hm⟩ := hm
  exact e_con (pe_glob (v := .int i) hg hm ⟨t, rfl⟩ hdb) fun _ _ => .int'
theorem e_gtup {x : String} {ms : List MV} {vs : List V} (hm : X.mg (st x) = some (.ref (He.ga T.K (st x)))) (hS : ∀ H, L2.SqT T.K H (He.ga T.K (st x)) vs) (hr : ∀ ι H, RVs T.K ι H ms vs) (hg : Gl X (st x)) (hdb : (st x == ("__debug__" : Str)) = false) :
    PE X (.Name (st x) pos) (canE T W (wC (.tup ms))) :=
  e_con (pe_glob (v := .ref _) hg hm rfl hdb) fun ι H => by unfold RV; exact ⟨_, vs, rfl, hS H, hr ι H⟩
/-! isinstance(e, ..) -/
variable {a : Addr} {oe : Obj} {pn : List (Addr × Obj)} {c : String} {ds : List String} {i : Nat} {n : Str} {p p2 p3 : Pos}
theorem is_slot {Q : VK} {σ : L2.St} {H : Hp} {b : Bool} (r : canE T W0 (wIsE i a b) σ H Q) : σ[i]? = some (some (.ref a)) ∧ ∃ ι h Qm, Rel T ι h H ∧ PQ T ι H Qm Q ∧ Qm (.bl b) h := by
  obtain ⟨ι, h, σm, Qm, Em, R, s, q, x, m1, m2⟩ := r
  obtain ⟨v, e1, e2⟩ := s.2 i _ m1
  have e2 : v = .ref a := by unfold RV at e2; exact e2
  subst e2
  exact ⟨e1, ι, h, Qm, R, q, m2⟩
theorem e_isE {d : String} (hK : X.K = T.K) (f : IsF T X.mg ds) (hc : c ∈ T.Er) (hd : d ∈ ds) (hz : Zc (.ref (clA T.K c)) none oe) (hv : ∃ vs, oe.data = .fields vs) (hg : Gl X "isinstance") (hm : X.mg "isinstance" = none) (he : PE (X.suite a ((a, oe) :: pn)) (.Name n p2) (L2.tVar i))
    (hgd : Gl X (st d)) (hdb : (st d == ("__debug__" : Str)) = false)
    (hs : starEach [.Name n p2, .Name (st d) p3] X.env = (false, eval (.Name n p2) X.env) :: starEach [.Name (st d) p3] X.env := by rfl) (hpl : (backTo pos (starEach [.Name (st d) p3] X.env)).any (·.1) = false := by rfl) :
    PE (X.suite a ((a, oe) :: pn)) (.Call (.Name "isinstance" p) [.Name n p2, .Name (st d) p3] [] pos) (canE T W0 (wIsE i a (isSub c d))) := by
  have ec := f.ec c hc
  have kt := f.kt c hc d hd
  rw [← hK] at ec kt hz
  refine PE.le (pe_callB (X := X.suite a ((a, oe) :: pn)) (call_isE ec hz hv) hg hm (by decide +kernel) (pa_cons he (pa_cons (pe_glob (X := X.suite a ((a, oe) :: pn)) (v := .ref (clA T.K d)) hgd (f.at_ d hd) rfl hdb) pa_nil) hs) (by decide) (by decide) hs hpl) fun σ H Q r => ?_
  obtain ⟨e1, ι, h, Qm, R, q, m⟩ := is_slot r
  exact ⟨_, e1, .ref (clA T.K d), .ref (clA T.K d), isSub c d, rfl, fun u r => r, by rw [hK] at kt ⊢; exact kt, q.here R m .bl'⟩
theorem e_isV (hK : X.K = T.K) (f : IsF T X.mg ds) (hc : c ∈ T.Er) (hz : Zc (.ref (clA T.K c)) none oe) (hv : ∃ vs, oe.data = .fields vs) (hg : Gl X "isinstance") (hm : X.mg "isinstance" = none) (he : PE (X.suite a ((a, oe) :: pn)) (.Name n p2) (L2.tVar i))
    (hgd : Gl X "ValueError") (hmd : X.mg "ValueError" = none)
    (hs : starEach [.Name n p2, .Name "ValueError" p3] X.env = (false, eval (.Name n p2) X.env) :: starEach [.Name "ValueError" p3] X.env := by rfl) (hpl : (backTo pos (starEach [.Name "ValueError" p3] X.env)).any (·.1) = false := by rfl) :
    PE (X.suite a ((a, oe) :: pn)) (.Call (.Name "isinstance" p) [.Name n p2, .Name "ValueError" p3] [] pos) (canE T W0 (wIsE i a true)) := by
  have ec := f.ec c hc
  have kt := f.kv c hc
  rw [← hK] at ec kt hz
  refine PE.le (pe_callB (X := X.suite a ((a, oe) :: pn)) (call_isE ec hz hv) hg hm (by decide +kernel) (pa_cons he (pa_cons (pe_bltn (X := X.suite a ((a, oe) :: pn)) (v := .ty "ValueError") hgd hmd (by decide +kernel) rfl) pa_nil) hs) (by decide) (by decide) hs hpl) fun σ H Q r => ?_
  obtain ⟨e1, ι, h, Qm, R, q, m⟩ := is_slot r
  exact ⟨_, e1, .ty "ValueError", .type "ValueError", true, rfl, fun u r => r, by rw [hK] at kt ⊢; exact kt, q.here R m .bl'⟩
theorem kitAny_of {K : PySem.W.Frag} {t : Value} {f : String → Bool} {g : String → Value} : ∀ {es : List String}, (∀ d ∈ es, PySem.W.kitOne K t (g d) = some (f d)) → PySem.W.kitAny K t (es.map g) = some (es.any f)
  | [], _ => rfl
  | d :: es, h => by
    have h1 := h d List.mem_cons_self
    have h2 := kitAny_of (fun d hd => h d (List.mem_cons_of_mem _ hd))
    show PySem.W.kitAny K t (g d :: es.map g) = _
    unfold PySem.W.kitAny
    rw [h1, List.any_cons]
    cases f d with
    | true => rfl
    | false => rw [Bool.false_or]; exact h2
theorem paired_cls {K : PySem.W.Frag} : ∀ es : List String, Paired ClsV (es.map fun d => V.ref (clA K d)) (es.map fun d => Value.ref (clA K d))
  | [] => .nil
  | d :: es => .cons (.own _) (paired_cls es)
theorem e_isET {es : List String} {xs : List Expr} {t : TA} {k : Nat} {p4 : Pos} (hK : X.K = T.K) (f : IsF T X.mg ds) (hc : c ∈ T.Er) (hd : ∀ d ∈ es, d ∈ ds) (hl : es.length ≤ 100) (hz : Zc (.ref (clA T.K c)) none oe) (hv : ∃ vs, oe.data = .fields vs) (hg : Gl X "isinstance") (hm : X.mg "isinstance" = none) (he : PE (X.suite a ((a, oe) :: pn)) (.Name n p2) (L2.tVar i))
    (ha : PA (X.suite a ((a, oe) :: pn)) xs t) (ht : ∀ σ H Q, Q (es.map fun d => V.ref (clA T.K d)) H → t σ H Q)
    (hs : starEach [.Name n p2, .Tuple xs k p4] X.env = (false, eval (.Name n p2) X.env) :: starEach [.Tuple xs k p4] X.env := by rfl) (hpl : (backTo pos (starEach [.Tuple xs k p4] X.env)).any (·.1) = false := by rfl)
    (hs2 : starEach [.Tuple xs k p4] X.env = (false, eval (.Tuple xs k p4) X.env) :: starEach [] X.env := by rfl) :
    PE (X.suite a ((a, oe) :: pn)) (.Call (.Name "isinstance" p) [.Name n p2, .Tuple xs k p4] [] pos) (canE T W0 (wIsE i a (es.any (isSub c)))) := by
  have ec := f.ec c hc
  have kt := kitAny_of (K := T.K) (g := fun d => Value.ref (clA T.K d)) (fun d h => f.kt c hc d (hd d h))
  rw [← hK] at ec kt hz
  refine PE.le (pe_callB (X := X.suite a ((a, oe) :: pn)) (call_isET ec hz hv) hg hm (by decide +kernel) (pa_cons he (pa_cons (pe_tup ha) pa_nil hs2) hs) (by decide) (by decide) hs hpl) fun σ H Q r => ?_
  obtain ⟨e1, ι, h, Qm, R, q, m⟩ := is_slot r
  refine ⟨_, e1, ht _ _ _ ⟨?_, fun tp htp => ?_⟩⟩
  · rw [List.length_map, sizeLine_eq]; omega
  · obtain ⟨R2, X2⟩ := aside (O := .tup (es.map fun d => V.ref (clA T.K d))) R htp
    refine ⟨tp, _, _, es.any (isSub c), rfl, upd_same, paired_cls es, ?_, q _ _ m _ _ _ R2 X2 .bl'⟩
    rw [hK] at kt ⊢
    exact kt
end
end Mi
namespace Mi
open PySem PySem.Spec PyProof.Rows L2
/-- the classes of instances -/
abbrev ClsF (T : Tx) : Prop := ∀ c ∈ T.Cl, Cls T.K (clA T.K c)
/-- a field's name, no attribute of a class -/
structure NoF (T : Tx) (f : String) : Prop where
  na : ∀ c ∈ T.Cl, NoAttr T.K (clA T.K c) (st f)
  mem : f ∈ T.Fl
theorem kit_int (K : PySem.W.Frag) : ∀ t ∈ tyNames, PySem.W.kitOne K (.type t) (.type "int") = some (tySub t "int") := fun t ht => kit_ty (by revert t; decide +kernel)
theorem kit_bool (K : PySem.W.Frag) : ∀ t ∈ tyNames, PySem.W.kitOne K (.type t) (.type "bool") = some (tySub t "bool") := fun t ht => kit_ty (by revert t; decide +kernel)
theorem kit_str (K : PySem.W.Frag) : ∀ t ∈ tyNames, PySem.W.kitOne K (.type t) (.type "str") = some (tySub t "str") := fun t ht => kit_ty (by revert t; decide +kernel)
theorem kit_list (K : PySem.W.Frag) : ∀ t ∈ tyNames, PySem.W.kitOne K (.type t) (.type "list") = some (tySub t "list") := fun t ht => kit_ty (by revert t; decide +kernel)
theorem kit_tuple (K : PySem.W.Frag) : ∀ t ∈ tyNames, PySem.W.kitOne K (.type t) (.type "tuple") = some (tySub t "tuple") := fun t ht => kit_ty (by revert t; decide +kernel)
end Mi
namespace Mi
open PySem PySem.Spec PyProof.Rows L2
/-! looks at what the top has made -/
def excCB (K : PySem.W.Frag) (D : Addr) : Bool :=
  He.eqO (PySem.W.findIn K (.ref D) "__getattribute__") (some (some (.builtin "BaseException.__getattribute__"))) && (He.eqO (PySem.W.findIn K (.ref D) "__getattr__") (some none) &&
  (decide (PySem.W.subIn K (.ref D) (.type "BaseException") = some true) && (PySem.W.hasDictIn K D && (He.eqO (PySem.W.findIn K (.ref D) "__class__") (some (some (.builtin "object.__class__"))) &&
  (He.eqO (PySem.W.specialIn K (.builtin "object.__class__") "__get__") (some (some (.builtin "getset_descriptor.__get__"))) && (decide (PySem.W.takesIn K (.builtin "object.__class__") = some true) && decide (PySem.W.mroIn K D (.type "object") = some true)))))))
theorem excC_of {K : PySem.W.Frag} {D : Addr} (h : excCB K D = true) : ExcC K D := by
  obtain ⟨h1, h⟩ := He.ba h
  obtain ⟨h2, h⟩ := He.ba h
  obtain ⟨h3, h⟩ := He.ba h
  obtain ⟨h4, h⟩ := He.ba h
  obtain ⟨h5, h⟩ := He.ba h
  obtain ⟨h6, h⟩ := He.ba h
  obtain ⟨h7, h8⟩ := He.ba h
  exact ⟨He.eqO_ok h1, He.eqO_ok h2, of_decide_eq_true h3, h4, He.eqO_ok h5, He.eqO_ok h6, of_decide_eq_true h7, of_decide_eq_true h8⟩
def isChk (er ds : List String) (K : PySem.W.Frag) : Bool := er.all fun c => excCB K (clA K c) && (decide (PySem.W.kitOne K (.ref (clA K c)) (.type "ValueError") = some true) && ds.all fun d => decide (PySem.W.kitOne K (.ref (clA K c)) (.ref (clA K d)) = some (isSub c d)))
theorem isF_of {T : Tx} {mg : Str → Option Value} {ds : List String} (h : isChk T.Er ds T.K = true) (g : ∀ d ∈ ds, mg (st d) = some (.ref (clA T.K d))) : IsF T mg ds := by
  have k := List.all_eq_true.mp h
  refine ⟨fun c hc => excC_of (He.ba (k c hc)).1, fun c hc d hd => ?_, fun c hc => of_decide_eq_true (He.ba (He.ba (k c hc)).2).1, g⟩
  exact of_decide_eq_true (List.all_eq_true.mp (He.ba (He.ba (k c hc)).2).2 d hd)
def trChk (er : List String) (c : String) (K : PySem.W.Frag) : Bool := er.all fun d => decide (PySem.W.exmOne K (.ref (clA K d)) (.ref (clA K c)) = some (isSub d c))
theorem trF_of {T : Tx} {mg : Str → Option Value} {c : String} (h : trChk T.Er c T.K = true) (g : mg (st c) = some (.ref (clA T.K c))) : TrF T mg c :=
  ⟨g, fun d hd => of_decide_eq_true (List.all_eq_true.mp h d hd)⟩
theorem exF_of {T : Tx} {mg : Str → Option Value} {c : String} (er : c ∈ T.Er) (h : (He.Fa.exc (st c)).ok T.K = true) (g : mg (st c) = some (.ref (clA T.K c))) : ExF T mg c :=
  let ⟨a, b, d, e⟩ := He.exc_ok h
  ⟨er, a, g, b, d, e⟩
end Mi
end TxMiniX

section TxMiniI
set_option Elab.async false
set_option linter.all false
set_option autoImplicit false
set_option maxRecDepth 100000
set_option maxHeartbeats 4000000
namespace Mi
open PySem PySem.Spec PyProof.Rows L2
section
variable {T : Tx} {X : Cx}
/-! ### xs.index(x) -/
theorem eqs_of {ι : IA} {H : Hp} {m : MV} {v : V} (r : RV T.K ι H m v) (f : Mi.flat m = true) : ∀ {ms : List MV} {vs : List V}, RVs T.K ι H ms vs → ms.all Mi.flat = true → vs.all flatV = true ∧ vs.map (fun y => eqV y v) = ms.map fun y => eqF y m
  | [], vs, rs, _ => by
    unfold RVs at rs; subst rs
    exact ⟨rfl, rfl⟩
  | m1 :: ms, vs, rs, h => by
    cases vs with
    | nil => exact absurd rs.length (by simp)
    | cons v1 vs =>
      unfold RVs at rs
      obtain ⟨_, _, ez, r1, r2⟩ := rs
      cases ez
      simp only [List.all_cons, Bool.and_eq_true] at h
      obtain ⟨a, b⟩ := flat_of r1 h.1
      obtain ⟨c, d⟩ := eqs_of r f r2 h.2
      refine ⟨by simp [a, c], ?_⟩
      rw [List.map_cons, List.map_cons, d, b m v r f]
theorem items_eq {A : Around} {s : Shared} {x : V} {w : Value} : ∀ {vs : List V} {its : List Value}, Vals vs its → L2.RelV x w → vs.all flatV = true → flatV x = true →
    ∀ (j : Nat) (h1 : j < its.length) (h2 : j < (vs.map fun y => eqV y x).length), SeqAt.EqAt A s its[j] w (decide ((vs.map fun y => eqV y x)[j] = true))
  | [], _, e, _, _, _, j, h1, h2 => absurd h2 (Nat.not_lt_zero j)
  | y :: vs, _, .cons (b := u) a e, r, h, hx, j, h1, h2 => by
    simp only [List.all_cons, Bool.and_eq_true] at h
    cases j with
    | zero => simpa using eqAt_V (A := A) (s := s) a r h.1 hx
    | succ j => exact items_eq e r h.2 hx j (Nat.lt_of_succ_lt_succ h1) (Nat.lt_of_succ_lt_succ h2)
theorem m_index (hK : X.K = T.K) : MtR X "list.index" (canM T mIndex) := by
  intro pins s σ H x xs v us Q I rx rv c
  obtain ⟨ι, h, mx, ms, Qm, R, r1, rs, q, m⟩ := c
  unfold mIndex at m
  split at m
  rotate_left
  · exact m.elim
  · rename_i x1 y h1 Q1
    obtain ⟨u, rfl, r2⟩ := rs.one_
    obtain ⟨w, rfl, rw_⟩ : ∃ w, us = [w] ∧ L2.RelV u w := by
      cases rv with
      | cons a b => cases b with
        | nil => exact ⟨_, rfl, a⟩
    split at m
    rotate_left
    · exact m.elim
    · rename_i ys ea
      obtain ⟨m1, m2, m3, m4, m5⟩ := m
      have lay : ∃ p vs, x = .ref p ∧ L2.SqL X.K H p vs ∧ RVs T.K ι H ys vs := by
        cases mx with
        | cst zs =>
          cases ea
          obtain ⟨p, vs, rfl, e1, e2⟩ := r1.cst_
          exact ⟨p, vs, rfl, by rw [hK]; exact e1.l, e2⟩
        | ref r i =>
          have ea : (match rd h r i with
            | some (.lst xs) => some xs
            | _ => none) = some ys := ea
          split at ea
          · rename_i zs eb
            cases ea
            obtain ⟨p, vs, rfl, e0, e1, e2⟩ := R.lst_ r1 eb
            exact ⟨p, vs, rfl, SqL.of e1, e2⟩
          · cases ea
        | _ => cases ea
      obtain ⟨p, vs, rfl, e1, e2⟩ := lay
      obtain ⟨f1, f2⟩ := eqs_of r2 m1 e2 m2
      obtain ⟨fx, _⟩ := flat_of r2 m1
      obtain rfl : v = Value.ref p := rx
      obtain ⟨its, e4, e5, e6⟩ := I.list e1
      refine SeqAt.call_list_index (α := Bool) (vs := its) (ks := vs.map fun y => eqV y u) (k := true) e5.isList ⟨?_, ?_⟩ ?_ ?_ ?_
      · rw [List.length_map, e4.length]
      · exact items_eq e4 rw_ f1 fx
      · rw [List.length_map]; exact e6
      · rw [f2]; exact m3
      · refine ⟨.int ((List.idxOf true (vs.map fun y => eqV y u) : Nat) : Int), H, I.tok _, ?_, ?_⟩
        · exact ⟨_, rfl⟩
        · rw [f2]
          exact q _ _ m5 _ _ _ R Ext.refl .int'
/-! ### is, of truths -/
theorem isSame_bl (a b : Bool) : isSame (.bool a) (.bool b) = pure (a == b) := by cases a <;> cases b <;> rfl
theorem o_isB : OpR X (compareOp .Is) (canR T oIsB) := by
  intro pins s σ H x y v u Q I rx ry c
  obtain ⟨ι, h, mx, my, Qm, R, r1, r2, q, m⟩ := c
  unfold oIsB at m
  split at m
  · rename_i a b
    cases r1.bl_; cases r2.bl_
    have e1 : v = .bool a := rx
    have e2 : u = .bool b := ry
    subst e1 e2
    show wpAny _ _ (isSame (.bool a) (.bool b) >>= fun z => pure (Value.bool z)) _ _ _
    rw [isSame_bl]
    exact wpAny_bind (wpAny_pure (wpAny_pure ⟨.bl _, H, I, rfl, q.here R m .bl'⟩))
  · exact m.elim
theorem o_notB : OpR X (compareOp .IsNot) (canR T oNotB) := by
  intro pins s σ H x y v u Q I rx ry c
  obtain ⟨ι, h, mx, my, Qm, R, r1, r2, q, m⟩ := c
  unfold oNotB at m
  split at m
  · rename_i a b
    cases r1.bl_; cases r2.bl_
    have e1 : v = .bool a := rx
    have e2 : u = .bool b := ry
    subst e1 e2
    show wpAny _ _ (isSame (.bool a) (.bool b) >>= fun z => pure (Value.bool !z)) _ _ _
    rw [isSame_bl]
    exact wpAny_bind (wpAny_pure (wpAny_pure ⟨.bl _, H, I, rfl, q.here R m .bl'⟩))
  · exact m.elim
variable {W : WX} {pos : Pos}
/-! ### zip, enumerate -/
theorem lst_of {ι : IA} {h : MH} {H : Hp} {m : MV} {v : V} {ys : List MV} (R : Rel T ι h H) (r : RV T.K ι H m v) (e : lstOf h m = some ys) : ∃ p vs, v = .ref p ∧ L2.SqL T.K H p vs ∧ RVs T.K ι H ys vs := by
  cases m with
  | cst zs =>
    cases e
    obtain ⟨p, vs, rfl, e1, e2⟩ := r.cst_
    exact ⟨p, vs, rfl, e1.l, e2⟩
  | ref q i =>
    have e : (match rd h q i with
      | some (.lst xs) => some xs
      | _ => none) = some ys := e
    split at e
    · rename_i zs eb
      cases e
      obtain ⟨p, vs, rfl, e0, e1, e2⟩ := R.lst_ r eb
      exact ⟨p, vs, rfl, SqL.of e1, e2⟩
    · cases e
  | _ => cases e
/-! ### targets of several names -/
def canGm (T : Tx) (W : WX) (gs : WGs) : L2.TGs := fun vs σ H Q => ∃ ι h σm ms Qm Em, Rel T ι h H ∧ RS T ι H σm σ ∧ RVs T.K ι H ms vs ∧ PP T ι H Qm Q ∧ PX T ι H Em (L2.WE W σ) ∧ gs ms σm h Qm Em
theorem PGs.le {ts : List Expr} {t t' : L2.TGs} (h : PGs X ts t) (le : ∀ vs σ H Q, t' vs σ H Q → t vs σ H Q) : PGs X ts t' := ⟨fun pins s σ H vs us Q I r q => h.run pins s σ H vs us Q I r (le _ _ _ _ q)⟩
theorem gs_nil : PGs X [] (canGm T W Mi.gNil) := PGs.le pgs_nil fun vs σ H Q ⟨ι, h, σm, ms, Qm, Em, R, s, r, q, x, m⟩ => by
  unfold Mi.gNil at m
  split at m
  · unfold RVs at r
    exact ⟨r, q _ _ m _ _ _ R Ext.refl s⟩
  · exact m.elim
theorem gs_cons {e : Expr} {es : List Expr} {g : WG} {gs : WGs} (he : PG X e (canG T W g)) (hs : PGs X es (canGm T W gs))
    (h1 : (assignEach (e :: es) X.env).map (·.2) = assign e X.env :: (assignEach es X.env).map (·.2) := by rfl) : PGs X (e :: es) (canGm T W (Mi.gCons g gs)) :=
  PGs.le (pgs_cons he hs h1) fun vs σ H Q ⟨ι, h, σm, ms, Qm, Em, R, s, r, q, x, m⟩ => by
    unfold Mi.gCons at m
    split at m
    rotate_left
    · exact m.elim
    · rename_i v0 ms1
      unfold RVs at r
      obtain ⟨u, r0, rfl, e1, e2⟩ := r
      refine ⟨u, r0, rfl, ι, h, σm, v0, _, Em, R, s, e1, ?_, x, m⟩
      intro σ1 h1 m1 ι1 H1 σ2 R1 X1 s1
      exact ⟨ι1, h1, σ1, ms1, Qm, fun _ _ => False, R1, s1, RVs.ext R X1 _ _ e2, q.ext R1 X1, fun _ _ _ z => z.elim, m1⟩
theorem g_tup {es : List Expr} {k n : Nat} {gs : WGs} (hK : X.K = T.K) (hc : X.calm = true) (h : PGs X es (canGm T W gs)) (hn : (assignEach es X.env).length = n := by rfl) (hf : (assignEach es X.env).findIdx? (fun x => x.1) = none := by rfl) :
    PG X (.Tuple es k pos) (canG T W (Mi.gTup n gs)) := PG.le (pg_tup hc h hn hf) fun v σ H Q ⟨ι, h, σm, mv, Qm, Em, R, s, r, q, x, m⟩ => by
  unfold Mi.gTup at m
  split at m
  · obtain ⟨p, vs, rfl, e1, e2⟩ := r.tup_
    exact ⟨p, vs, rfl, by rw [hK]; exact e1, by rw [← e2.length]; exact m.1, ι, h, σm, _, Qm, Em, R, s, e2, q, x, m.2⟩
  · exact m.elim
theorem srcR_zip {ι : IA} {h : MH} {H : Hp} {m1 m2 : MV} {p1 p2 : Addr} {xs ys : List MV} (R0 : Rel T ι h H) (r1 : RV T.K ι H m1 (.ref p1)) (r2 : RV T.K ι H m2 (.ref p2)) :
    SrcR T ι H ⟨(xs.zip ys).map fun p => .tup [p.1, p.2], fun h' => lstOf h' m1 = some xs ∧ lstOf h' m2 = some ys⟩ (Itz T.K p1 p2) where
  go := fun j ι' h' H' R X c hj => by
    obtain ⟨q1, vs, e1, e2, e3⟩ := lst_of R (RV.ext R0 X _ _ r1) c.1
    obtain ⟨q2, us, e4, e5, e6⟩ := lst_of R (RV.ext R0 X _ _ r2) c.2
    cases e1; cases e4
    have hj : j < ((xs.zip ys).map fun p => MV.tup [p.1, p.2]).length := hj
    rw [List.length_map, List.length_zip, e3.length, e6.length] at hj
    exact ⟨vs, us, _, _, e2, e5, List.getElem?_eq_getElem (by omega), List.getElem?_eq_getElem (by omega)⟩
  yld := fun j ι' h' H' m x H'' R X c hm y => by
    obtain ⟨q1, vs, e1, e2, e3⟩ := lst_of R (RV.ext R0 X _ _ r1) c.1
    obtain ⟨q2, us, e4, e5, e6⟩ := lst_of R (RV.ext R0 X _ _ r2) c.2
    cases e1; cases e4
    obtain ⟨t, x1, x2, rfl, hn, rfl, y1, y2⟩ := y
    have hm : ((xs.zip ys).map fun p => MV.tup [p.1, p.2])[j]? = some m := hm
    rw [List.getElem?_map] at hm
    obtain ⟨⟨a, b⟩, z1, rfl⟩ := Option.map_eq_some_iff.mp hm
    rw [List.getElem?_zip_eq_some] at z1
    obtain ⟨v, w1, w2⟩ := e3.get z1.1
    obtain ⟨u, w3, w4⟩ := e6.get z1.2
    have := y1 vs e2; rw [w1] at this; cases this
    have := y2 us e5; rw [w3] at this; cases this
    exact tup_at R hn (RVs.cons w2 (RVs.one w4))
  stop := fun ι' h' H' R X c => by
    obtain ⟨q1, vs, e1, e2, e3⟩ := lst_of R (RV.ext R0 X _ _ r1) c.1
    obtain ⟨q2, us, e4, e5, e6⟩ := lst_of R (RV.ext R0 X _ _ r2) c.2
    cases e1; cases e4
    refine ⟨vs, us, e2, e5, ?_⟩
    show vs.length ≤ ((xs.zip ys).map fun p => MV.tup [p.1, p.2]).length ∨ us.length ≤ ((xs.zip ys).map fun p => MV.tup [p.1, p.2]).length
    rw [List.length_map, List.length_zip, e3.length, e6.length]
    omega
theorem srcR_enum {ι : IA} {h : MH} {H : Hp} {m1 : MV} {p1 : Addr} {xs : List MV} (R0 : Rel T ι h H) (r1 : RV T.K ι H m1 (.ref p1)) :
    SrcR T ι H ⟨enumF 0 xs, fun h' => lstOf h' m1 = some xs⟩ (Ite T.K p1) where
  go := fun j ι' h' H' R X c hj => by
    obtain ⟨q1, vs, e1, e2, e3⟩ := lst_of R (RV.ext R0 X _ _ r1) c
    cases e1
    have hj : j < (enumF 0 xs).length := hj
    rw [enumF_len, e3.length] at hj
    exact ⟨vs, _, e2, List.getElem?_eq_getElem hj⟩
  yld := fun j ι' h' H' m x H'' R X c hm y => by
    obtain ⟨q1, vs, e1, e2, e3⟩ := lst_of R (RV.ext R0 X _ _ r1) c
    cases e1
    obtain ⟨t, x1, rfl, hn, rfl, y1⟩ := y
    have hm : (enumF 0 xs)[j]? = some m := hm
    rw [enumF_at] at hm
    obtain ⟨a, z1, rfl⟩ := Option.map_eq_some_iff.mp hm
    obtain ⟨v, w1, w2⟩ := e3.get z1
    have := y1 vs e2; rw [w1] at this; cases this
    exact tup_at R hn (RVs.cons (by rw [Nat.zero_add]; exact .int') (RVs.one w2))
  stop := fun ι' h' H' R X c => by
    obtain ⟨q1, vs, e1, e2, e3⟩ := lst_of R (RV.ext R0 X _ _ r1) c
    cases e1
    refine ⟨vs, e2, ?_⟩
    show vs.length ≤ (enumF 0 xs).length
    rw [enumF_len, e3.length]
    exact Nat.le_refl _
theorem i_zip {a b : Expr} {ma mb : WE} {p tpos : Pos} {elts : List Expr} {kk : Nat} (hK : X.K = T.K) (hg : Gl X "zip") (hm : X.mg "zip" = none) (ha : PE X a (canE T W ma)) (hb : PE X b (canE T W mb))
    (hs : starEach [a, b] X.env = (false, eval a X.env) :: starEach [b] X.env := by rfl) (hs2 : starEach [b] X.env = [(false, eval b X.env)] := by rfl) (hpl : ((backTo pos (starEach [b] X.env)).any fun x => x.1) = false := by rfl) :
    PI X (.Tuple elts kk tpos) (.Call (.Name "zip" p) [a, b] [] pos) (canI T W (Mi.iZip ma mb)) := PI.le (pi_zip hg hm (pa_cons ha (pa_cons hb pa_nil (by rw [hs2]; rfl)) hs) hs hpl) fun σ H Rr ⟨ι, h, σm, Rm, Em, R, s, x, q, m⟩ => by
  refine canE_mk R s x m fun v h1 m1 ι1 H1 u R1 X1 s1 x1 r1 => ?_
  refine canE_mk R1 s1 x1 m1 fun v2 h2 m2 ι2 H2 u2 R2 X2 s2 x2 r2 => ?_
  have r1 := RV.ext R1 X2 _ _ r1
  split at m2
  · rename_i xs ys ea eb
    obtain ⟨p1, vs, rfl, e1, e2⟩ := lst_of R2 r1 ea
    obtain ⟨p2, us, rfl, e3, e4⟩ := lst_of R2 r2 eb
    exact ⟨p1, p2, vs, us, rfl, by rw [hK]; exact e1, by rw [hK]; exact e3, by rw [hK]; exact q _ _ m2 _ _ _ R2 (Ext.trans R1 X1 X2) (srcR_zip R2 r1 r2)⟩
  · exact m2.elim
theorem i_enum {a : Expr} {ma : WE} {p tpos : Pos} {elts : List Expr} {kk : Nat} (hK : X.K = T.K) (hg : Gl X "enumerate") (hm : X.mg "enumerate" = none) (ha : PE X a (canE T W ma))
    (hs : starEach [a] X.env = [(false, eval a X.env)] := by rfl) :
    PI X (.Tuple elts kk tpos) (.Call (.Name "enumerate" p) [a] [] pos) (canI T W (Mi.iEnum ma)) := PI.le (pi_enum hg hm (pa_cons ha pa_nil (by rw [hs]; rfl)) hs) fun σ H Rr ⟨ι, h, σm, Rm, Em, R, s, x, q, m⟩ => by
  refine canE_mk R s x m fun v h1 m1 ι1 H1 u R1 X1 s1 x1 r1 => ?_
  split at m1
  · rename_i xs ea
    obtain ⟨p1, vs, rfl, e1, e2⟩ := lst_of R1 r1 ea
    exact ⟨p1, vs, rfl, by rw [hK]; exact e1, by rw [hK]; exact q _ _ m1 _ _ _ R1 X1 (srcR_enum R1 r1)⟩
  · exact m1.elim
end
end Mi
end TxMiniI

section TxMiniJ
set_option Elab.async false
set_option linter.all false
set_option autoImplicit false
set_option maxRecDepth 100000
set_option maxHeartbeats 4000000
namespace Mi
open PySem PySem.Spec PyProof.Rows L2
/-! ### an error handed to a def, within the suite that holds it -/
/-- a def's promise where the object p stands aside -/
structure FnP (P : Program) (w : World) (K : PySem.W.Frag) (mg : Str → Option Value) (base : Heap) (k : Nat) (f : Addr) (fd : FuncData) (ps : List Str) (p : Addr × Obj) (sp : Sp) : Prop where
  len : ∀ vs H Q E, sp vs H Q E → vs.length = ps.length
  run : ∀ (A : Around) (fr : List Env) (s : Shared) (H : Hp) (gs : Args) (us : List Value) (vs : List V) (Q : VK) (E : XK), L2H.RoomH k A → L2H.PinOk fr H s p → Env0 P w K mg base A fr s H → BindsTo s fd gs (ps.zip us) → Vals vs us → sp vs H Q E → codeAny (model P w) A (.call (.ref f) gs) (CR (L2.CX P w) fr P w H s Q E) s
section
variable {T : Tx} {P : Program} {w : World} {mg : Str → Option Value} {base : Heap}
theorem fnP_of {x qual : Str} {params : Arguments} {stmts : List Stmt} {scope : Scope} {f : Addr} {fd : FuncData} {N ps : List Str} {k : Nat} {sp : Sp} {p : Addr × Obj} (F : FunD T.K x qual params stmts scope [] [] f fd) (S : FnScope N ps scope)
    (len : ∀ vs H Q E, sp vs H Q E → vs.length = ps.length)
    (hb : ∀ (cdv : Value) (A : Around) (fr : List Env) (s : Shared) (H : Hp) (vs : List V) (Q : VK) (E : XK), L2H.RoomH k (A.deeper (envOfC qual scope s.heap.objs.size f cdv)) → sp vs H Q E →
      ∃ t, PSs (L2H.cxH (L2.CX P w) P w T.K mg base N qual scope f cdv A fr s H E p) stmts t ∧ t { nx := fun _ H' => Q .non H', rt := Q } (start N vs) H) : FnP P w T.K mg base (k + 1) f fd ps p sp := by
  obtain ⟨o1, o2, dV, kV, doc, pm, an, cdv, ct, o3, rfl, lk, hcd, _, _⟩ := F.ex
  constructor
  · exact len
  intro A fr s H gs us vs Q E room pin env bto vals want
  have kin := env.mod.kin.keeps (fun b o e => (env.bs b o e).1 : ∀ b o, base.get? b = some o → s.heap.get? b = some o)
  have nol := env.mod.nolimit.keeps (fun b o e => (env.bs b o e).1 : ∀ b o, base.get? b = some o → s.heap.get? b = some o)
  have kinds : ∀ y ∈ ps.zip us, scope.names.lookup y.1 = some .local ∨ (scope.names.lookup y.1 = some .cell ∧ ((cellsFrom (s.heap.objs.size + 1) scope.names []).lookup y.1).isSome = true) := by
    intro y hy
    obtain ⟨n, v⟩ := y
    have m := (List.of_mem_zip hy).1
    exact (S.par n m).elim Or.inl fun q => Or.inr ⟨q, PySem.W.cellsFrom_some _ _ _ (Or.inl q)⟩
  refine codeAny_call_function room.depth (kin _ _ lk) rfl S.co S.gen rfl (PySem.W.codeRec_of kin hcd) (bto _ _ _ _ (wpAny_newFunctionEnv_cells S.kind kinds fun env' he s1 ic => ?_))
  subst he
  refine ⟨nol.keeps ic.toInCall.keep, codeAny_func ?_⟩
  obtain ⟨t, ht, hq⟩ := hb cdv A fr s H vs Q E (room.deeper _) want
  have I := L2H.inv_startH (CX := L2.CX P w) (E := E) S pin env (len _ _ _ _ want) vals ic
  have fin : ∀ {σ2 : L2.St} {H2 : Hp} {v : V} {u : Value} {s2 : Shared}, Inv (L2H.cxH (L2.CX P w) P w T.K mg base N qual scope f cdv A fr s H E p) [] σ2 H2 s2 → RelV v u → Q v H2 → CE fr P w H s Q u s2 := fun J rv q => ⟨_, _, J.os, J.bare, J.base, J.hok, rv, q⟩
  refine wpAny_mono (ht.run [] s1 _ H _ I hq) (fun fl s2 hs => ?_) (fun _ _ z => z)
  match fl, hs with
  | .ret u, ⟨v, σ2, H2, J, rv, q⟩ => exact fin J rv q
  | .next, ⟨σ2, H2, J, q⟩ => exact fin (v := V.non) (u := Value.none) J rfl q
  | .brk, ⟨_, _, _, q⟩ => exact q.elim
  | .cont, ⟨_, _, _, q⟩ => exact q.elim
/-- a def that is handed an error of class c at address a -/
structure FnE (T : Tx) (P : Program) (w : World) (mg : Str → Option Value) (base : Heap) (k : Nat) (x : String) (ps : List Str) (G : String → Nat → WF) : Prop where
  ok : ∃ fd, (∀ (c : String) (p : Addr × Obj), c ∈ T.Er → Zc (.ref (clA T.K c)) none p.2 → (∃ vs, p.2.data = .fields vs) → FnP P w T.K mg base k (He.ga T.K (st x)) fd ps p (spM T (G c p.1))) ∧ Binds T.K fd ps []
  at_ : mg (st x) = some (.ref (He.ga T.K (st x)))
  kp : PySem.W.keepIn T.K (.ref (He.ga T.K (st x))) = true
theorem fnE_mk {x : String} {params : Arguments} {stmts : List Stmt} {scope : Scope} {N ps : List Str} {k np nl : Nat} {body : String → Nat → WS} (D : ∃ fd, FunD T.K (st x) (st x) params stmts scope [] [] (He.ga T.K (st x)) fd) (at_ : mg (st x) = some (.ref (He.ga T.K (st x)))) (S : FnScope N ps scope) (hp : ps.length = np) (hn : N.length = nl)
    (hbi : ∀ (kV doc pm : Value) (an : Option Addr) (cdv ct : Value) (us : List Value), us.length = ps.length → bindArgs (PySem.W.fnOf (st x) (st x) params stmts scope .none kV doc pm an cdv ct) ⟨us, []⟩ = pure (ps.zip us))
    (hb : ∀ (c : String) (p : Addr × Obj), c ∈ T.Er → Zc (.ref (clA T.K c)) none p.2 → (∃ vs, p.2.data = .fields vs) → ∀ (cdv : Value) (A : Around) (fr : List Env) (s : Shared) (H : Hp) (E : XK), L2H.RoomH k (A.deeper (envOfC (st x) scope s.heap.objs.size (He.ga T.K (st x)) cdv)) →
      PSs (L2H.cxH (L2.CX P w) P w T.K mg base N (st x) scope (He.ga T.K (st x)) cdv A fr s H E p) stmts (canS T (fun cls d _ H => E cls d H) (body c p.1))) : FnE T P w mg base (k + 1) x ps (fun c a => fnM np nl (body c a)) := by
  obtain ⟨fd, F⟩ := D
  refine ⟨⟨fd, fun c p hc hz hv => fnP_of F S (fun vs H Q E h => by rw [hp]; exact sp_len h) fun cdv A fr s H vs Q E hr h => ⟨_, hb c p hc hz hv cdv A fr s H E hr, fn_rd hn h⟩, F.bindsN hbi⟩, at_, F.kp⟩
end
section
variable {T : Tx} {X : Cx} {W : WX} {pos pos' : Pos} {k j : Nat} {x c : String} {ps : List Str} {G : String → Nat → WF} {es : List Expr} {as : WA} {a : Addr} {oe : Obj}
/-- the call within the suite -/
theorem e_callX {e : Expr} {p : Pos} (hK : X.K = T.K) (tk : Takes X W) (hp : (a, oe) ∈ X.pn) (hc : c ∈ T.Er) (hz : Zc (.ref (clA T.K c)) none oe) (hv : ∃ vs, oe.data = .fields vs) (f : FnE T X.prog X.w X.mg X.base j x ps G) (hj : j ≤ k) (hr : L2H.RoomH k X.A) (hg : Gl X (st x)) (ha : PA X (e :: es) (canA T W as)) (hdb : (st x == ("__debug__" : Str)) = false)
    (he : starEach (e :: es) X.env = (false, eval e X.env) :: starEach es X.env := by rfl) (hpl : (backTo pos (starEach es X.env)).any (·.1) = false := by rfl) :
    PE X (.Call (.Name (st x) p) (e :: es) [] pos) (canE T W (wCall (G c a) as)) := by
  obtain ⟨fd, g, b⟩ := f.ok
  have g := g c (a, oe) hc hz hv
  have kp := f.kp
  have at_ := f.at_
  rw [← hK] at g b kp at_
  refine ⟨fun pins s σ H Q I h => ?_⟩
  have h := show canA T W as σ H (fun vs H1 => spM T (G c a) vs H1 Q (L2.WE W σ)) from by
    obtain ⟨ι, h, σm, Qm, Em, R, sr, q, x, m⟩ := h
    exact canA_mk R sr x m fun ms h1 m1 ι1 H1 vs R1 X1 s1 x1 r1 => sp_of R1 r1 (q.ext R1 X1) x1 m1
  refine wpAny_Call_Name_kw (ld_glob I hg at_ ?_ hdb)
  refine PySem.W.callWith_K (h₀ := X.base) I.ok.mod.kin kp (thn (ha.run pos pins s σ H _ I h) fun us s1 ⟨vs, H1, I1, r, q⟩ => ⟨I1.kIn, ?_⟩) he hpl
  have pin := I1.pin (a, oe) (List.mem_append.mpr (Or.inl hp))
  have ok : L2H.PinOk X.stack H1 s1 (a, oe) := ⟨pin.1, pin.2.1, fun hm => by
    rcases List.mem_cons.mp (I1.stkSub a hm) with z | z
    · exact pin.2.2.1 z
    · exact pin.2.2.2.1 z, pin.2.2.2.2⟩
  have hl : us.length = ps.length := r.length.symm.trans (g.len _ _ _ _ q)
  have bt := b s1 us I1.kIn (by rw [List.append_nil]; exact hl)
  rw [List.append_nil] at bt
  refine wpAny_call (codeAny_mono (g.run X.A X.stack s1 H1 ⟨us, []⟩ us vs Q (L2.WE W σ) (hr.mono hj) ok I1.env0 bt r q) fun o s2 hq => ?_)
  match o, hq with
  | .error e, hq => exact passAt tk σ pins H1 s1 e s2 I1 hq
  | .ok (.ret u), hq => exact I1.after hq
  | .ok .next, hq => exact False.elim hq
  | .ok .brk, hq => exact False.elim hq
  | .ok .cont, hq => exact False.elim hq
/-! isinstance of the error that stands aside -/
theorem call_isP {D : Addr} (hp : (a, oe) ∈ X.pn) (C : ExcC X.K D) (hz : Zc (.ref D) none oe) (hf : ∃ vs, oe.data = .fields vs) : CallR X (.builtin "isinstance") (rIsE X.K D a) := by
  intro pins s σ H xs us Q I r h
  obtain ⟨cv, val, b, rfl, same, e, q⟩ := h
  match r with
  | .cons rx (.cons rt .nil) =>
    have e1 := same _ rt
    subst e1
    cases rx
    have get := (I.pin (a, oe) (List.mem_append.mpr (Or.inl hp))).1
    have J : PySem.W.InstAt s.heap a oe D none := by
      obtain ⟨o1, o2, o3, o4⟩ := oe
      obtain ⟨y1, y2⟩ := hz
      obtain ⟨fs, y3⟩ := hf
      dsimp only at y1 y2 y3
      subst y1 y2 y3
      exact ⟨get, rfl, rfl, trivial⟩
    have kx := PySem.W.handS_kitx_exc (x := a) (ox := oe) C.hg C.hk C.hs C.hd C.ha C.hn C.ht C.hm
    exact PySem.W.kia_one kx I.kIn J e (fun z => by cases z) fun tk => ⟨.bl b, H, I.kept (t' := tk) (fun _ _ z => z), rfl, q⟩
variable {ds : List String} {i : Nat} {n : Str} {p p2 p3 : Pos}
theorem is_slotW {Q : VK} {σ : L2.St} {H : Hp} {b : Bool} (r : canE T W (wIsE i a b) σ H Q) : σ[i]? = some (some (.ref a)) ∧ ∃ ι h Qm, Rel T ι h H ∧ PQ T ι H Qm Q ∧ Qm (.bl b) h := by
  obtain ⟨ι, h, σm, Qm, Em, R, sr, q, x, m1, m2⟩ := r
  obtain ⟨v, y1, y2⟩ := sr.2 i _ m1
  have y2 : v = .ref a := by unfold RV at y2; exact y2
  rw [y2] at y1
  exact ⟨y1, ι, h, Qm, R, q, m2⟩
theorem e_isPE {d : String} (hK : X.K = T.K) (f : IsF T X.mg ds) (hp : (a, oe) ∈ X.pn) (hc : c ∈ T.Er) (hd : d ∈ ds) (hz : Zc (.ref (clA T.K c)) none oe) (hv : ∃ vs, oe.data = .fields vs) (hg : Gl X "isinstance") (hm : X.mg "isinstance" = none) (he : PE X (.Name n p2) (L2.tVar i))
    (hgd : Gl X (st d)) (hdb : (st d == ("__debug__" : Str)) = false)
    (hs : starEach [.Name n p2, .Name (st d) p3] X.env = (false, eval (.Name n p2) X.env) :: starEach [.Name (st d) p3] X.env := by rfl) (hpl : (backTo pos (starEach [.Name (st d) p3] X.env)).any (·.1) = false := by rfl) :
    PE X (.Call (.Name "isinstance" p) [.Name n p2, .Name (st d) p3] [] pos) (canE T W (wIsE i a (isSub c d))) := by
  have y1 := f.ec c hc
  have y2 := f.kt c hc d hd
  rw [← hK] at y1 y2 hz
  refine PE.le (pe_callB (call_isP hp y1 hz hv) hg hm (by decide +kernel) (pa_cons he (pa_cons (pe_glob (v := .ref (clA T.K d)) hgd (f.at_ d hd) rfl hdb) pa_nil) hs) (by decide) (by decide) hs hpl) fun σ H Q r => ?_
  obtain ⟨z, ι, h, Qm, R, q, m⟩ := is_slotW r
  refine ⟨_, z, .ref (clA T.K d), .ref (clA T.K d), isSub c d, rfl, fun u r => r, ?_, q.here R m .bl'⟩
  rw [hK] at y2 ⊢
  exact y2
theorem e_isPV (hK : X.K = T.K) (f : IsF T X.mg ds) (hp : (a, oe) ∈ X.pn) (hc : c ∈ T.Er) (hz : Zc (.ref (clA T.K c)) none oe) (hv : ∃ vs, oe.data = .fields vs) (hg : Gl X "isinstance") (hm : X.mg "isinstance" = none) (he : PE X (.Name n p2) (L2.tVar i))
    (hgd : Gl X "ValueError") (hmd : X.mg "ValueError" = none)
    (hs : starEach [.Name n p2, .Name "ValueError" p3] X.env = (false, eval (.Name n p2) X.env) :: starEach [.Name "ValueError" p3] X.env := by rfl) (hpl : (backTo pos (starEach [.Name "ValueError" p3] X.env)).any (·.1) = false := by rfl) :
    PE X (.Call (.Name "isinstance" p) [.Name n p2, .Name "ValueError" p3] [] pos) (canE T W (wIsE i a true)) := by
  have y1 := f.ec c hc
  have y2 := f.kv c hc
  rw [← hK] at y1 y2 hz
  refine PE.le (pe_callB (call_isP hp y1 hz hv) hg hm (by decide +kernel) (pa_cons he (pa_cons (pe_bltn (v := .ty "ValueError") hgd hmd (by decide +kernel) rfl) pa_nil) hs) (by decide) (by decide) hs hpl) fun σ H Q r => ?_
  obtain ⟨z, ι, h, Qm, R, q, m⟩ := is_slotW r
  refine ⟨_, z, .ty "ValueError", .type "ValueError", true, rfl, fun u r => r, ?_, q.here R m .bl'⟩
  rw [hK] at y2 ⊢
  exact y2
theorem call_isPT {D : Addr} (hp : (a, oe) ∈ X.pn) (C : ExcC X.K D) (hz : Zc (.ref D) none oe) (hf : ∃ vs, oe.data = .fields vs) :
    CallR X (.builtin "isinstance") (fun xs H Q => ∃ (tp : Addr) (cs : List V) (us : List Value) (b : Bool), xs = [.ref a, .ref tp] ∧ H tp = some (.tup cs) ∧ Paired ClsV cs us ∧ PySem.W.kitAny X.K (.ref D) us = some b ∧ Q (.bl b) H) := by
  intro pins s σ H xs us Q I r h
  obtain ⟨tp, cs, ws, b, rfl, hT, pr, e, q⟩ := h
  match r with
  | .cons rx (.cons rt .nil) =>
    cases rx
    cases rt
    have get := (I.pin (a, oe) (List.mem_append.mpr (Or.inl hp))).1
    have J : PySem.W.InstAt s.heap a oe D none := by
      obtain ⟨o1, o2, o3, o4⟩ := oe
      obtain ⟨y1, y2⟩ := hz
      obtain ⟨fs, y3⟩ := hf
      dsimp only at y1 y2 y3
      subst y1 y2 y3
      exact ⟨get, rfl, rfl, trivial⟩
    obtain ⟨_, its, rv, ot, w1, w2, n, w3⟩ := (show ObjOk X.prog X.w H s.heap tp (.tup cs) from I.hok tp _ hT)
    have w4 := ClsV.all pr rv
    subst w4
    obtain ⟨t1, t2, t3, t4⟩ := ot
    dsimp only at w2 w3
    subst w2 w3
    have kx := PySem.W.handS_kitx_exc (x := a) (ox := oe) C.hg C.hk C.hs C.hd C.ha C.hn C.ht C.hm
    exact PySem.W.kia_tup kx I.kIn J w1 e (fun z => by cases z) fun tk => ⟨.bl b, H, I.kept (t' := tk) (fun _ _ z => z), rfl, q⟩
theorem e_isPT {es : List String} {xs : List Expr} {t : TA} {k : Nat} {p4 : Pos} (hK : X.K = T.K) (f : IsF T X.mg ds) (hp : (a, oe) ∈ X.pn) (hc : c ∈ T.Er) (hd : ∀ d ∈ es, d ∈ ds) (hl : es.length ≤ 100) (hz : Zc (.ref (clA T.K c)) none oe) (hv : ∃ vs, oe.data = .fields vs) (hg : Gl X "isinstance") (hm : X.mg "isinstance" = none) (he : PE X (.Name n p2) (L2.tVar i))
    (ha : PA X xs t) (ht : ∀ σ H Q, Q (es.map fun d => V.ref (clA T.K d)) H → t σ H Q)
    (hs : starEach [.Name n p2, .Tuple xs k p4] X.env = (false, eval (.Name n p2) X.env) :: starEach [.Tuple xs k p4] X.env := by rfl) (hpl : (backTo pos (starEach [.Tuple xs k p4] X.env)).any (·.1) = false := by rfl)
    (hs2 : starEach [.Tuple xs k p4] X.env = (false, eval (.Tuple xs k p4) X.env) :: starEach [] X.env := by rfl) :
    PE X (.Call (.Name "isinstance" p) [.Name n p2, .Tuple xs k p4] [] pos) (canE T W (wIsE i a (es.any (isSub c)))) := by
  have y1 := f.ec c hc
  have y2 := kitAny_of (K := T.K) (g := fun d => Value.ref (clA T.K d)) (fun d h => f.kt c hc d (hd d h))
  rw [← hK] at y1 hz
  refine PE.le (pe_callB (call_isPT hp y1 hz hv) hg hm (by decide +kernel) (pa_cons he (pa_cons (pe_tup ha) pa_nil hs2) hs) (by decide) (by decide) hs hpl) fun σ H Q r => ?_
  obtain ⟨z, ι, h, Qm, R, q, m⟩ := is_slotW r
  refine ⟨_, z, ht _ _ _ ⟨by rw [List.length_map, sizeLine_eq]; omega, fun tp htp => ?_⟩⟩
  obtain ⟨R2, X2⟩ := aside (O := .tup (es.map fun d => V.ref (clA T.K d))) R htp
  refine ⟨tp, _, _, es.any (isSub c), rfl, upd_same, paired_cls es, ?_, q _ _ m _ _ _ R2 X2 .bl'⟩
  rw [hK]
  exact y2
end
theorem roomH_u {k : Nat} {A : Around} (r : L2H.RoomH k A) : A.units + 64 < cLine := by have := r.un; omega
theorem roomS {k : Nat} {A : Around} {v : Option Value} (r : Room k A) : L2H.RoomH k (A.mark v) := ⟨r.dp, r.un⟩
end Mi
end TxMiniJ

section TxDefs
set_option autoImplicit false
set_option linter.all false
set_option maxRecDepth 100000
namespace Mi
/-! mini terms, printed by gen.py -/
theorem O_law_well : ∃ f : WF, f = fnM 2 5 (sSeq (sAsg (wC (.int 0)) (gN 2)) (sSeq (sIf (tV (wOp oLt (wV 1) (wB bLen (aCons (wV 0) aNil)))) (sAsg (wOp oIx (wV 0) (wV 1)) (gN 2)) sNx) (sSeq (sAsg (wLst 100 (aCons (wC (.int 2147483647)) (aCons (wC (.int 2147483629)) (aCons (wC (.int 2147483587)) (aCons (wC (.int 2147483579)) (aCons (wC (.int 2147483563)) (aCons (wC (.int 2147483549)) (aCons (wC (.int 2147483543)) (aCons (wC (.int 2147483497)) aNil))))))))) (gN 3)) (sSeq (sAsg (wOp oMod (wOp (oMul 0) (wOp (oAdd 0) (wOp oMod (wV 2) (wC (.int 2147483489))) (wC (.int 1))) (wOp (oAdd 0) (wC (.int 48271)) (wOp (oMul 0) (wC (.int 2)) (wV 1)))) (wC (.int 2147483489))) (gN 4)) (sSeq (sAsg (wOp (oAdd 0) (wOp (oAdd 0) (wOp oMod (wOp (oMul 0) (wV 4) (wV 4)) (wC (.int 2147483477))) (wV 1)) (wC (.int 1))) (gN 4)) (sSeq (sIf (tV (wOp oGe (wV 2) (wOp oPow (wC (.int 10)) (wC (.int 18))))) (sRet (wLst 1 (aCons (wV 2) (aCons (wV 4) (aCons (wOp oIx (wV 3) (wOp oMod (wV 1) (wC (.int 8)))) aNil))))) sNx) (sRet (wLst 1 (aCons (wC (.int 0)) (aCons (wV 4) (aCons (wOp oIx (wV 3) (wOp oMod (wV 1) (wC (.int 8)))) aNil))))))))))) := ⟨_, rfl⟩
noncomputable def F_law_well : WF := Classical.choose O_law_well
theorem F_law_well_eq : F_law_well = fnM 2 5 (sSeq (sAsg (wC (.int 0)) (gN 2)) (sSeq (sIf (tV (wOp oLt (wV 1) (wB bLen (aCons (wV 0) aNil)))) (sAsg (wOp oIx (wV 0) (wV 1)) (gN 2)) sNx) (sSeq (sAsg (wLst 100 (aCons (wC (.int 2147483647)) (aCons (wC (.int 2147483629)) (aCons (wC (.int 2147483587)) (aCons (wC (.int 2147483579)) (aCons (wC (.int 2147483563)) (aCons (wC (.int 2147483549)) (aCons (wC (.int 2147483543)) (aCons (wC (.int 2147483497)) aNil))))))))) (gN 3)) (sSeq (sAsg (wOp oMod (wOp (oMul 0) (wOp (oAdd 0) (wOp oMod (wV 2) (wC (.int 2147483489))) (wC (.int 1))) (wOp (oAdd 0) (wC (.int 48271)) (wOp (oMul 0) (wC (.int 2)) (wV 1)))) (wC (.int 2147483489))) (gN 4)) (sSeq (sAsg (wOp (oAdd 0) (wOp (oAdd 0) (wOp oMod (wOp (oMul 0) (wV 4) (wV 4)) (wC (.int 2147483477))) (wV 1)) (wC (.int 1))) (gN 4)) (sSeq (sIf (tV (wOp oGe (wV 2) (wOp oPow (wC (.int 10)) (wC (.int 18))))) (sRet (wLst 1 (aCons (wV 2) (aCons (wV 4) (aCons (wOp oIx (wV 3) (wOp oMod (wV 1) (wC (.int 8)))) aNil))))) sNx) (sRet (wLst 1 (aCons (wC (.int 0)) (aCons (wV 4) (aCons (wOp oIx (wV 3) (wOp oMod (wV 1) (wC (.int 8)))) aNil))))))))))) := Classical.choose_spec O_law_well
theorem O_law_take : ∃ f : WF, f = fnM 2 3 (sSeq (sIf (tV (wOp oGt (wOp oIx (wV 0) (wC (.int 0))) (wC (.int 0)))) (sSeq (sAsg (wOp oMod (wOp oIx (wV 0) (wC (.int 0))) (wV 1)) (gN 2)) (sSeq (sAsg (wOp oDiv (wOp oIx (wV 0) (wC (.int 0))) (wV 1)) (gIx (wV 0) (wC (.int 0)))) (sRet (wV 2)))) sNx) (sSeq (sAsg (wOp (oAdd 0) (wOp oMod (wOp (oMul 0) (wOp oIx (wV 0) (wC (.int 1))) (wC (.int 48271))) (wOp oIx (wV 0) (wC (.int 2)))) (wC (.int 1))) (gIx (wV 0) (wC (.int 1)))) (sRet (wOp oMod (wOp oDiv (wOp oMod (wOp (oMul 0) (wOp oIx (wV 0) (wC (.int 1))) (wOp oIx (wV 0) (wC (.int 1)))) (wC (.int 2147483423))) (wC (.int 7))) (wV 1))))) := ⟨_, rfl⟩
noncomputable def F_law_take : WF := Classical.choose O_law_take
theorem F_law_take_eq : F_law_take = fnM 2 3 (sSeq (sIf (tV (wOp oGt (wOp oIx (wV 0) (wC (.int 0))) (wC (.int 0)))) (sSeq (sAsg (wOp oMod (wOp oIx (wV 0) (wC (.int 0))) (wV 1)) (gN 2)) (sSeq (sAsg (wOp oDiv (wOp oIx (wV 0) (wC (.int 0))) (wV 1)) (gIx (wV 0) (wC (.int 0)))) (sRet (wV 2)))) sNx) (sSeq (sAsg (wOp (oAdd 0) (wOp oMod (wOp (oMul 0) (wOp oIx (wV 0) (wC (.int 1))) (wC (.int 48271))) (wOp oIx (wV 0) (wC (.int 2)))) (wC (.int 1))) (gIx (wV 0) (wC (.int 1)))) (sRet (wOp oMod (wOp oDiv (wOp oMod (wOp (oMul 0) (wOp oIx (wV 0) (wC (.int 1))) (wOp oIx (wV 0) (wC (.int 1)))) (wC (.int 2147483423))) (wC (.int 7))) (wV 1))))) := Classical.choose_spec O_law_take
theorem O_law_far : ∃ f : WF, f = fnM 1 1 (sRet (wOp oIx (wLst 101 (aCons (wOp (oAdd 0) (wC (.int 1)) (wCall F_law_take (aCons (wV 0) (aCons (wC (.int 3)) aNil)))) (aCons (wOp (oAdd 0) (wC (.int 1)) (wCall F_law_take (aCons (wV 0) (aCons (wOp oPow (wC (.int 10)) (wC (.int 58))) aNil)))) aNil))) (wCall F_law_take (aCons (wV 0) (aCons (wC (.int 2)) aNil))))) := ⟨_, rfl⟩
noncomputable def F_law_far : WF := Classical.choose O_law_far
theorem F_law_far_eq : F_law_far = fnM 1 1 (sRet (wOp oIx (wLst 101 (aCons (wOp (oAdd 0) (wC (.int 1)) (wCall F_law_take (aCons (wV 0) (aCons (wC (.int 3)) aNil)))) (aCons (wOp (oAdd 0) (wC (.int 1)) (wCall F_law_take (aCons (wV 0) (aCons (wOp oPow (wC (.int 10)) (wC (.int 58))) aNil)))) aNil))) (wCall F_law_take (aCons (wV 0) (aCons (wC (.int 2)) aNil))))) := Classical.choose_spec O_law_far
theorem O_look_at_size : ∃ f : WF, f = fnM 1 1 (sIf (tOr (tV (wOp oLt (wV 0) (wC (.int 2)))) (tV (wOp oGt (wV 0) (wC (.int 8))))) (sRaise "BadSize") sNx) := ⟨_, rfl⟩
noncomputable def F_look_at_size : WF := Classical.choose O_look_at_size
theorem F_look_at_size_eq : F_look_at_size = fnM 1 1 (sIf (tOr (tV (wOp oLt (wV 0) (wC (.int 2)))) (tV (wOp oGt (wV 0) (wC (.int 8))))) (sRaise "BadSize") sNx) := Classical.choose_spec O_look_at_size
theorem O_look_at_turn : ∃ f : WF, f = fnM 2 2 (sSeq (sEx (wCall F_look_at_size (aCons (wV 0) aNil))) (sIf (tOr (tV (wOp oLt (wV 1) (wC (.int 0)))) (tV (wOp oGe (wV 1) (wOp (oMul 0) (wC (.int 2)) (wV 0))))) (sRaise "NoTurn") sNx)) := ⟨_, rfl⟩
noncomputable def F_look_at_turn : WF := Classical.choose O_look_at_turn
theorem F_look_at_turn_eq : F_look_at_turn = fnM 2 2 (sSeq (sEx (wCall F_look_at_size (aCons (wV 0) aNil))) (sIf (tOr (tV (wOp oLt (wV 1) (wC (.int 0)))) (tV (wOp oGe (wV 1) (wOp (oMul 0) (wC (.int 2)) (wV 0))))) (sRaise "NoTurn") sNx)) := Classical.choose_spec O_look_at_turn
theorem O_distance : ∃ f : WF, f = fnM 3 3 (sSeq (sEx (wCall F_look_at_turn (aCons (wV 0) (aCons (wV 1) aNil)))) (sSeq (sEx (wCall F_look_at_turn (aCons (wV 0) (aCons (wV 2) aNil)))) (sRet (wOp oMod (wOp oSub (wV 2) (wV 1)) (wOp (oMul 0) (wC (.int 2)) (wV 0)))))) := ⟨_, rfl⟩
noncomputable def F_distance : WF := Classical.choose O_distance
theorem F_distance_eq : F_distance = fnM 3 3 (sSeq (sEx (wCall F_look_at_turn (aCons (wV 0) (aCons (wV 1) aNil)))) (sSeq (sEx (wCall F_look_at_turn (aCons (wV 0) (aCons (wV 2) aNil)))) (sRet (wOp oMod (wOp oSub (wV 2) (wV 1)) (wOp (oMul 0) (wC (.int 2)) (wV 0)))))) := Classical.choose_spec O_distance
theorem O_onward : ∃ f : WF, f = fnM 3 3 (sSeq (sEx (wCall F_look_at_turn (aCons (wV 0) (aCons (wV 1) aNil)))) (sRet (wOp oMod (wOp (oAdd 0) (wV 1) (wV 2)) (wOp (oMul 0) (wC (.int 2)) (wV 0))))) := ⟨_, rfl⟩
noncomputable def F_onward : WF := Classical.choose O_onward
theorem F_onward_eq : F_onward = fnM 3 3 (sSeq (sEx (wCall F_look_at_turn (aCons (wV 0) (aCons (wV 1) aNil)))) (sRet (wOp oMod (wOp (oAdd 0) (wV 1) (wV 2)) (wOp (oMul 0) (wC (.int 2)) (wV 0))))) := Classical.choose_spec O_onward
theorem O_lap_of : ∃ f : WF, f = fnM 2 2 (sSeq (sEx (wCall F_look_at_turn (aCons (wV 0) (aCons (wV 1) aNil)))) (sRet (wOp oDiv (wV 1) (wV 0)))) := ⟨_, rfl⟩
noncomputable def F_lap_of : WF := Classical.choose O_lap_of
theorem F_lap_of_eq : F_lap_of = fnM 2 2 (sSeq (sEx (wCall F_look_at_turn (aCons (wV 0) (aCons (wV 1) aNil)))) (sRet (wOp oDiv (wV 1) (wV 0)))) := Classical.choose_spec O_lap_of
theorem O_place_of : ∃ f : WF, f = fnM 2 2 (sSeq (sEx (wCall F_look_at_turn (aCons (wV 0) (aCons (wV 1) aNil)))) (sRet (wOp oMod (wV 1) (wV 0)))) := ⟨_, rfl⟩
noncomputable def F_place_of : WF := Classical.choose O_place_of
theorem F_place_of_eq : F_place_of = fnM 2 2 (sSeq (sEx (wCall F_look_at_turn (aCons (wV 0) (aCons (wV 1) aNil)))) (sRet (wOp oMod (wV 1) (wV 0)))) := Classical.choose_spec O_place_of
theorem O_law_whole : ∃ f : WF, f = fnM 1 1 (sRet (wAndV (bIsi ["int"] (wV 0)) (wNot (tTru (bIsi ["bool"] (wV 0)))))) := ⟨_, rfl⟩
noncomputable def F_law_whole : WF := Classical.choose O_law_whole
theorem F_law_whole_eq : F_law_whole = fnM 1 1 (sRet (wAndV (bIsi ["int"] (wV 0)) (wNot (tTru (bIsi ["bool"] (wV 0)))))) := Classical.choose_spec O_law_whole
theorem O_free_mark : ∃ f : WF, f = fnM 2 2 (sRet (wOp (oMul 0) (wC (.int 2)) (wCall F_lap_of (aCons (wV 0) (aCons (wV 1) aNil))))) := ⟨_, rfl⟩
noncomputable def F_free_mark : WF := Classical.choose O_free_mark
theorem F_free_mark_eq : F_free_mark = fnM 2 2 (sRet (wOp (oMul 0) (wC (.int 2)) (wCall F_lap_of (aCons (wV 0) (aCons (wV 1) aNil))))) := Classical.choose_spec O_free_mark
theorem O_full_mark : ∃ f : WF, f = fnM 2 2 (sRet (wOp (oAdd 0) (wOp (oMul 0) (wC (.int 2)) (wCall F_lap_of (aCons (wV 0) (aCons (wV 1) aNil)))) (wC (.int 1)))) := ⟨_, rfl⟩
noncomputable def F_full_mark : WF := Classical.choose O_full_mark
theorem F_full_mark_eq : F_full_mark = fnM 2 2 (sRet (wOp (oAdd 0) (wOp (oMul 0) (wC (.int 2)) (wCall F_lap_of (aCons (wV 0) (aCons (wV 1) aNil)))) (wC (.int 1)))) := Classical.choose_spec O_full_mark
theorem O_look_at_mark : ∃ f : WF, f = fnM 1 1 (sIf (tOr (tV (wOp oLt (wV 0) (wC (.int 0)))) (tV (wOp oGt (wV 0) (wC (.int 3))))) (sRaise "BadMark") sNx) := ⟨_, rfl⟩
noncomputable def F_look_at_mark : WF := Classical.choose O_look_at_mark
theorem F_look_at_mark_eq : F_look_at_mark = fnM 1 1 (sIf (tOr (tV (wOp oLt (wV 0) (wC (.int 0)))) (tV (wOp oGt (wV 0) (wC (.int 3))))) (sRaise "BadMark") sNx) := Classical.choose_spec O_look_at_mark
theorem O_may_take : ∃ f : WF, f = fnM 3 4 (sSeq (sAsg (wCall F_lap_of (aCons (wV 0) (aCons (wV 1) aNil))) (gN 3)) (sSeq (sEx (wCall F_look_at_mark (aCons (wV 2) aNil))) (sRet (wOp oEq (wV 2) (wOp (oAdd 0) (wOp (oMul 0) (wC (.int 2)) (wV 3)) (wC (.int 1))))))) := ⟨_, rfl⟩
noncomputable def F_may_take : WF := Classical.choose O_may_take
theorem F_may_take_eq : F_may_take = fnM 3 4 (sSeq (sAsg (wCall F_lap_of (aCons (wV 0) (aCons (wV 1) aNil))) (gN 3)) (sSeq (sEx (wCall F_look_at_mark (aCons (wV 2) aNil))) (sRet (wOp oEq (wV 2) (wOp (oAdd 0) (wOp (oMul 0) (wC (.int 2)) (wV 3)) (wC (.int 1))))))) := Classical.choose_spec O_may_take
theorem O_may_give : ∃ f : WF, f = fnM 3 4 (sSeq (sAsg (wCall F_lap_of (aCons (wV 0) (aCons (wV 1) aNil))) (gN 3)) (sSeq (sEx (wCall F_look_at_mark (aCons (wV 2) aNil))) (sRet (wOp oEq (wV 2) (wOp (oMul 0) (wC (.int 2)) (wOp oSub (wC (.int 1)) (wV 3))))))) := ⟨_, rfl⟩
noncomputable def F_may_give : WF := Classical.choose O_may_give
theorem F_may_give_eq : F_may_give = fnM 3 4 (sSeq (sAsg (wCall F_lap_of (aCons (wV 0) (aCons (wV 1) aNil))) (gN 3)) (sSeq (sEx (wCall F_look_at_mark (aCons (wV 2) aNil))) (sRet (wOp oEq (wV 2) (wOp (oMul 0) (wC (.int 2)) (wOp oSub (wC (.int 1)) (wV 3))))))) := Classical.choose_spec O_may_give
theorem O_law_front : ∃ f : WF, f = fnM 1 6 (sSeq (sAsg (wB bLen (aCons (wV 0) aNil)) (gN 1)) (sSeq (sFor (iRng1 (wOp (oMul 0) (wC (.int 2)) (wV 1))) (gN 2) (sSeq (sAsg (wOp oDiv (wV 2) (wV 1)) (gN 3)) (sSeq (sAsg (wOp oMod (wV 2) (wV 1)) (gN 4)) (sSeq (sAsg (wOp (oAdd 0) (wOp (oMul 0) (wLst 133 (aCons (wV 3) aNil)) (wV 4)) (wOp (oMul 0) (wLst 134 (aCons (wOp oSub (wC (.int 1)) (wV 3)) aNil)) (wOp oSub (wV 1) (wV 4)))) (gN 5)) (sIf (tV (wOp oEq (wV 0) (wV 5))) (sRet (wV 2)) sNx))))) (sRet (wC .non)))) := ⟨_, rfl⟩
noncomputable def F_law_front : WF := Classical.choose O_law_front
theorem F_law_front_eq : F_law_front = fnM 1 6 (sSeq (sAsg (wB bLen (aCons (wV 0) aNil)) (gN 1)) (sSeq (sFor (iRng1 (wOp (oMul 0) (wC (.int 2)) (wV 1))) (gN 2) (sSeq (sAsg (wOp oDiv (wV 2) (wV 1)) (gN 3)) (sSeq (sAsg (wOp oMod (wV 2) (wV 1)) (gN 4)) (sSeq (sAsg (wOp (oAdd 0) (wOp (oMul 0) (wLst 133 (aCons (wV 3) aNil)) (wV 4)) (wOp (oMul 0) (wLst 134 (aCons (wOp oSub (wC (.int 1)) (wV 3)) aNil)) (wOp oSub (wV 1) (wV 4)))) (gN 5)) (sIf (tV (wOp oEq (wV 0) (wV 5))) (sRet (wV 2)) sNx))))) (sRet (wC .non)))) := Classical.choose_spec O_law_front
theorem O_front : ∃ f : WF, f = fnM 1 4 (sSeq (sEx (wCall F_look_at_size (aCons (wB bLen (aCons (wV 0) aNil)) aNil))) (sSeq (sFor (iSeq (wV 0)) (gN 1) (sIf (tOr (tV (wOp oLt (wV 1) (wC (.int 0)))) (tV (wOp oGt (wV 1) (wC (.int 1))))) (sRaise "BadMark") sNx)) (sSeq (sAsg (wOp oIx (wV 0) (wC (.int 0))) (gN 2)) (sSeq (sAsg (wC (.int 0)) (gN 3)) (sSeq (sWhile (tAnd (tV (wOp oLt (wV 3) (wB bLen (aCons (wV 0) aNil)))) (tV (wOp oEq (wOp oIx (wV 0) (wV 3)) (wV 2)))) (sAsg (wOp (oAdd 0) (wV 3) (wC (.int 1))) (gN 3))) (sSeq (sIf (tV (wOp oEq (wV 3) (wB bLen (aCons (wV 0) aNil)))) (sRet (wOp (oMul 0) (wB bLen (aCons (wV 0) aNil)) (wOp oSub (wC (.int 1)) (wV 2)))) sNx) (sSeq (sIf (tV (wOp oIn (wV 2) (wSl 136 (wV 0) (pSome (wV 3)) pNone))) (sRaise "Crooked") sNx) (sRet (wOp (oAdd 0) (wOp (oMul 0) (wB bLen (aCons (wV 0) aNil)) (wV 2)) (wV 3)))))))))) := ⟨_, rfl⟩
noncomputable def F_front : WF := Classical.choose O_front
theorem F_front_eq : F_front = fnM 1 4 (sSeq (sEx (wCall F_look_at_size (aCons (wB bLen (aCons (wV 0) aNil)) aNil))) (sSeq (sFor (iSeq (wV 0)) (gN 1) (sIf (tOr (tV (wOp oLt (wV 1) (wC (.int 0)))) (tV (wOp oGt (wV 1) (wC (.int 1))))) (sRaise "BadMark") sNx)) (sSeq (sAsg (wOp oIx (wV 0) (wC (.int 0))) (gN 2)) (sSeq (sAsg (wC (.int 0)) (gN 3)) (sSeq (sWhile (tAnd (tV (wOp oLt (wV 3) (wB bLen (aCons (wV 0) aNil)))) (tV (wOp oEq (wOp oIx (wV 0) (wV 3)) (wV 2)))) (sAsg (wOp (oAdd 0) (wV 3) (wC (.int 1))) (gN 3))) (sSeq (sIf (tV (wOp oEq (wV 3) (wB bLen (aCons (wV 0) aNil)))) (sRet (wOp (oMul 0) (wB bLen (aCons (wV 0) aNil)) (wOp oSub (wC (.int 1)) (wV 2)))) sNx) (sSeq (sIf (tV (wOp oIn (wV 2) (wSl 136 (wV 0) (pSome (wV 3)) pNone))) (sRaise "Crooked") sNx) (sRet (wOp (oAdd 0) (wOp (oMul 0) (wB bLen (aCons (wV 0) aNil)) (wV 2)) (wV 3)))))))))) := Classical.choose_spec O_front
theorem O_law_marks : ∃ f : WF, f = fnM 3 7 (sSeq (sAsg (wLst 151 aNil) (gN 3)) (sSeq (sFor (iRng1 (wV 0)) (gN 4) (sSeq (sAsg (wOp oDiv (wOp oSub (wOp (oAdd 0) (wOp oSub (wV 2) (wV 4)) (wV 0)) (wC (.int 1))) (wV 0)) (gN 5)) (sSeq (sAsg (wOp (oAdd 0) (wV 4) (wOp (oMul 0) (wV 0) (wOp oSub (wV 5) (wC (.int 1))))) (gN 6)) (sIf (tV (wOp oEq (wV 5) (wC (.int 0)))) (sEx (wBM "list" mAppend (wV 3) (aCons (wC (.int 2)) aNil))) (sEx (wBM "list" mAppend (wV 3) (aCons (wOp (oAdd 0) (wOp (oMul 0) (wC (.int 2)) (wOp oMod (wOp oSub (wV 5) (wC (.int 1))) (wC (.int 2)))) (wB bInt (aCons (wOp oGe (wV 6) (wV 1)) aNil))) aNil))))))) (sRet (wV 3)))) := ⟨_, rfl⟩
noncomputable def F_law_marks : WF := Classical.choose O_law_marks
theorem F_law_marks_eq : F_law_marks = fnM 3 7 (sSeq (sAsg (wLst 151 aNil) (gN 3)) (sSeq (sFor (iRng1 (wV 0)) (gN 4) (sSeq (sAsg (wOp oDiv (wOp oSub (wOp (oAdd 0) (wOp oSub (wV 2) (wV 4)) (wV 0)) (wC (.int 1))) (wV 0)) (gN 5)) (sSeq (sAsg (wOp (oAdd 0) (wV 4) (wOp (oMul 0) (wV 0) (wOp oSub (wV 5) (wC (.int 1))))) (gN 6)) (sIf (tV (wOp oEq (wV 5) (wC (.int 0)))) (sEx (wBM "list" mAppend (wV 3) (aCons (wC (.int 2)) aNil))) (sEx (wBM "list" mAppend (wV 3) (aCons (wOp (oAdd 0) (wOp (oMul 0) (wC (.int 2)) (wOp oMod (wOp oSub (wV 5) (wC (.int 1))) (wC (.int 2)))) (wB bInt (aCons (wOp oGe (wV 6) (wV 1)) aNil))) aNil))))))) (sRet (wV 3)))) := Classical.choose_spec O_law_marks
theorem O_bits_of : ∃ f : WF, f = fnM 2 4 (sSeq (sAsg (wCall F_lap_of (aCons (wV 0) (aCons (wV 1) aNil))) (gN 2)) (sSeq (sAsg (wCall F_place_of (aCons (wV 0) (aCons (wV 1) aNil))) (gN 3)) (sRet (wOp (oAdd 0) (wOp (oMul 0) (wLst 153 (aCons (wV 2) aNil)) (wV 3)) (wOp (oMul 0) (wLst 154 (aCons (wOp oSub (wC (.int 1)) (wV 2)) aNil)) (wOp oSub (wV 0) (wV 3))))))) := ⟨_, rfl⟩
noncomputable def F_bits_of : WF := Classical.choose O_bits_of
theorem F_bits_of_eq : F_bits_of = fnM 2 4 (sSeq (sAsg (wCall F_lap_of (aCons (wV 0) (aCons (wV 1) aNil))) (gN 2)) (sSeq (sAsg (wCall F_place_of (aCons (wV 0) (aCons (wV 1) aNil))) (gN 3)) (sRet (wOp (oAdd 0) (wOp (oMul 0) (wLst 153 (aCons (wV 2) aNil)) (wV 3)) (wOp (oMul 0) (wLst 154 (aCons (wOp oSub (wC (.int 1)) (wV 2)) aNil)) (wOp oSub (wV 0) (wV 3))))))) := Classical.choose_spec O_bits_of
theorem O_marks_of : ∃ f : WF, f = fnM 3 6 (sSeq (sEx (wCall F_look_at_turn (aCons (wV 0) (aCons (wV 1) aNil)))) (sSeq (sEx (wCall F_look_at_turn (aCons (wV 0) (aCons (wV 2) aNil)))) (sSeq (sIf (tV (wOp oGt (wCall F_distance (aCons (wV 0) (aCons (wV 1) (aCons (wV 2) aNil)))) (wV 0))) (sRaise "Crooked") sNx) (sSeq (sAsg (wLst 152 aNil) (gN 3)) (sSeq (sFor (iZip (wCall F_bits_of (aCons (wV 0) (aCons (wV 2) aNil))) (wCall F_bits_of (aCons (wV 0) (aCons (wV 1) aNil)))) (gTup 2 (gCons (gN 4) (gCons (gN 5) gNil))) (sEx (wBM "list" mAppend (wV 3) (aCons (wOp (oAdd 0) (wOp (oMul 0) (wC (.int 2)) (wV 4)) (wOp oMod (wOp (oAdd 0) (wV 4) (wV 5)) (wC (.int 2)))) aNil)))) (sRet (wV 3))))))) := ⟨_, rfl⟩
noncomputable def F_marks_of : WF := Classical.choose O_marks_of
theorem F_marks_of_eq : F_marks_of = fnM 3 6 (sSeq (sEx (wCall F_look_at_turn (aCons (wV 0) (aCons (wV 1) aNil)))) (sSeq (sEx (wCall F_look_at_turn (aCons (wV 0) (aCons (wV 2) aNil)))) (sSeq (sIf (tV (wOp oGt (wCall F_distance (aCons (wV 0) (aCons (wV 1) (aCons (wV 2) aNil)))) (wV 0))) (sRaise "Crooked") sNx) (sSeq (sAsg (wLst 152 aNil) (gN 3)) (sSeq (sFor (iZip (wCall F_bits_of (aCons (wV 0) (aCons (wV 2) aNil))) (wCall F_bits_of (aCons (wV 0) (aCons (wV 1) aNil)))) (gTup 2 (gCons (gN 4) (gCons (gN 5) gNil))) (sEx (wBM "list" mAppend (wV 3) (aCons (wOp (oAdd 0) (wOp (oMul 0) (wC (.int 2)) (wV 4)) (wOp oMod (wOp (oAdd 0) (wV 4) (wV 5)) (wC (.int 2)))) aNil)))) (sRet (wV 3))))))) := Classical.choose_spec O_marks_of
theorem O_look_at_marks : ∃ f : WF, f = fnM 1 2 (sSeq (sEx (wCall F_look_at_size (aCons (wB bLen (aCons (wV 0) aNil)) aNil))) (sFor (iSeq (wV 0)) (gN 1) (sEx (wCall F_look_at_mark (aCons (wV 1) aNil))))) := ⟨_, rfl⟩
noncomputable def F_look_at_marks : WF := Classical.choose O_look_at_marks
theorem F_look_at_marks_eq : F_look_at_marks = fnM 1 2 (sSeq (sEx (wCall F_look_at_size (aCons (wB bLen (aCons (wV 0) aNil)) aNil))) (sFor (iSeq (wV 0)) (gN 1) (sEx (wCall F_look_at_mark (aCons (wV 1) aNil))))) := Classical.choose_spec O_look_at_marks
theorem O_lap_bits : ∃ f : WF, f = fnM 1 2 (sRet (wComp 156 (iSeq (wV 0)) 1 tYes (wOp oDiv (wV 1) (wC (.int 2))))) := ⟨_, rfl⟩
noncomputable def F_lap_bits : WF := Classical.choose O_lap_bits
theorem F_lap_bits_eq : F_lap_bits = fnM 1 2 (sRet (wComp 156 (iSeq (wV 0)) 1 tYes (wOp oDiv (wV 1) (wC (.int 2))))) := Classical.choose_spec O_lap_bits
theorem O_giver_turn : ∃ f : WF, f = fnM 1 1 (sSeq (sEx (wCall F_look_at_marks (aCons (wV 0) aNil))) (sRet (wCall F_front (aCons (wCall F_lap_bits (aCons (wV 0) aNil)) aNil)))) := ⟨_, rfl⟩
noncomputable def F_giver_turn : WF := Classical.choose O_giver_turn
theorem F_giver_turn_eq : F_giver_turn = fnM 1 1 (sSeq (sEx (wCall F_look_at_marks (aCons (wV 0) aNil))) (sRet (wCall F_front (aCons (wCall F_lap_bits (aCons (wV 0) aNil)) aNil)))) := Classical.choose_spec O_giver_turn
theorem O_odd_bits : ∃ f : WF, f = fnM 1 2 (sRet (wComp 157 (iSeq (wV 0)) 1 tYes (wOp oMod (wOp (oAdd 0) (wOp oDiv (wV 1) (wC (.int 2))) (wV 1)) (wC (.int 2))))) := ⟨_, rfl⟩
noncomputable def F_odd_bits : WF := Classical.choose O_odd_bits
theorem F_odd_bits_eq : F_odd_bits = fnM 1 2 (sRet (wComp 157 (iSeq (wV 0)) 1 tYes (wOp oMod (wOp (oAdd 0) (wOp oDiv (wV 1) (wC (.int 2))) (wV 1)) (wC (.int 2))))) := Classical.choose_spec O_odd_bits
theorem O_taker_turn : ∃ f : WF, f = fnM 1 1 (sSeq (sEx (wCall F_look_at_marks (aCons (wV 0) aNil))) (sRet (wCall F_front (aCons (wCall F_odd_bits (aCons (wV 0) aNil)) aNil)))) := ⟨_, rfl⟩
noncomputable def F_taker_turn : WF := Classical.choose O_taker_turn
theorem F_taker_turn_eq : F_taker_turn = fnM 1 1 (sSeq (sEx (wCall F_look_at_marks (aCons (wV 0) aNil))) (sRet (wCall F_front (aCons (wCall F_odd_bits (aCons (wV 0) aNil)) aNil)))) := Classical.choose_spec O_taker_turn
theorem O_sound_marks : ∃ f : WF, f = fnM 1 3 (sSeq (sEx (wCall F_look_at_marks (aCons (wV 0) aNil))) (sSeq (sTry (sSeq (sAsg (wCall F_giver_turn (aCons (wV 0) aNil)) (gN 1)) (sAsg (wCall F_taker_turn (aCons (wV 0) aNil)) (gN 2))) ["Crooked"] none (fun c a => sRet (wC (.bl false)))) (sRet (wOp oLe (wCall F_distance (aCons (wB bLen (aCons (wV 0) aNil)) (aCons (wV 2) (aCons (wV 1) aNil)))) (wB bLen (aCons (wV 0) aNil)))))) := ⟨_, rfl⟩
noncomputable def F_sound_marks : WF := Classical.choose O_sound_marks
theorem F_sound_marks_eq : F_sound_marks = fnM 1 3 (sSeq (sEx (wCall F_look_at_marks (aCons (wV 0) aNil))) (sSeq (sTry (sSeq (sAsg (wCall F_giver_turn (aCons (wV 0) aNil)) (gN 1)) (sAsg (wCall F_taker_turn (aCons (wV 0) aNil)) (gN 2))) ["Crooked"] none (fun c a => sRet (wC (.bl false)))) (sRet (wOp oLe (wCall F_distance (aCons (wB bLen (aCons (wV 0) aNil)) (aCons (wV 2) (aCons (wV 1) aNil)))) (wB bLen (aCons (wV 0) aNil)))))) := Classical.choose_spec O_sound_marks
theorem O_law_far_apart : ∃ f : WF, f = fnM 3 5 (sSeq (sAsg (wC (.int 0)) (gN 3)) (sSeq (sTry (sEx (wCall F_marks_of (aCons (wV 0) (aCons (wV 1) (aCons (wV 2) aNil))))) ["Crooked"] (some 4) (fun c a => sAsg (wOp (oAdd 0) (wOp (oAdd 0) (wC (.int 1)) (wB bInt (aCons (wIsE 4 a true) aNil))) (wOp (oMul 0) (wC (.int 4)) (wB bInt (aCons (wIsE 4 a (["BadSize", "NoTurn"].any (isSub c))) aNil)))) (gN 3))) (sRet (wOp oEq (wV 3) (wC (.int 2)))))) := ⟨_, rfl⟩
noncomputable def F_law_far_apart : WF := Classical.choose O_law_far_apart
theorem F_law_far_apart_eq : F_law_far_apart = fnM 3 5 (sSeq (sAsg (wC (.int 0)) (gN 3)) (sSeq (sTry (sEx (wCall F_marks_of (aCons (wV 0) (aCons (wV 1) (aCons (wV 2) aNil))))) ["Crooked"] (some 4) (fun c a => sAsg (wOp (oAdd 0) (wOp (oAdd 0) (wC (.int 1)) (wB bInt (aCons (wIsE 4 a true) aNil))) (wOp (oMul 0) (wC (.int 4)) (wB bInt (aCons (wIsE 4 a (["BadSize", "NoTurn"].any (isSub c))) aNil)))) (gN 3))) (sRet (wOp oEq (wV 3) (wC (.int 2)))))) := Classical.choose_spec O_law_far_apart
theorem O_law_any : ∃ f : WF, f = fnM 2 4 (sSeq (sFor (iRng1 (wOp (oMul 0) (wC (.int 2)) (wV 0))) (gN 2) (sFor (iRng1 (wOp (oAdd 0) (wV 0) (wC (.int 1)))) (gN 3) (sIf (tV (wOp oEq (wCall F_law_marks (aCons (wV 0) (aCons (wOp (oAdd 0) (wV 2) (wOp (oMul 0) (wC (.int 2)) (wV 0))) (aCons (wOp (oAdd 0) (wOp (oAdd 0) (wV 2) (wOp (oMul 0) (wC (.int 2)) (wV 0))) (wV 3)) aNil)))) (wV 1))) (sRet (wC (.bl true))) sNx))) (sRet (wC (.bl false)))) := ⟨_, rfl⟩
noncomputable def F_law_any : WF := Classical.choose O_law_any
theorem F_law_any_eq : F_law_any = fnM 2 4 (sSeq (sFor (iRng1 (wOp (oMul 0) (wC (.int 2)) (wV 0))) (gN 2) (sFor (iRng1 (wOp (oAdd 0) (wV 0) (wC (.int 1)))) (gN 3) (sIf (tV (wOp oEq (wCall F_law_marks (aCons (wV 0) (aCons (wOp (oAdd 0) (wV 2) (wOp (oMul 0) (wC (.int 2)) (wV 0))) (aCons (wOp (oAdd 0) (wOp (oAdd 0) (wV 2) (wOp (oMul 0) (wC (.int 2)) (wV 0))) (wV 3)) aNil)))) (wV 1))) (sRet (wC (.bl true))) sNx))) (sRet (wC (.bl false)))) := Classical.choose_spec O_law_any
theorem O_law_told : ∃ f : WF, f = fnM 2 3 (sSeq (sAsg (wC .non) (gN 2)) (sSeq (sTry (sIf (tV (wOp oEq (wV 0) (wC (.int 0)))) (sAsg (wCall F_giver_turn (aCons (wV 1) aNil)) (gN 2)) (sAsg (wCall F_taker_turn (aCons (wV 1) aNil)) (gN 2))) ["Crooked"] none (fun c a => sAsg (wC (.str "crooked")) (gN 2))) (sRet (wV 2)))) := ⟨_, rfl⟩
noncomputable def F_law_told : WF := Classical.choose O_law_told
theorem F_law_told_eq : F_law_told = fnM 2 3 (sSeq (sAsg (wC .non) (gN 2)) (sSeq (sTry (sIf (tV (wOp oEq (wV 0) (wC (.int 0)))) (sAsg (wCall F_giver_turn (aCons (wV 1) aNil)) (gN 2)) (sAsg (wCall F_taker_turn (aCons (wV 1) aNil)) (gN 2))) ["Crooked"] none (fun c a => sAsg (wC (.str "crooked")) (gN 2))) (sRet (wV 2)))) := Classical.choose_spec O_law_told
theorem O_law_row_right : ∃ f : WF, f = fnM 1 8 (sSeq (sAsg (wB (bList 161) (aCons (wV 0) aNil)) (gN 1)) (sSeq (sAsg (wCall F_sound_marks (aCons (wV 1) aNil)) (gN 2)) (sSeq (sIf (tOr (tNot (tTru (bIsi ["bool"] (wV 2)))) (tOr (tV (wOp oNe (wV 2) (wCall F_law_any (aCons (wB bLen (aCons (wV 0) aNil)) (aCons (wV 0) aNil))))) (tV (wOp oNe (wV 1) (wV 0))))) (sRet (wC (.bl false))) sNx) (sSeq (sAsg (wLst 164 (aCons (wComp 163 (iSeq (wV 0)) 7 tYes (wOp oDiv (wV 7) (wC (.int 2)))) (aCons (wComp 162 (iSeq (wV 0)) 7 tYes (wOp oMod (wOp (oAdd 0) (wOp oDiv (wV 7) (wC (.int 2))) (wV 7)) (wC (.int 2)))) aNil))) (gN 3)) (sSeq (sFor (iRng1 (wC (.int 2))) (gN 4) (sSeq (sAsg (wCall F_law_front (aCons (wOp oIx (wV 3) (wV 4)) aNil)) (gN 5)) (sSeq (sAsg (wCall F_law_told (aCons (wV 4) (aCons (wV 1) aNil))) (gN 6)) (sIf (tOr (tAnd (tV (wOp oIsN (wV 5) (wC .non))) (tV (wOp oNe (wV 6) (wC (.str "crooked"))))) (tAnd (tV (wOp oNotN (wV 5) (wC .non))) (tV (wOp oNe (wV 6) (wV 5))))) (sRet (wC (.bl false))) sNx)))) (sRet (wOp oEq (wV 1) (wV 0)))))))) := ⟨_, rfl⟩
noncomputable def F_law_row_right : WF := Classical.choose O_law_row_right
theorem F_law_row_right_eq : F_law_row_right = fnM 1 8 (sSeq (sAsg (wB (bList 161) (aCons (wV 0) aNil)) (gN 1)) (sSeq (sAsg (wCall F_sound_marks (aCons (wV 1) aNil)) (gN 2)) (sSeq (sIf (tOr (tNot (tTru (bIsi ["bool"] (wV 2)))) (tOr (tV (wOp oNe (wV 2) (wCall F_law_any (aCons (wB bLen (aCons (wV 0) aNil)) (aCons (wV 0) aNil))))) (tV (wOp oNe (wV 1) (wV 0))))) (sRet (wC (.bl false))) sNx) (sSeq (sAsg (wLst 164 (aCons (wComp 163 (iSeq (wV 0)) 7 tYes (wOp oDiv (wV 7) (wC (.int 2)))) (aCons (wComp 162 (iSeq (wV 0)) 7 tYes (wOp oMod (wOp (oAdd 0) (wOp oDiv (wV 7) (wC (.int 2))) (wV 7)) (wC (.int 2)))) aNil))) (gN 3)) (sSeq (sFor (iRng1 (wC (.int 2))) (gN 4) (sSeq (sAsg (wCall F_law_front (aCons (wOp oIx (wV 3) (wV 4)) aNil)) (gN 5)) (sSeq (sAsg (wCall F_law_told (aCons (wV 4) (aCons (wV 1) aNil))) (gN 6)) (sIf (tOr (tAnd (tV (wOp oIsN (wV 5) (wC .non))) (tV (wOp oNe (wV 6) (wC (.str "crooked"))))) (tAnd (tV (wOp oNotN (wV 5) (wC .non))) (tV (wOp oNe (wV 6) (wV 5))))) (sRet (wC (.bl false))) sNx)))) (sRet (wOp oEq (wV 1) (wV 0)))))))) := Classical.choose_spec O_law_row_right
theorem O_law_v3 : ∃ f : WF, f = fnM 1 14 (sSeq (sFor (iRng1 (wB bMax (aCons (wC (.int 1)) (aCons (wB bMin (aCons (wC (.int 30)) (aCons (wB bLen (aCons (wV 0) aNil)) aNil))) aNil)))) (gN 1) (sSeq (sAsg (wCall F_law_well (aCons (wV 0) (aCons (wV 1) aNil))) (gN 2)) (sSeq (sAsg (wOp (oAdd 0) (wC (.int 2)) (wCall F_law_take (aCons (wV 2) (aCons (wC (.int 7)) aNil)))) (gN 3)) (sSeq (sAsg (wOp oIx (wLst 150 (aCons (wCall F_law_take (aCons (wV 2) (aCons (wC (.int 40)) aNil))) (aCons (wCall F_law_take (aCons (wV 2) (aCons (wOp oPow (wC (.int 10)) (wC (.int 58))) aNil))) aNil))) (wCall F_law_take (aCons (wV 2) (aCons (wC (.int 2)) aNil)))) (gN 4)) (sSeq (sAsg (wOp (oAdd 0) (wV 4) (wCall F_law_take (aCons (wV 2) (aCons (wOp (oAdd 0) (wV 3) (wC (.int 1))) aNil)))) (gN 5)) (sSeq (sAsg (wCall F_law_marks (aCons (wV 3) (aCons (wV 4) (aCons (wV 5) aNil)))) (gN 6)) (sSeq (sAsg (wOp oMod (wV 4) (wOp (oMul 0) (wC (.int 2)) (wV 3))) (gN 7)) (sSeq (sAsg (wOp oMod (wV 5) (wOp (oMul 0) (wC (.int 2)) (wV 3))) (gN 8)) (sSeq (sAsg (wCall F_marks_of (aCons (wV 3) (aCons (wV 7) (aCons (wV 8) aNil)))) (gN 9)) (sSeq (sIf (tOr (tNot (tTru (bIsi ["list"] (wV 9)))) (tOr (tV (wOp oNe (wV 9) (wV 6))) (tNot (tTru (wB bAll (aCons (wComp 155 (iSeq (wV 9)) 13 tYes (wCall F_law_whole (aCons (wV 13) aNil))) aNil)))))) (sRet (wC (.bl false))) sNx) (sSeq (sIf (tOr (tV (wOp oNe (wCall F_giver_turn (aCons (wV 9) aNil)) (wV 8))) (tOr (tV (wOp oNe (wCall F_taker_turn (aCons (wV 9) aNil)) (wV 7))) (tV (wOp oNotB (wCall F_sound_marks (aCons (wV 9) aNil)) (wC (.bl true)))))) (sRet (wC (.bl false))) sNx) (sSeq (sIf (tV (wOp oNe (wB bLen (aCons (wComp 158 (iSeq (wV 9)) 13 (tV (wOp oEq (wOp oMod (wV 13) (wC (.int 2))) (wC (.int 1)))) (wV 13)) aNil)) (wOp oSub (wV 5) (wV 4)))) (sRet (wC (.bl false))) sNx) (sSeq (sEx (wBM "list" mClear (wV 9) aNil)) (sSeq (sIf (tV (wOp oNe (wCall F_marks_of (aCons (wV 3) (aCons (wV 7) (aCons (wV 8) aNil)))) (wV 6))) (sRet (wC (.bl false))) sNx) (sSeq (sIf (tNot (tTru (wCall F_law_far_apart (aCons (wV 3) (aCons (wV 7) (aCons (wOp oMod (wOp (oAdd 0) (wOp (oAdd 0) (wOp (oAdd 0) (wV 7) (wV 3)) (wC (.int 1))) (wCall F_law_take (aCons (wV 2) (aCons (wOp oSub (wV 3) (wC (.int 1))) aNil)))) (wOp (oMul 0) (wC (.int 2)) (wV 3))) aNil)))))) (sRet (wC (.bl false))) sNx) (sSeq (sAsg (wComp 159 (iRng1 (wV 3)) 12 tYes (wCall F_law_take (aCons (wV 2) (aCons (wC (.int 4)) aNil)))) (gN 10)) (sSeq (sAsg (wB (bList 160) (aCons (wV 6) aNil)) (gN 11)) (sSeq (sAsg (wCall F_law_take (aCons (wV 2) (aCons (wC (.int 4)) aNil))) (gIx (wV 11) (wCall F_law_take (aCons (wV 2) (aCons (wV 3) aNil))))) (sIf (tOr (tNot (tTru (wCall F_law_row_right (aCons (wV 10) aNil)))) (tOr (tNot (tTru (wCall F_law_row_right (aCons (wV 11) aNil)))) (tNot (tTru (wCall F_law_row_right (aCons (wV 6) aNil)))))) (sRet (wC (.bl false))) sNx))))))))))))))))))) (sRet (wC (.bl true)))) := ⟨_, rfl⟩
noncomputable def F_law_v3 : WF := Classical.choose O_law_v3
theorem F_law_v3_eq : F_law_v3 = fnM 1 14 (sSeq (sFor (iRng1 (wB bMax (aCons (wC (.int 1)) (aCons (wB bMin (aCons (wC (.int 30)) (aCons (wB bLen (aCons (wV 0) aNil)) aNil))) aNil)))) (gN 1) (sSeq (sAsg (wCall F_law_well (aCons (wV 0) (aCons (wV 1) aNil))) (gN 2)) (sSeq (sAsg (wOp (oAdd 0) (wC (.int 2)) (wCall F_law_take (aCons (wV 2) (aCons (wC (.int 7)) aNil)))) (gN 3)) (sSeq (sAsg (wOp oIx (wLst 150 (aCons (wCall F_law_take (aCons (wV 2) (aCons (wC (.int 40)) aNil))) (aCons (wCall F_law_take (aCons (wV 2) (aCons (wOp oPow (wC (.int 10)) (wC (.int 58))) aNil))) aNil))) (wCall F_law_take (aCons (wV 2) (aCons (wC (.int 2)) aNil)))) (gN 4)) (sSeq (sAsg (wOp (oAdd 0) (wV 4) (wCall F_law_take (aCons (wV 2) (aCons (wOp (oAdd 0) (wV 3) (wC (.int 1))) aNil)))) (gN 5)) (sSeq (sAsg (wCall F_law_marks (aCons (wV 3) (aCons (wV 4) (aCons (wV 5) aNil)))) (gN 6)) (sSeq (sAsg (wOp oMod (wV 4) (wOp (oMul 0) (wC (.int 2)) (wV 3))) (gN 7)) (sSeq (sAsg (wOp oMod (wV 5) (wOp (oMul 0) (wC (.int 2)) (wV 3))) (gN 8)) (sSeq (sAsg (wCall F_marks_of (aCons (wV 3) (aCons (wV 7) (aCons (wV 8) aNil)))) (gN 9)) (sSeq (sIf (tOr (tNot (tTru (bIsi ["list"] (wV 9)))) (tOr (tV (wOp oNe (wV 9) (wV 6))) (tNot (tTru (wB bAll (aCons (wComp 155 (iSeq (wV 9)) 13 tYes (wCall F_law_whole (aCons (wV 13) aNil))) aNil)))))) (sRet (wC (.bl false))) sNx) (sSeq (sIf (tOr (tV (wOp oNe (wCall F_giver_turn (aCons (wV 9) aNil)) (wV 8))) (tOr (tV (wOp oNe (wCall F_taker_turn (aCons (wV 9) aNil)) (wV 7))) (tV (wOp oNotB (wCall F_sound_marks (aCons (wV 9) aNil)) (wC (.bl true)))))) (sRet (wC (.bl false))) sNx) (sSeq (sIf (tV (wOp oNe (wB bLen (aCons (wComp 158 (iSeq (wV 9)) 13 (tV (wOp oEq (wOp oMod (wV 13) (wC (.int 2))) (wC (.int 1)))) (wV 13)) aNil)) (wOp oSub (wV 5) (wV 4)))) (sRet (wC (.bl false))) sNx) (sSeq (sEx (wBM "list" mClear (wV 9) aNil)) (sSeq (sIf (tV (wOp oNe (wCall F_marks_of (aCons (wV 3) (aCons (wV 7) (aCons (wV 8) aNil)))) (wV 6))) (sRet (wC (.bl false))) sNx) (sSeq (sIf (tNot (tTru (wCall F_law_far_apart (aCons (wV 3) (aCons (wV 7) (aCons (wOp oMod (wOp (oAdd 0) (wOp (oAdd 0) (wOp (oAdd 0) (wV 7) (wV 3)) (wC (.int 1))) (wCall F_law_take (aCons (wV 2) (aCons (wOp oSub (wV 3) (wC (.int 1))) aNil)))) (wOp (oMul 0) (wC (.int 2)) (wV 3))) aNil)))))) (sRet (wC (.bl false))) sNx) (sSeq (sAsg (wComp 159 (iRng1 (wV 3)) 12 tYes (wCall F_law_take (aCons (wV 2) (aCons (wC (.int 4)) aNil)))) (gN 10)) (sSeq (sAsg (wB (bList 160) (aCons (wV 6) aNil)) (gN 11)) (sSeq (sAsg (wCall F_law_take (aCons (wV 2) (aCons (wC (.int 4)) aNil))) (gIx (wV 11) (wCall F_law_take (aCons (wV 2) (aCons (wV 3) aNil))))) (sIf (tOr (tNot (tTru (wCall F_law_row_right (aCons (wV 10) aNil)))) (tOr (tNot (tTru (wCall F_law_row_right (aCons (wV 11) aNil)))) (tNot (tTru (wCall F_law_row_right (aCons (wV 6) aNil)))))) (sRet (wC (.bl false))) sNx))))))))))))))))))) (sRet (wC (.bl true)))) := Classical.choose_spec O_law_v3
theorem O_law_lets : ∃ f : WF, f = fnM 4 10 (sSeq (sAsg (wLst 166 aNil) (gN 4)) (sSeq (sAsg (wLst 167 aNil) (gN 5)) (sSeq (sFor (iRng1 (wV 0)) (gN 6) (sSeq (sAsg (wOp oMod (wOp (oAdd 0) (wV 3) (wV 6)) (wOp (oMul 0) (wC (.int 2)) (wV 0))) (gN 9)) (sSeq (sEx (wBM "list" mAppend (wV 4) (aCons (wCall F_may_give (aCons (wV 0) (aCons (wV 9) (aCons (wOp oIx (wV 1) (wOp oMod (wV 9) (wV 0))) aNil)))) aNil))) (sSeq (sAsg (wOp oMod (wOp (oAdd 0) (wV 2) (wV 6)) (wOp (oMul 0) (wC (.int 2)) (wV 0))) (gN 9)) (sEx (wBM "list" mAppend (wV 5) (aCons (wCall F_may_take (aCons (wV 0) (aCons (wV 9) (aCons (wOp oIx (wV 1) (wOp oMod (wV 9) (wV 0))) aNil)))) aNil))))))) (sSeq (sAsg (wOp oSub (wV 0) (wOp oSub (wV 3) (wV 2))) (gN 7)) (sSeq (sAsg (wOp oSub (wV 3) (wV 2)) (gN 8)) (sRet (wAndV (wOp oEq (wV 4) (wComp 168 (iRng1 (wV 0)) 6 tYes (wOp oLt (wV 6) (wV 7)))) (wOp oEq (wV 5) (wComp 169 (iRng1 (wV 0)) 6 tYes (wOp oLt (wV 6) (wV 8))))))))))) := ⟨_, rfl⟩
noncomputable def F_law_lets : WF := Classical.choose O_law_lets
theorem F_law_lets_eq : F_law_lets = fnM 4 10 (sSeq (sAsg (wLst 166 aNil) (gN 4)) (sSeq (sAsg (wLst 167 aNil) (gN 5)) (sSeq (sFor (iRng1 (wV 0)) (gN 6) (sSeq (sAsg (wOp oMod (wOp (oAdd 0) (wV 3) (wV 6)) (wOp (oMul 0) (wC (.int 2)) (wV 0))) (gN 9)) (sSeq (sEx (wBM "list" mAppend (wV 4) (aCons (wCall F_may_give (aCons (wV 0) (aCons (wV 9) (aCons (wOp oIx (wV 1) (wOp oMod (wV 9) (wV 0))) aNil)))) aNil))) (sSeq (sAsg (wOp oMod (wOp (oAdd 0) (wV 2) (wV 6)) (wOp (oMul 0) (wC (.int 2)) (wV 0))) (gN 9)) (sEx (wBM "list" mAppend (wV 5) (aCons (wCall F_may_take (aCons (wV 0) (aCons (wV 9) (aCons (wOp oIx (wV 1) (wOp oMod (wV 9) (wV 0))) aNil)))) aNil))))))) (sSeq (sAsg (wOp oSub (wV 0) (wOp oSub (wV 3) (wV 2))) (gN 7)) (sSeq (sAsg (wOp oSub (wV 3) (wV 2)) (gN 8)) (sRet (wAndV (wOp oEq (wV 4) (wComp 168 (iRng1 (wV 0)) 6 tYes (wOp oLt (wV 6) (wV 7)))) (wOp oEq (wV 5) (wComp 169 (iRng1 (wV 0)) 6 tYes (wOp oLt (wV 6) (wV 8))))))))))) := Classical.choose_spec O_law_lets
theorem O_law_v4 : ∃ f : WF, f = fnM 1 10 (sSeq (sAsg (wCall F_law_well (aCons (wV 0) (aCons (wC (.int 0)) aNil))) (gN 1)) (sSeq (sAsg (wOp (oAdd 0) (wC (.int 2)) (wCall F_law_take (aCons (wV 1) (aCons (wC (.int 7)) aNil)))) (gN 2)) (sSeq (sAsg (wOp oIx (wLst 165 (aCons (wCall F_law_take (aCons (wV 1) (aCons (wC (.int 40)) aNil))) (aCons (wCall F_law_take (aCons (wV 1) (aCons (wOp oPow (wC (.int 10)) (wC (.int 58))) aNil))) aNil))) (wCall F_law_take (aCons (wV 1) (aCons (wC (.int 2)) aNil)))) (gN 3)) (sSeq (sAsg (wOp (oAdd 0) (wV 3) (wCall F_law_take (aCons (wV 1) (aCons (wOp (oAdd 0) (wV 2) (wC (.int 1))) aNil)))) (gN 4)) (sSeq (sAsg (wCall F_marks_of (aCons (wV 2) (aCons (wOp oMod (wV 3) (wOp (oMul 0) (wC (.int 2)) (wV 2))) (aCons (wOp oMod (wV 4) (wOp (oMul 0) (wC (.int 2)) (wV 2))) aNil)))) (gN 5)) (sSeq (sFor (iRng1 (wB bMax (aCons (wC (.int 1)) (aCons (wB bMin (aCons (wC (.int 40)) (aCons (wB bLen (aCons (wV 0) aNil)) aNil))) aNil)))) (gN 6) (sSeq (sAsg (wCall F_law_well (aCons (wV 0) (aCons (wV 6) aNil))) (gN 7)) (sSeq (sIf (tNot (tTru (wCall F_law_lets (aCons (wV 2) (aCons (wV 5) (aCons (wV 3) (aCons (wV 4) aNil))))))) (sRet (wC (.bl false))) sNx) (sSeq (sAsg (wOp oEq (wCall F_law_take (aCons (wV 7) (aCons (wC (.int 2)) aNil))) (wC (.int 0))) (gN 8)) (sSeq (sIf (tV (wOp oEq (wOp oSub (wV 4) (wV 3)) (wV 2))) (sAsg (wC (.bl false)) (gN 8)) sNx) (sSeq (sIf (tV (wOp oEq (wV 4) (wV 3))) (sAsg (wC (.bl true)) (gN 8)) sNx) (sSeq (sIf (tTru (wV 8)) (sSeq (sAsg (wOp oMod (wV 4) (wOp (oMul 0) (wC (.int 2)) (wV 2))) (gN 9)) (sSeq (sAsg (wCall F_full_mark (aCons (wV 2) (aCons (wV 9) aNil))) (gIx (wV 5) (wOp oMod (wV 9) (wV 2)))) (sAsg (wOp (oAdd 0) (wV 4) (wC (.int 1))) (gN 4)))) (sSeq (sAsg (wOp oMod (wV 3) (wOp (oMul 0) (wC (.int 2)) (wV 2))) (gN 9)) (sSeq (sAsg (wCall F_free_mark (aCons (wV 2) (aCons (wV 9) aNil))) (gIx (wV 5) (wOp oMod (wV 9) (wV 2)))) (sAsg (wOp (oAdd 0) (wV 3) (wC (.int 1))) (gN 3))))) (sSeq (sIf (tOr (tV (wOp oNotB (wCall F_sound_marks (aCons (wV 5) aNil)) (wC (.bl true)))) (tV (wOp oNe (wCall F_giver_turn (aCons (wV 5) aNil)) (wOp oMod (wV 4) (wOp (oMul 0) (wC (.int 2)) (wV 2)))))) (sRet (wC (.bl false))) sNx) (sSeq (sIf (tV (wOp oNe (wCall F_taker_turn (aCons (wV 5) aNil)) (wOp oMod (wV 3) (wOp (oMul 0) (wC (.int 2)) (wV 2))))) (sRet (wC (.bl false))) sNx) (sIf (tV (wOp oNe (wCall F_marks_of (aCons (wV 2) (aCons (wOp oMod (wV 3) (wOp (oMul 0) (wC (.int 2)) (wV 2))) (aCons (wOp oMod (wV 4) (wOp (oMul 0) (wC (.int 2)) (wV 2))) aNil)))) (wV 5))) (sRet (wC (.bl false))) sNx)))))))))) (sRet (wC (.bl true))))))))) := ⟨_, rfl⟩
noncomputable def F_law_v4 : WF := Classical.choose O_law_v4
theorem F_law_v4_eq : F_law_v4 = fnM 1 10 (sSeq (sAsg (wCall F_law_well (aCons (wV 0) (aCons (wC (.int 0)) aNil))) (gN 1)) (sSeq (sAsg (wOp (oAdd 0) (wC (.int 2)) (wCall F_law_take (aCons (wV 1) (aCons (wC (.int 7)) aNil)))) (gN 2)) (sSeq (sAsg (wOp oIx (wLst 165 (aCons (wCall F_law_take (aCons (wV 1) (aCons (wC (.int 40)) aNil))) (aCons (wCall F_law_take (aCons (wV 1) (aCons (wOp oPow (wC (.int 10)) (wC (.int 58))) aNil))) aNil))) (wCall F_law_take (aCons (wV 1) (aCons (wC (.int 2)) aNil)))) (gN 3)) (sSeq (sAsg (wOp (oAdd 0) (wV 3) (wCall F_law_take (aCons (wV 1) (aCons (wOp (oAdd 0) (wV 2) (wC (.int 1))) aNil)))) (gN 4)) (sSeq (sAsg (wCall F_marks_of (aCons (wV 2) (aCons (wOp oMod (wV 3) (wOp (oMul 0) (wC (.int 2)) (wV 2))) (aCons (wOp oMod (wV 4) (wOp (oMul 0) (wC (.int 2)) (wV 2))) aNil)))) (gN 5)) (sSeq (sFor (iRng1 (wB bMax (aCons (wC (.int 1)) (aCons (wB bMin (aCons (wC (.int 40)) (aCons (wB bLen (aCons (wV 0) aNil)) aNil))) aNil)))) (gN 6) (sSeq (sAsg (wCall F_law_well (aCons (wV 0) (aCons (wV 6) aNil))) (gN 7)) (sSeq (sIf (tNot (tTru (wCall F_law_lets (aCons (wV 2) (aCons (wV 5) (aCons (wV 3) (aCons (wV 4) aNil))))))) (sRet (wC (.bl false))) sNx) (sSeq (sAsg (wOp oEq (wCall F_law_take (aCons (wV 7) (aCons (wC (.int 2)) aNil))) (wC (.int 0))) (gN 8)) (sSeq (sIf (tV (wOp oEq (wOp oSub (wV 4) (wV 3)) (wV 2))) (sAsg (wC (.bl false)) (gN 8)) sNx) (sSeq (sIf (tV (wOp oEq (wV 4) (wV 3))) (sAsg (wC (.bl true)) (gN 8)) sNx) (sSeq (sIf (tTru (wV 8)) (sSeq (sAsg (wOp oMod (wV 4) (wOp (oMul 0) (wC (.int 2)) (wV 2))) (gN 9)) (sSeq (sAsg (wCall F_full_mark (aCons (wV 2) (aCons (wV 9) aNil))) (gIx (wV 5) (wOp oMod (wV 9) (wV 2)))) (sAsg (wOp (oAdd 0) (wV 4) (wC (.int 1))) (gN 4)))) (sSeq (sAsg (wOp oMod (wV 3) (wOp (oMul 0) (wC (.int 2)) (wV 2))) (gN 9)) (sSeq (sAsg (wCall F_free_mark (aCons (wV 2) (aCons (wV 9) aNil))) (gIx (wV 5) (wOp oMod (wV 9) (wV 2)))) (sAsg (wOp (oAdd 0) (wV 3) (wC (.int 1))) (gN 3))))) (sSeq (sIf (tOr (tV (wOp oNotB (wCall F_sound_marks (aCons (wV 5) aNil)) (wC (.bl true)))) (tV (wOp oNe (wCall F_giver_turn (aCons (wV 5) aNil)) (wOp oMod (wV 4) (wOp (oMul 0) (wC (.int 2)) (wV 2)))))) (sRet (wC (.bl false))) sNx) (sSeq (sIf (tV (wOp oNe (wCall F_taker_turn (aCons (wV 5) aNil)) (wOp oMod (wV 3) (wOp (oMul 0) (wC (.int 2)) (wV 2))))) (sRet (wC (.bl false))) sNx) (sIf (tV (wOp oNe (wCall F_marks_of (aCons (wV 2) (aCons (wOp oMod (wV 3) (wOp (oMul 0) (wC (.int 2)) (wV 2))) (aCons (wOp oMod (wV 4) (wOp (oMul 0) (wC (.int 2)) (wV 2))) aNil)))) (wV 5))) (sRet (wC (.bl false))) sNx)))))))))) (sRet (wC (.bl true))))))))) := Classical.choose_spec O_law_v4
theorem O_law_flags : ∃ f : String → Nat → WF, f = fun c a => fnM 1 3 (sSeq (sAsg (wLst 178 (aCons (wIsE 0 a (isSub c "BadSize")) (aCons (wIsE 0 a (isSub c "NoTurn")) (aCons (wIsE 0 a (isSub c "BadMark")) (aCons (wIsE 0 a (isSub c "Crooked")) aNil))))) (gN 1)) (sSeq (sAsg (wOp (oAdd 0) (wV 1) (wLst 179 (aCons (wIsE 0 a true) aNil))) (gN 1)) (sSeq (sAsg (wIsE 0 a (["BadStand", "NoName", "TooMany"].any (isSub c))) (gN 2)) (sRet (wOp (oAdd 0) (wV 1) (wLst 180 (aCons (wOrV (wV 2) (wIsE 0 a (["BadCells", "BadOrder", "NoCell", "NoHand", "NoRow", "NoText", "NotSound", "NoWaiting"].any (isSub c)))) aNil))))))) := ⟨_, rfl⟩
noncomputable def F_law_flags : String → Nat → WF := Classical.choose O_law_flags
theorem F_law_flags_eq : F_law_flags = fun c a => fnM 1 3 (sSeq (sAsg (wLst 178 (aCons (wIsE 0 a (isSub c "BadSize")) (aCons (wIsE 0 a (isSub c "NoTurn")) (aCons (wIsE 0 a (isSub c "BadMark")) (aCons (wIsE 0 a (isSub c "Crooked")) aNil))))) (gN 1)) (sSeq (sAsg (wOp (oAdd 0) (wV 1) (wLst 179 (aCons (wIsE 0 a true) aNil))) (gN 1)) (sSeq (sAsg (wIsE 0 a (["BadStand", "NoName", "TooMany"].any (isSub c))) (gN 2)) (sRet (wOp (oAdd 0) (wV 1) (wLst 180 (aCons (wOrV (wV 2) (wIsE 0 a (["BadCells", "BadOrder", "NoCell", "NoHand", "NoRow", "NoText", "NotSound", "NoWaiting"].any (isSub c)))) aNil))))))) := Classical.choose_spec O_law_flags
theorem O_law_asked_v1 : ∃ f : WF, f = fnM 2 4 (sSeq (sAsg (wLst 177 aNil) (gN 2)) (sSeq (sTry (sIf (tV (wOp oEq (wV 0) (wC (.int 0)))) (sEx (wCall F_giver_turn (aCons (wV 1) aNil))) (sIf (tV (wOp oEq (wV 0) (wC (.int 1)))) (sEx (wCall F_taker_turn (aCons (wV 1) aNil))) (sEx (wCall F_sound_marks (aCons (wV 1) aNil))))) ["RingError"] (some 3) (fun c a => sAsg (wCall (F_law_flags c a) (aCons (wV 3) aNil)) (gN 2))) (sRet (wV 2)))) := ⟨_, rfl⟩
noncomputable def F_law_asked_v1 : WF := Classical.choose O_law_asked_v1
theorem F_law_asked_v1_eq : F_law_asked_v1 = fnM 2 4 (sSeq (sAsg (wLst 177 aNil) (gN 2)) (sSeq (sTry (sIf (tV (wOp oEq (wV 0) (wC (.int 0)))) (sEx (wCall F_giver_turn (aCons (wV 1) aNil))) (sIf (tV (wOp oEq (wV 0) (wC (.int 1)))) (sEx (wCall F_taker_turn (aCons (wV 1) aNil))) (sEx (wCall F_sound_marks (aCons (wV 1) aNil))))) ["RingError"] (some 3) (fun c a => sAsg (wCall (F_law_flags c a) (aCons (wV 3) aNil)) (gN 2))) (sRet (wV 2)))) := Classical.choose_spec O_law_asked_v1
theorem O_law_only : ∃ f : WF, f = fnM 1 2 (sRet (wOp (oAdd 0) (wComp 181 (iRng1 (wC (.int 4))) 1 tYes (wOp oEq (wV 1) (wV 0))) (wLst 182 (aCons (wC (.bl true)) (aCons (wC (.bl false)) aNil))))) := ⟨_, rfl⟩
noncomputable def F_law_only : WF := Classical.choose O_law_only
theorem F_law_only_eq : F_law_only = fnM 1 2 (sRet (wOp (oAdd 0) (wComp 181 (iRng1 (wC (.int 4))) 1 tYes (wOp oEq (wV 1) (wV 0))) (wLst 182 (aCons (wC (.bl true)) (aCons (wC (.bl false)) aNil))))) := Classical.choose_spec O_law_only
theorem O_law_made : ∃ f : WF, f = fnM 3 5 (sSeq (sAsg (wLst 186 aNil) (gN 3)) (sSeq (sTry (sEx (wCall F_marks_of (aCons (wV 0) (aCons (wV 1) (aCons (wV 2) aNil))))) ["RingError"] (some 4) (fun c a => sAsg (wCall (F_law_flags c a) (aCons (wV 4) aNil)) (gN 3))) (sRet (wV 3)))) := ⟨_, rfl⟩
noncomputable def F_law_made : WF := Classical.choose O_law_made
theorem F_law_made_eq : F_law_made = fnM 3 5 (sSeq (sAsg (wLst 186 aNil) (gN 3)) (sSeq (sTry (sEx (wCall F_marks_of (aCons (wV 0) (aCons (wV 1) (aCons (wV 2) aNil))))) ["RingError"] (some 4) (fun c a => sAsg (wCall (F_law_flags c a) (aCons (wV 4) aNil)) (gN 3))) (sRet (wV 3)))) := Classical.choose_spec O_law_made
theorem O_law_turns_refused : ∃ f : WF, f = fnM 2 8 (sSeq (sAsg (wCall F_law_far (aCons (wV 0) aNil)) (gN 2)) (sSeq (sAsg (wOp oIx (wLst 183 (aCons (wC (.int 1)) (aCons (wC (.int 9)) (aCons (wOp oSub (wC (.int 1)) (wV 2)) (aCons (wOp (oAdd 0) (wC (.int 8)) (wV 2)) aNil))))) (wCall F_law_take (aCons (wV 0) (aCons (wC (.int 4)) aNil)))) (gN 3)) (sSeq (sAsg (wOp oIx (wLst 184 (aCons (wUn uNeg (wC (.int 1))) (aCons (wOp (oMul 0) (wC (.int 2)) (wV 1)) (aCons (wOp oSub (wC (.int 0)) (wV 2)) (aCons (wOp (oAdd 0) (wOp oSub (wOp (oMul 0) (wC (.int 2)) (wV 1)) (wC (.int 1))) (wV 2)) aNil))))) (wCall F_law_take (aCons (wV 0) (aCons (wC (.int 4)) aNil)))) (gN 4)) (sSeq (sAsg (wCall F_law_take (aCons (wV 0) (aCons (wOp (oMul 0) (wC (.int 2)) (wV 1)) aNil))) (gN 5)) (sSeq (sAsg (wOp oMod (wOp (oAdd 0) (wOp (oAdd 0) (wOp (oAdd 0) (wV 5) (wV 1)) (wC (.int 1))) (wCall F_law_take (aCons (wV 0) (aCons (wOp oSub (wV 1) (wC (.int 1))) aNil)))) (wOp (oMul 0) (wC (.int 2)) (wV 1))) (gN 6)) (sSeq (sFor (iSeq (wLst 185 (aCons (wTup (aCons (wV 3) (aCons (wV 5) (aCons (wV 6) aNil)))) (aCons (wTup (aCons (wV 3) (aCons (wV 4) (aCons (wV 6) aNil)))) (aCons (wTup (aCons (wV 3) (aCons (wV 5) (aCons (wV 4) aNil)))) aNil))))) (gN 7) (sIf (tV (wOp oNe (wCall F_law_made (aCons (wOp oIx (wV 7) (wC (.int 0))) (aCons (wOp oIx (wV 7) (wC (.int 1))) (aCons (wOp oIx (wV 7) (wC (.int 2))) aNil)))) (wCall F_law_only (aCons (wC (.int 0)) aNil)))) (sRet (wC (.bl false))) sNx)) (sSeq (sFor (iSeq (wLst 187 (aCons (wTup (aCons (wV 4) (aCons (wV 6) aNil))) (aCons (wTup (aCons (wV 5) (aCons (wV 4) aNil))) (aCons (wTup (aCons (wV 4) (aCons (wV 4) aNil))) aNil))))) (gN 7) (sIf (tV (wOp oNe (wCall F_law_made (aCons (wV 1) (aCons (wOp oIx (wV 7) (wC (.int 0))) (aCons (wOp oIx (wV 7) (wC (.int 1))) aNil)))) (wCall F_law_only (aCons (wC (.int 1)) aNil)))) (sRet (wC (.bl false))) sNx)) (sRet (wAndV (wOp oEq (wCall F_law_made (aCons (wV 1) (aCons (wV 5) (aCons (wV 6) aNil)))) (wCall F_law_only (aCons (wC (.int 3)) aNil))) (wOp oEq (wCall F_law_made (aCons (wV 1) (aCons (wV 5) (aCons (wV 5) aNil)))) (wLst 188 aNil))))))))))) := ⟨_, rfl⟩
noncomputable def F_law_turns_refused : WF := Classical.choose O_law_turns_refused
theorem F_law_turns_refused_eq : F_law_turns_refused = fnM 2 8 (sSeq (sAsg (wCall F_law_far (aCons (wV 0) aNil)) (gN 2)) (sSeq (sAsg (wOp oIx (wLst 183 (aCons (wC (.int 1)) (aCons (wC (.int 9)) (aCons (wOp oSub (wC (.int 1)) (wV 2)) (aCons (wOp (oAdd 0) (wC (.int 8)) (wV 2)) aNil))))) (wCall F_law_take (aCons (wV 0) (aCons (wC (.int 4)) aNil)))) (gN 3)) (sSeq (sAsg (wOp oIx (wLst 184 (aCons (wUn uNeg (wC (.int 1))) (aCons (wOp (oMul 0) (wC (.int 2)) (wV 1)) (aCons (wOp oSub (wC (.int 0)) (wV 2)) (aCons (wOp (oAdd 0) (wOp oSub (wOp (oMul 0) (wC (.int 2)) (wV 1)) (wC (.int 1))) (wV 2)) aNil))))) (wCall F_law_take (aCons (wV 0) (aCons (wC (.int 4)) aNil)))) (gN 4)) (sSeq (sAsg (wCall F_law_take (aCons (wV 0) (aCons (wOp (oMul 0) (wC (.int 2)) (wV 1)) aNil))) (gN 5)) (sSeq (sAsg (wOp oMod (wOp (oAdd 0) (wOp (oAdd 0) (wOp (oAdd 0) (wV 5) (wV 1)) (wC (.int 1))) (wCall F_law_take (aCons (wV 0) (aCons (wOp oSub (wV 1) (wC (.int 1))) aNil)))) (wOp (oMul 0) (wC (.int 2)) (wV 1))) (gN 6)) (sSeq (sFor (iSeq (wLst 185 (aCons (wTup (aCons (wV 3) (aCons (wV 5) (aCons (wV 6) aNil)))) (aCons (wTup (aCons (wV 3) (aCons (wV 4) (aCons (wV 6) aNil)))) (aCons (wTup (aCons (wV 3) (aCons (wV 5) (aCons (wV 4) aNil)))) aNil))))) (gN 7) (sIf (tV (wOp oNe (wCall F_law_made (aCons (wOp oIx (wV 7) (wC (.int 0))) (aCons (wOp oIx (wV 7) (wC (.int 1))) (aCons (wOp oIx (wV 7) (wC (.int 2))) aNil)))) (wCall F_law_only (aCons (wC (.int 0)) aNil)))) (sRet (wC (.bl false))) sNx)) (sSeq (sFor (iSeq (wLst 187 (aCons (wTup (aCons (wV 4) (aCons (wV 6) aNil))) (aCons (wTup (aCons (wV 5) (aCons (wV 4) aNil))) (aCons (wTup (aCons (wV 4) (aCons (wV 4) aNil))) aNil))))) (gN 7) (sIf (tV (wOp oNe (wCall F_law_made (aCons (wV 1) (aCons (wOp oIx (wV 7) (wC (.int 0))) (aCons (wOp oIx (wV 7) (wC (.int 1))) aNil)))) (wCall F_law_only (aCons (wC (.int 1)) aNil)))) (sRet (wC (.bl false))) sNx)) (sRet (wAndV (wOp oEq (wCall F_law_made (aCons (wV 1) (aCons (wV 5) (aCons (wV 6) aNil)))) (wCall F_law_only (aCons (wC (.int 3)) aNil))) (wOp oEq (wCall F_law_made (aCons (wV 1) (aCons (wV 5) (aCons (wV 5) aNil)))) (wLst 188 aNil))))))))))) := Classical.choose_spec O_law_turns_refused
theorem O_law_v5 : ∃ f : WF, f = fnM 1 11 (sSeq (sFor (iRng1 (wB bMax (aCons (wC (.int 1)) (aCons (wB bMin (aCons (wC (.int 30)) (aCons (wB bLen (aCons (wV 0) aNil)) aNil))) aNil)))) (gN 1) (sSeq (sAsg (wCall F_law_well (aCons (wV 0) (aCons (wV 1) aNil))) (gN 2)) (sSeq (sAsg (wOp (oAdd 0) (wC (.int 2)) (wCall F_law_take (aCons (wV 2) (aCons (wC (.int 7)) aNil)))) (gN 3)) (sSeq (sAsg (wCall F_law_take (aCons (wV 2) (aCons (wC (.int 40)) aNil))) (gN 4)) (sSeq (sAsg (wCall F_law_marks (aCons (wV 3) (aCons (wV 4) (aCons (wOp (oAdd 0) (wV 4) (wCall F_law_take (aCons (wV 2) (aCons (wOp (oAdd 0) (wV 3) (wC (.int 1))) aNil)))) aNil)))) (gN 5)) (sSeq (sIf (tV (wOp oEq (wCall F_law_take (aCons (wV 2) (aCons (wC (.int 2)) aNil))) (wC (.int 0)))) (sAsg (wComp 170 (iRng1 (wV 3)) 10 tYes (wCall F_law_take (aCons (wV 2) (aCons (wC (.int 4)) aNil)))) (gN 5)) sNx) (sSeq (sAsg (wOp oIx (wLst 171 (aCons (wUn uNeg (wC (.int 1))) (aCons (wC (.int 4)) (aCons (wOp oSub (wC (.int 0)) (wCall F_law_far (aCons (wV 2) aNil))) (aCons (wOp (oAdd 0) (wC (.int 3)) (wCall F_law_far (aCons (wV 2) aNil))) aNil))))) (wCall F_law_take (aCons (wV 2) (aCons (wC (.int 4)) aNil)))) (gIx (wV 5) (wCall F_law_take (aCons (wV 2) (aCons (wV 3) aNil))))) (sSeq (sAsg (wSl 173 (wOp (oMul 0) (wV 5) (wC (.int 20))) pNone (pSome (wOp oIx (wLst 172 (aCons (wC (.int 0)) (aCons (wC (.int 1)) (aCons (wC (.int 9)) (aCons (wOp (oAdd 0) (wC (.int 10)) (wCall F_law_take (aCons (wV 2) (aCons (wC (.int 20)) aNil)))) aNil))))) (wCall F_law_take (aCons (wV 2) (aCons (wC (.int 4)) aNil)))))) (gN 6)) (sSeq (sAsg (wSl 175 (wOp (oMul 0) (wLst 174 (aCons (wC (.int 2)) aNil)) (wC (.int 40))) pNone (pSome (wB bLen (aCons (wV 6) aNil)))) (gN 7)) (sSeq (sFor (iRng1 (wC (.int 3))) (gN 8) (sSeq (sAsg (wB (bList 176) (aCons (wV 5) aNil)) (gN 9)) (sSeq (sIf (tOr (tV (wOp oNe (wCall F_law_asked_v1 (aCons (wV 8) (aCons (wV 9) aNil))) (wCall F_law_only (aCons (wC (.int 2)) aNil)))) (tV (wOp oNe (wV 9) (wV 5)))) (sRet (wC (.bl false))) sNx) (sIf (tOr (tV (wOp oNe (wCall F_law_asked_v1 (aCons (wV 8) (aCons (wV 6) aNil))) (wCall F_law_only (aCons (wC (.int 0)) aNil)))) (tV (wOp oNe (wCall F_law_asked_v1 (aCons (wV 8) (aCons (wV 7) aNil))) (wCall F_law_only (aCons (wC (.int 0)) aNil))))) (sRet (wC (.bl false))) sNx)))) (sIf (tNot (tTru (wCall F_law_turns_refused (aCons (wV 2) (aCons (wV 3) aNil))))) (sRet (wC (.bl false))) sNx))))))))))) (sRet (wC (.bl true)))) := ⟨_, rfl⟩
noncomputable def F_law_v5 : WF := Classical.choose O_law_v5
theorem F_law_v5_eq : F_law_v5 = fnM 1 11 (sSeq (sFor (iRng1 (wB bMax (aCons (wC (.int 1)) (aCons (wB bMin (aCons (wC (.int 30)) (aCons (wB bLen (aCons (wV 0) aNil)) aNil))) aNil)))) (gN 1) (sSeq (sAsg (wCall F_law_well (aCons (wV 0) (aCons (wV 1) aNil))) (gN 2)) (sSeq (sAsg (wOp (oAdd 0) (wC (.int 2)) (wCall F_law_take (aCons (wV 2) (aCons (wC (.int 7)) aNil)))) (gN 3)) (sSeq (sAsg (wCall F_law_take (aCons (wV 2) (aCons (wC (.int 40)) aNil))) (gN 4)) (sSeq (sAsg (wCall F_law_marks (aCons (wV 3) (aCons (wV 4) (aCons (wOp (oAdd 0) (wV 4) (wCall F_law_take (aCons (wV 2) (aCons (wOp (oAdd 0) (wV 3) (wC (.int 1))) aNil)))) aNil)))) (gN 5)) (sSeq (sIf (tV (wOp oEq (wCall F_law_take (aCons (wV 2) (aCons (wC (.int 2)) aNil))) (wC (.int 0)))) (sAsg (wComp 170 (iRng1 (wV 3)) 10 tYes (wCall F_law_take (aCons (wV 2) (aCons (wC (.int 4)) aNil)))) (gN 5)) sNx) (sSeq (sAsg (wOp oIx (wLst 171 (aCons (wUn uNeg (wC (.int 1))) (aCons (wC (.int 4)) (aCons (wOp oSub (wC (.int 0)) (wCall F_law_far (aCons (wV 2) aNil))) (aCons (wOp (oAdd 0) (wC (.int 3)) (wCall F_law_far (aCons (wV 2) aNil))) aNil))))) (wCall F_law_take (aCons (wV 2) (aCons (wC (.int 4)) aNil)))) (gIx (wV 5) (wCall F_law_take (aCons (wV 2) (aCons (wV 3) aNil))))) (sSeq (sAsg (wSl 173 (wOp (oMul 0) (wV 5) (wC (.int 20))) pNone (pSome (wOp oIx (wLst 172 (aCons (wC (.int 0)) (aCons (wC (.int 1)) (aCons (wC (.int 9)) (aCons (wOp (oAdd 0) (wC (.int 10)) (wCall F_law_take (aCons (wV 2) (aCons (wC (.int 20)) aNil)))) aNil))))) (wCall F_law_take (aCons (wV 2) (aCons (wC (.int 4)) aNil)))))) (gN 6)) (sSeq (sAsg (wSl 175 (wOp (oMul 0) (wLst 174 (aCons (wC (.int 2)) aNil)) (wC (.int 40))) pNone (pSome (wB bLen (aCons (wV 6) aNil)))) (gN 7)) (sSeq (sFor (iRng1 (wC (.int 3))) (gN 8) (sSeq (sAsg (wB (bList 176) (aCons (wV 5) aNil)) (gN 9)) (sSeq (sIf (tOr (tV (wOp oNe (wCall F_law_asked_v1 (aCons (wV 8) (aCons (wV 9) aNil))) (wCall F_law_only (aCons (wC (.int 2)) aNil)))) (tV (wOp oNe (wV 9) (wV 5)))) (sRet (wC (.bl false))) sNx) (sIf (tOr (tV (wOp oNe (wCall F_law_asked_v1 (aCons (wV 8) (aCons (wV 6) aNil))) (wCall F_law_only (aCons (wC (.int 0)) aNil)))) (tV (wOp oNe (wCall F_law_asked_v1 (aCons (wV 8) (aCons (wV 7) aNil))) (wCall F_law_only (aCons (wC (.int 0)) aNil))))) (sRet (wC (.bl false))) sNx)))) (sIf (tNot (tTru (wCall F_law_turns_refused (aCons (wV 2) (aCons (wV 3) aNil))))) (sRet (wC (.bl false))) sNx))))))))))) (sRet (wC (.bl true)))) := Classical.choose_spec O_law_v5
end Mi
end TxDefs

section TxSBase
set_option autoImplicit false
set_option linter.all false
set_option maxRecDepth 100000
set_option maxHeartbeats 4000000
namespace Mi
theorem dmax_eq : dmax = 1000000000000000000000000000000000000000000000000000000000000 := by decide +kernel
/-- a well lies at place i of region 1 -/
def WellAt (h : MH) (i : Nat) : Prop := ∃ a b c : Int, rd h 1 i = some (.lst [.int a, .int b, .int c]) ∧ 0 ≤ b ∧ b < 1099511627776 ∧ 0 < c ∧ c < 2147483648
theorem WellAt.lt {h : MH} {i : Nat} (w : WellAt h i) : i < (h 1).length := let ⟨_, _, _, e, _⟩ := w; (List.getElem?_eq_some_iff.mp e).1
theorem take_spec {h : MH} {i : Nat} {m : Int} {Q : QV} {E : QX} (wl : WellAt h i) (h0 : 0 < m) (h1 : m ≤ dmax) (k : ∀ (g : Int) (h' : MH), 0 ≤ g → g < m → WellAt h' i → (∀ r, r ≠ 1 → h' r = h r) → Q (.int g) h') :
    F_law_take [.ref 1 i, .int m] h Q E := by
  have hi := wl.lt
  obtain ⟨a, b, c, e, b0, b1, c0, c1⟩ := wl
  simp [F_law_take_eq, e, hi, small, dmax_eq]
  have new : ∀ a' b' : Int, 0 ≤ b' → b' < 1099511627776 → WellAt (put h 1 ((h 1).set i (.lst [.int a', .int b', .int c]))) i := fun a' b' z1 z2 =>
    ⟨a', b', c, by simp [hi], z1, z2, c0, c1⟩
  have same : ∀ l r, r ≠ 1 → put h 1 l r = h r := fun l r hr => put_ne h l hr
  rw [dmax_eq] at h1
  split
  · exact ⟨h0, h1, k _ _ (Int.emod_nonneg _ (by omega)) (Int.emod_lt_of_pos _ h0) (new _ _ b0 b1) (same _)⟩
  · have q0 := Int.emod_nonneg (b * 48271) (show c ≠ 0 by omega)
    have q1 := Int.emod_lt_of_pos (b * 48271) c0
    exact ⟨c0, ⟨by omega, by omega⟩, h0, k _ _ (Int.emod_nonneg _ (by omega)) (Int.emod_lt_of_pos _ h0) (new _ _ (by omega) (by omega)) (same _)⟩
theorem le_dmax {n : Int} (h : n ≤ 1000000000000000000000000000000000000000000000000000000000000) : n ≤ dmax := by rw [dmax_eq]; exact h
theorem WellAt.of {h h' : MH} {i : Nat} (w : WellAt h i) (e : h' 1 = h 1) : WellAt h' i := by
  obtain ⟨a, b, c, z, k⟩ := w
  exact ⟨a, b, c, by rw [← z]; unfold rd; rw [e], k⟩
theorem small_two {P : Int → Prop} {g : Int} (a : 0 ≤ g) (b : g < 2) (p0 : P 0) (p1 : P 1) : P g := by
  have : g = 0 ∨ g = 1 := by omega
  rcases this with rfl | rfl <;> assumption
theorem far_spec {h : MH} {i : Nat} {Q : QV} {E : QX} (wl : WellAt h i) (k : ∀ (g : Int) (h' : MH), 1 ≤ g → g ≤ 10000000000000000000000000000000000000000000000000000000000 → WellAt h' i → (∀ r, r ≠ 1 → r ≠ 101 → h' r = h r) → Q (.int g) h') :
    F_law_far [.ref 1 i] h Q E := by
  simp [F_law_far_eq, lim]
  refine take_spec wl (by omega) (le_dmax (by omega)) fun g1 h1 a1 b1 w1 f1 => ?_
  simp [small]
  refine take_spec w1 (by omega) (le_dmax (by omega)) fun g2 h2 a2 b2 w2 f2 => ?_
  refine take_spec (w2.of (by simp)) (by omega) (le_dmax (by omega)) fun g3 h3 a3 b3 w3 f3 => ?_
  have e3 : h3 101 = _ := f3 101 (by decide)
  have fr : ∀ r, r ≠ 1 → r ≠ 101 → h3 r = h r := fun r x y => by rw [f3 r x, put_ne h2 _ y, f2 r x, f1 r x]
  have hg : g3 = 0 ∨ g3 = 1 := by omega
  rcases hg with rfl | rfl
  · simp [rd, e3]; exact k _ _ (by omega) (by omega) w3 fr
  · simp [rd, e3]; exact k _ _ (by omega) (by omega) w3 fr
theorem well_spec {xs : List MV} {h : MH} {k : Nat} {Q : QV} {E : QX} (hi : ∀ x ∈ xs, ∃ i, x = .int i) (hk : k < 64) (q : ∀ (h' : MH), WellAt h' (h 1).length → (∀ r, r ≠ 1 → r ≠ 100 → h' r = h r) → Q (.ref 1 (h 1).length) h') :
    F_law_well [.cst xs, .int k] h Q E := by
  have main : ∀ (c s : Int) (p : Int) (l : List MO), 0 ≤ s → s < 1099511627776 → p ∈ [2147483647, 2147483629, 2147483587, 2147483579, 2147483563, 2147483549, 2147483543, 2147483497] →
      Q (.ref 1 (h 1).length) (put (put h 100 l) 1 (h 1 ++ [.lst [.int c, .int s, .int p]])) := fun c s p l s0 s1 hp =>
    q _ ⟨c, s, p, by simp, s0, s1, by simp at hp; omega, by simp at hp; omega⟩ fun r a b => by rw [put_ne _ _ a, put_ne _ _ b]
  have kk : ∃ p : Int, p ∈ [(2147483647 : Int), 2147483629, 2147483587, 2147483579, 2147483563, 2147483549, 2147483543, 2147483497] ∧ atI [MV.int 2147483647, .int 2147483629, .int 2147483587, .int 2147483579, .int 2147483563, .int 2147483549, .int 2147483543, .int 2147483497] ((k : Int) % 8) = some (.int p) := by
    have : k % 8 < 8 := Nat.mod_lt _ (by decide)
    rw [show ((k : Int) % 8) = ((k % 8 : Nat) : Int) by omega, atI_nat]
    rcases (show k % 8 = 0 ∨ k % 8 = 1 ∨ k % 8 = 2 ∨ k % 8 = 3 ∨ k % 8 = 4 ∨ k % 8 = 5 ∨ k % 8 = 6 ∨ k % 8 = 7 by omega) with e | e | e | e | e | e | e | e <;> rw [e] <;> exact ⟨_, by decide, rfl⟩
  obtain ⟨p, hp, ep⟩ := kk
  by_cases c : k < xs.length
  · obtain ⟨x, hx⟩ := hi xs[k] (List.getElem_mem c)
    simp [F_law_well_eq, lim, small, c, atI_nat, hx, rd, ep]
    have z1 := Int.emod_nonneg x (show (2147483489 : Int) ≠ 0 by decide)
    have z2 := Int.emod_lt_of_pos x (show (0 : Int) < 2147483489 by decide)
    have z3 := Int.emod_nonneg ((x % 2147483489 + 1) * (48271 + 2 * k)) (show (2147483489 : Int) ≠ 0 by decide)
    have z4 := Int.emod_lt_of_pos ((x % 2147483489 + 1) * (48271 + 2 * k)) (show (0 : Int) < 2147483489 by decide)
    have hw := Int.emod_nonneg ((x % 2147483489 + 1) * (48271 + 2 * k) % 2147483489 * ((x % 2147483489 + 1) * (48271 + 2 * k) % 2147483489)) (show (2147483477 : Int) ≠ 0 by decide)
    have hv := Int.emod_lt_of_pos ((x % 2147483489 + 1) * (48271 + 2 * k) % 2147483489 * ((x % 2147483489 + 1) * (48271 + 2 * k) % 2147483489)) (show (0 : Int) < 2147483477 by decide)
    refine ⟨Or.inl ⟨by omega, by omega⟩, ⟨by omega, by omega⟩, ?_⟩
    split <;> exact main _ _ _ _ (by omega) (by omega) hp
  · simp [F_law_well_eq, lim, small, c, atI_nat, rd, ep]
    have z3 := Int.emod_nonneg (48271 + 2 * k) (show (2147483489 : Int) ≠ 0 by decide)
    have z4 := Int.emod_lt_of_pos (48271 + 2 * k) (show (0 : Int) < 2147483489 by decide)
    have hw := Int.emod_nonneg ((48271 + 2 * (k : Int)) % 2147483489 * ((48271 + 2 * k) % 2147483489)) (show (2147483477 : Int) ≠ 0 by decide)
    have hv := Int.emod_lt_of_pos ((48271 + 2 * (k : Int)) % 2147483489 * ((48271 + 2 * k) % 2147483489)) (show (0 : Int) < 2147483477 by decide)
    exact ⟨⟨by omega, by omega⟩, main _ _ _ _ (by omega) (by omega) hp⟩
theorem whole_spec {h : MH} {n : Int} {Q : QV} {E : QX} (q : Q (.bl true) h) : F_law_whole [.int n] h Q E := by
  simp [F_law_whole_eq]
  exact q
end Mi
end TxSBase

section TxSTurns
set_option autoImplicit false
set_option linter.all false
set_option maxRecDepth 100000
set_option maxHeartbeats 4000000
namespace Mi
/-! the ring -/
theorem size_ok {h : MH} {n : Int} {Q : QV} {E : QX} (a : 2 ≤ n) (b : n ≤ 8) (q : Q .non h) : F_look_at_size [.int n] h Q E := by
  simp [F_look_at_size_eq]
  rw [if_neg (by omega), if_neg (by omega)]
  exact q
theorem size_bad {h : MH} {n : Int} {Q : QV} {E : QX} (a : n < 2 ∨ 8 < n) (q : E "BadSize" h) : F_look_at_size [.int n] h Q E := by
  simp [F_look_at_size_eq]
  by_cases c : n < 2
  · rw [if_pos c]; exact q
  · rw [if_neg c, if_pos (by omega)]; exact q
theorem turn_ok {h : MH} {n t : Int} {Q : QV} {E : QX} (a : 2 ≤ n) (b : n ≤ 8) (c : 0 ≤ t) (d : t < 2 * n) (q : Q .non h) : F_look_at_turn [.int n, .int t] h Q E := by
  simp [F_look_at_turn_eq, small]
  refine size_ok a b ?_
  rw [if_neg (by omega), if_neg (by omega)]
  exact q
theorem turn_size {h : MH} {n t : Int} {Q : QV} {E : QX} (a : n < 2 ∨ 8 < n) (q : E "BadSize" h) : F_look_at_turn [.int n, .int t] h Q E := by
  simp [F_look_at_turn_eq, small]
  exact size_bad a q
theorem turn_bad {h : MH} {n t : Int} {Q : QV} {E : QX} (a : 2 ≤ n) (b : n ≤ 8) (c : t < 0 ∨ 2 * n ≤ t) (q : E "NoTurn" h) : F_look_at_turn [.int n, .int t] h Q E := by
  simp [F_look_at_turn_eq, small]
  refine size_ok a b ?_
  by_cases z : t < 0
  · rw [if_pos z]; exact q
  · rw [if_neg z, if_pos (by omega)]; exact q
theorem place_ok {h : MH} {n t : Int} {Q : QV} {E : QX} (a : 2 ≤ n) (b : n ≤ 8) (c : 0 ≤ t) (d : t < 2 * n) (q : Q (.int (t % n)) h) : F_place_of [.int n, .int t] h Q E := by
  simp [F_place_of_eq]; refine turn_ok a b c d ?_; exact ⟨by omega, q⟩
theorem lap_ok {h : MH} {n t : Int} {Q : QV} {E : QX} (a : 2 ≤ n) (b : n ≤ 8) (c : 0 ≤ t) (d : t < 2 * n) (q : Q (.int (t / n)) h) : F_lap_of [.int n, .int t] h Q E := by
  simp [F_lap_of_eq, dmax_eq]; refine turn_ok a b c d ?_; exact ⟨by omega, by omega, q⟩
theorem onward_ok {h : MH} {n t m : Int} {Q : QV} {E : QX} (a : 2 ≤ n) (b : n ≤ 8) (c : 0 ≤ t) (d : t < 2 * n) (q : Q (.int ((t + m) % (2 * n))) h) : F_onward [.int n, .int t, .int m] h Q E := by
  simp [F_onward_eq, small]; refine turn_ok a b c d ?_; exact ⟨by omega, q⟩
theorem distance_ok {h : MH} {n t u : Int} {Q : QV} {E : QX} (a : 2 ≤ n) (b : n ≤ 8) (c : 0 ≤ t) (d : t < 2 * n) (c' : 0 ≤ u) (d' : u < 2 * n) (q : Q (.int ((u - t) % (2 * n))) h) : F_distance [.int n, .int t, .int u] h Q E := by
  simp [F_distance_eq, small]; refine turn_ok a b c d ?_; refine turn_ok a b c' d' ?_; exact ⟨by omega, q⟩
/-- what look_at_turn answers -/
inductive TurnR (n t : Int) : Option String → Prop where
  | ok (a : 2 ≤ n) (b : n ≤ 8) (c : 0 ≤ t) (d : t < 2 * n) : TurnR n t none
  | size (a : n < 2 ∨ 8 < n) : TurnR n t (some "BadSize")
  | turn (a : 2 ≤ n) (b : n ≤ 8) (c : t < 0 ∨ 2 * n ≤ t) : TurnR n t (some "NoTurn")
theorem turn_r {h : MH} {n t : Int} {o : Option String} {Q : QV} {E : QX} (r : TurnR n t o) (q : o = none → Q .non h) (e : ∀ c, o = some c → E c h) : F_look_at_turn [.int n, .int t] h Q E := by
  cases r with
  | ok a b c d => exact turn_ok a b c d (q rfl)
  | size a => exact turn_size a (e _ rfl)
  | turn a b c => exact turn_bad a b c (e _ rfl)
theorem TurnR.pos {n t : Int} {o : Option String} (r : TurnR n t o) (e : o = none) : 2 ≤ n ∧ n ≤ 8 ∧ 0 ≤ t ∧ t < 2 * n := by
  cases r with
  | ok a b c d => exact ⟨a, b, c, d⟩
  | size a => exact nomatch e
  | turn a b c => exact nomatch e
theorem place_r {h : MH} {n t : Int} {o : Option String} {Q : QV} {E : QX} (r : TurnR n t o) (q : o = none → ∀ v, Q v h) (e : ∀ c, o = some c → E c h) : F_place_of [.int n, .int t] h Q E := by
  simp [F_place_of_eq]; refine turn_r r (fun z => ?_) e; have := r.pos z; exact ⟨by omega, q z _⟩
theorem lap_r {h : MH} {n t : Int} {o : Option String} {Q : QV} {E : QX} (r : TurnR n t o) (q : o = none → ∀ v, Q v h) (e : ∀ c, o = some c → E c h) : F_lap_of [.int n, .int t] h Q E := by
  simp [F_lap_of_eq, dmax_eq]; refine turn_r r (fun z => ?_) e; have := r.pos z; exact ⟨by omega, by omega, q z _⟩
theorem onward_r {h : MH} {n t m : Int} {o : Option String} {Q : QV} {E : QX} (r : TurnR n t o) (q : o = none → ∀ v, Q v h) (e : ∀ c, o = some c → E c h) : F_onward [.int n, .int t, .int m] h Q E := by
  simp [F_onward_eq, small]; refine turn_r r (fun z => ?_) e; have := r.pos z; exact ⟨by omega, q z _⟩
theorem TurnR.other {n t u : Int} {o : Option String} (r : TurnR n t o) (hu : 2 ≤ n → n ≤ 8 → 0 ≤ u ∧ u < 2 * n) : TurnR n u none ∨ ∃ c, o = some c ∧ TurnR n u (some c) := by
  cases r with
  | ok a b c d => exact Or.inl (.ok a b (hu a b).1 (hu a b).2)
  | size a => exact Or.inr ⟨_, rfl, .size a⟩
  | turn a b c => exact Or.inl (.ok a b (hu a b).1 (hu a b).2)
theorem dist_r {h : MH} {n t u : Int} {o : Option String} {Q : QV} {E : QX} (r : TurnR n t o) (hu : 2 ≤ n → n ≤ 8 → 0 ≤ u ∧ u < 2 * n) (q : o = none → ∀ v, Q v h) (e : ∀ c, o = some c → E c h) : F_distance [.int n, .int t, .int u] h Q E := by
  simp [F_distance_eq, small]; refine turn_r r (fun z => ?_) e; have := r.pos z
  have := hu this.1 this.2.1
  exact turn_ok (by omega) (by omega) this.1 this.2 ⟨by omega, q z _⟩
theorem dist_r2 {h : MH} {n t u : Int} {o : Option String} {Q : QV} {E : QX} (r : TurnR n t o) (hu : 2 ≤ n → n ≤ 8 → 0 ≤ u ∧ u < 2 * n) (q : o = none → ∀ v, Q v h) (e : ∀ c, o = some c → E c h) : F_distance [.int n, .int u, .int t] h Q E := by
  simp [F_distance_eq, small]
  rcases r.other hu with y | ⟨c, z, y⟩
  · refine turn_r y (fun _ => ?_) (fun _ h => nomatch h)
    have := y.pos rfl
    exact turn_r r (fun z => ⟨by omega, q z _⟩) e
  · subst z
    refine turn_r y (fun h => nomatch h) (fun d z => ?_)
    cases z; exact e _ rfl
theorem TurnR.cls {n t : Int} {o : Option String} (r : TurnR n t o) {c : String} (e : o = some c) : c = "BadSize" ∨ c = "NoTurn" := by
  cases r with
  | ok a b c d => exact nomatch e
  | size a => cases e; exact Or.inl rfl
  | turn a b c => cases e; exact Or.inr rfl
end Mi
end TxSTurns

section TxSMarks
set_option autoImplicit false
set_option linter.all false
set_option maxRecDepth 100000
set_option maxHeartbeats 4000000
namespace Mi
theorem lap_v {h : MH} {n t : Int} {o : Option String} {Q : QV} {E : QX} (r : TurnR n t o) (q : o = none → Q (.int (t / n)) h) (e : ∀ c, o = some c → E c h) : F_lap_of [.int n, .int t] h Q E := by
  simp [F_lap_of_eq, dmax_eq]; refine turn_r r (fun z => ?_) e; have := r.pos z; exact ⟨by omega, by omega, q z⟩
theorem lap01 {n t : Int} (a : 2 ≤ n) (c : 0 ≤ t) (d : t < 2 * n) : t / n = if n ≤ t then 1 else 0 := by
  split
  · have h1 : 1 ≤ t / n := by rw [Int.le_ediv_iff_mul_le (by omega)]; omega
    have h2 : t / n < 2 := by rw [Int.ediv_lt_iff_lt_mul (by omega)]; omega
    omega
  · exact Int.ediv_eq_zero_of_lt c (by omega)
theorem mark_ok {h : MH} {m : Int} {Q : QV} {E : QX} (a : 0 ≤ m) (b : m ≤ 3) (q : Q .non h) : F_look_at_mark [.int m] h Q E := by
  simp [F_look_at_mark_eq]
  rw [if_neg (by omega), if_neg (by omega)]
  exact q
theorem mark_bad {h : MH} {m : Int} {Q : QV} {E : QX} (a : m < 0 ∨ 3 < m) (q : E "BadMark" h) : F_look_at_mark [.int m] h Q E := by
  simp [F_look_at_mark_eq]
  by_cases c : m < 0
  · rw [if_pos c]; exact q
  · rw [if_neg c, if_pos (by omega)]; exact q
theorem full_v {h : MH} {n t : Int} {o : Option String} {Q : QV} {E : QX} (r : TurnR n t o) (q : o = none → Q (.int (2 * (t / n) + 1)) h) (e : ∀ c, o = some c → E c h) : F_full_mark [.int n, .int t] h Q E := by
  simp [F_full_mark_eq, small]
  exact lap_v r (fun z => by simpa [small] using q z) e
theorem free_v {h : MH} {n t : Int} {o : Option String} {Q : QV} {E : QX} (r : TurnR n t o) (q : o = none → Q (.int (2 * (t / n))) h) (e : ∀ c, o = some c → E c h) : F_free_mark [.int n, .int t] h Q E := by
  simp [F_free_mark_eq, small]
  exact lap_v r (fun z => by simpa [small] using q z) e
/-- with a mark, too -/
inductive MarkR (n t m : Int) : Option String → Prop where
  | ok (a : TurnR n t none) (b : 0 ≤ m) (c : m ≤ 3) : MarkR n t m none
  | turn (c : String) (a : TurnR n t (some c)) : MarkR n t m (some c)
  | mark (a : TurnR n t none) (b : m < 0 ∨ 3 < m) : MarkR n t m (some "BadMark")
theorem give_v {h : MH} {n t m : Int} {o : Option String} {Q : QV} {E : QX} (r : MarkR n t m o) (q : o = none → Q (.bl (decide (m = 2 * (1 - t / n)))) h) (e : ∀ c, o = some c → E c h) : F_may_give [.int n, .int t, .int m] h Q E := by
  simp [F_may_give_eq, small]
  cases r with
  | ok a b c => exact lap_v a (fun _ => mark_ok b c (by simpa [small] using q rfl)) fun c z => nomatch z
  | turn c a => exact lap_v a (fun z => nomatch z) fun c' z => by cases z; exact e _ rfl
  | mark a b => exact lap_v a (fun _ => mark_bad b (e _ rfl)) fun c z => nomatch z
theorem take_v {h : MH} {n t m : Int} {o : Option String} {Q : QV} {E : QX} (r : MarkR n t m o) (q : o = none → Q (.bl (decide (m = 2 * (t / n) + 1))) h) (e : ∀ c, o = some c → E c h) : F_may_take [.int n, .int t, .int m] h Q E := by
  simp [F_may_take_eq, small]
  cases r with
  | ok a b c => exact lap_v a (fun _ => mark_ok b c (by simpa [small] using q rfl)) fun c z => nomatch z
  | turn c a => exact lap_v a (fun z => nomatch z) fun c' z => by cases z; exact e _ rfl
  | mark a b => exact lap_v a (fun _ => mark_bad b (e _ rfl)) fun c z => nomatch z
end Mi
end TxSMarks

section TxSGrow
set_option autoImplicit false
set_option linter.all false
set_option maxRecDepth 100000
set_option maxHeartbeats 4000000
namespace Mi
/-- what lay there outside of region 1 stays -/
def Grow (h h' : MH) : Prop := ∀ r i o, r ≠ 1 → rd h r i = some o → rd h' r i = some o
theorem Grow.refl (h : MH) : Grow h h := fun _ _ _ _ e => e
theorem Grow.trans {a b c : MH} (x : Grow a b) (y : Grow b c) : Grow a c := fun r i o n e => y r i o n (x r i o n e)
theorem grow_new (h : MH) (r : Nat) (o : MO) : Grow h (put h r (h r ++ [o])) := fun q i p _ e => by
  by_cases c : q = r
  · subst c
    rw [rd_put]
    have : i < (h q).length := (List.getElem?_eq_some_iff.mp e).1
    rw [List.getElem?_append_left this]
    exact e
  · rw [rd_put_ne h _ c]; exact e
theorem grow_take {h h' : MH} (f : ∀ r, r ≠ 1 → h' r = h r) : Grow h h' := fun r i o n e => by unfold rd; rw [f r n]; exact e
/-- a list of whole numbers -/
def Ints (h : MH) (v : MV) (ns : List Int) : Prop := ∃ r i, r ≠ 1 ∧ v = .ref r i ∧ rd h r i = some (.lst (ns.map .int))
theorem Ints.grow {h h' : MH} {v : MV} {ns : List Int} (g : Grow h h') (x : Ints h v ns) : Ints h' v ns := by
  obtain ⟨r, i, n, e, z⟩ := x
  exact ⟨r, i, n, e, g r i _ n z⟩
theorem ints_new (h : MH) {r : Nat} (hr : r ≠ 1) (ns : List Int) : Ints (put h r (h r ++ [.lst (ns.map .int)])) (.ref r (h r).length) ns := ⟨r, _, hr, rfl, by simp⟩
/-- a comprehension without if, by a word of the items made so far -/
theorem comp_inv {r : Nat} {chk : MH → Prop} {i : Nat} {e : WE} {σ : MS} {Q : QV} (I : Nat → List MV → MH → Prop) : ∀ (xs : List MV) (k : Nat) (acc : List MV) (h : MH), I k acc h → (∀ k acc h, I k acc h → chk h ∧ acc.length < lim) →
    (∀ (j : Nat) (x : MV) (acc : List MV) (h : MH) (N : QV), xs[j]? = some x → I (k + j) acc h → (∀ v h', I (k + j + 1) (acc ++ [v]) h' → N v h') → e (σ.set i (some x)) h N fun _ _ => False) →
    (∀ acc h, I (k + xs.length) acc h → Q (.ref r (h r).length) (put h r (h r ++ [.lst acc]))) → compL r chk i tYes e σ Q xs acc h
  | [], k, acc, h, h0, hc, hs, hd => by rw [compL_nil]; exact ⟨(hc _ _ _ h0).1, hd acc h h0⟩
  | x :: xs, k, acc, h, h0, hc, hs, hd => by
    rw [compL_cons]
    refine ⟨(hc _ _ _ h0).1, ?_⟩
    simp only [tYes, if_true]
    refine hs 0 x acc h _ rfl h0 fun v h' hI => ⟨(hc _ _ _ h0).2, ?_⟩
    refine comp_inv I xs (k + 1) (acc ++ [v]) h' hI hc (fun j y acc h N e hI hN => ?_) fun acc h hI => ?_
    · have := hs (j + 1) y acc h N (by simpa using e) (by rw [show k + (j + 1) = k + 1 + j by omega]; exact hI)
      rw [show k + (j + 1) + 1 = k + 1 + j + 1 by omega] at this
      exact this hN
    · exact hd acc h (by rw [List.length_cons, show k + (xs.length + 1) = k + 1 + xs.length by omega]; exact hI)
theorem take_g {h : MH} {i : Nat} {m : Int} {Q : QV} {E : QX} (wl : WellAt h i) (h0 : 0 < m) (h1 : m ≤ dmax) (k : ∀ (g : Int) (h' : MH), 0 ≤ g → g < m → WellAt h' i → Grow h h' → Q (.int g) h') :
    F_law_take [.ref 1 i, .int m] h Q E := take_spec wl h0 h1 fun g h' a b w f => k g h' a b w (grow_take f)
theorem far_g {h : MH} {i : Nat} {Q : QV} {E : QX} (wl : WellAt h i) (k : ∀ (g : Int) (h' : MH), 1 ≤ g → g ≤ 10000000000000000000000000000000000000000000000000000000000 → WellAt h' i → Grow h h' → Q (.int g) h') :
    F_law_far [.ref 1 i] h Q E := by
  simp [F_law_far_eq, lim]
  refine take_spec wl (by omega) (le_dmax (by omega)) fun g1 h1 a1 b1 w1 f1 => ?_
  simp [small]
  refine take_spec w1 (by omega) (le_dmax (by omega)) fun g2 h2 a2 b2 w2 f2 => ?_
  refine take_spec (w2.of (by simp)) (by omega) (le_dmax (by omega)) fun g3 h3 a3 b3 w3 f3 => ?_
  have e3 : h3 101 = _ := f3 101 (by decide)
  have fr : Grow h h3 := ((((grow_take f1).trans (grow_take f2)).trans (grow_new h2 101 _)).trans (grow_take f3))
  have hg : g3 = 0 ∨ g3 = 1 := by omega
  rcases hg with rfl | rfl
  · simp [rd, e3]; exact k _ _ (by omega) (by omega) w3 fr
  · simp [rd, e3]; exact k _ _ (by omega) (by omega) w3 fr
end Mi
end TxSGrow

section TxSFront
set_option autoImplicit false
set_option linter.all false
set_option maxRecDepth 100000
set_option maxHeartbeats 4000000
namespace Mi
def badBit (b : Int) : Bool := decide (b < 0) || decide (1 < b)
/-- how many at the beginning are f -/
def runF (f : Int) : List Int → Nat
  | [] => 0
  | b :: l => if b = f then runF f l + 1 else 0
def frontF (ns : List Int) : String ⊕ Int :=
  if ns.length < 2 ∨ 8 < ns.length then .inl "BadSize"
  else if ns.any badBit = true then .inl "BadMark"
  else if runF (ns.headD 0) ns = ns.length then .inr (ns.length * (1 - ns.headD 0))
  else if ns.headD 0 ∈ ns.drop (runF (ns.headD 0) ns) then .inl "Crooked"
  else .inr (ns.length * ns.headD 0 + (runF (ns.headD 0) ns : Nat))
theorem size_r {h : MH} {n : Int} {Q : QV} {E : QX} (q : ¬ (n < 2 ∨ 8 < n) → Q .non h) (e : (n < 2 ∨ 8 < n) → E "BadSize" h) : F_look_at_size [.int n] h Q E := by
  by_cases c : n < 2 ∨ 8 < n
  · exact size_bad c (e c)
  · exact size_ok (by omega) (by omega) (q c)
theorem cut_from {α : Type} (xs : List α) (R : Nat) (h : R ≤ xs.length) : cut xs (some (R : Int)) none = xs.drop R := by
  have e : sIx xs.length 0 (some (R : Int)) = R := by
    show (if (R : Int) < 0 then ((R : Int) + xs.length).toNat else min (R : Int).toNat xs.length) = R
    rw [if_neg (by omega), Int.toNat_natCast, Nat.min_eq_left h]
  unfold cut
  rw [e]
  exact List.take_of_length_le (by rw [List.length_drop]; exact Nat.le_refl _)
theorem flat_ints : ∀ ns : List Int, (ns.map MV.int).all flat = true
  | [] => rfl
  | n :: ns => by rw [List.map_cons, List.all_cons, flat_ints ns]; rfl
theorem any_ints (b : Int) : ∀ ns : List Int, ((ns.map MV.int).any fun y => eqF y (.int b)) = decide (b ∈ ns)
  | [] => by simp
  | n :: ns => by
    rw [List.map_cons, List.any_cons, any_ints b ns]
    simp only [eqF, List.mem_cons]
    by_cases c : n = b
    · simp [c]
    · have c' : ¬ b = n := fun z => c z.symm
      simp [c, c']
theorem inB_ints {h : MH} {r i : Nat} {ns : List Int} (b : Int) (e : rd h r i = some (.lst (ns.map .int))) : inB (.int b) (.ref r i) h = some (decide (b ∈ ns)) := by
  unfold inB
  simp only [e]
  rw [flat_ints, any_ints]
  rfl
theorem runF_le (f : Int) : ∀ l : List Int, runF f l ≤ l.length
  | [] => Nat.le_refl _
  | b :: l => by
    unfold runF
    have := runF_le f l
    split <;> simp <;> omega
theorem runF_at (f : Int) : ∀ (l : List Int) (a : Nat), a < runF f l → l[a]? = some f
  | [], a, h => absurd h (Nat.not_lt_zero a)
  | b :: l, a, h => by
    unfold runF at h
    split at h
    · rename_i c
      cases a with
      | zero => rw [c]; rfl
      | succ a => exact runF_at f l a (by omega)
    · exact absurd h (Nat.not_lt_zero a)
theorem runF_stop (f : Int) : ∀ (l : List Int), runF f l < l.length → ∃ b, l[runF f l]? = some b ∧ b ≠ f
  | [], h => absurd h (Nat.not_lt_zero _)
  | b :: l, h => by
    unfold runF at h ⊢
    split
    · rename_i c
      rw [if_pos c] at h
      exact runF_stop f l (by simpa using h)
    · rename_i c
      exact ⟨b, rfl, c⟩
theorem front_spec {h : MH} {v : MV} {ns : List Int} {Q : QV} {E : QX} (hv : Ints h v ns) (q : ∀ t, frontF ns = .inr t → ∀ h', Grow h h' → h' 1 = h 1 → Q (.int t) h') (e : ∀ c, frontF ns = .inl c → ∀ h', Grow h h' → h' 1 = h 1 → E c h') :
    F_front [v] h Q E := by
  obtain ⟨r, i, hr, rfl, z⟩ := hv
  simp [-sSeq, sSeqK, small, lim, F_front_eq, z]
  refine size_r (fun hs => ?_) fun hs => e _ (by unfold frontF; rw [if_pos (by omega)]) h (Grow.refl h) rfl
  simp only [kont_eq]
  refine seq_cut (fun σ h' => h' = h ∧ ns.any badBit = false ∧ ∃ y, σ = [some (.ref r i), y, none, none]) (fun N hN => ?_) ?_
  · simp [-sSeq, sSeqK, small, lim, z]
    refine forL_inv (fun k σ h' => h' = h ∧ (∀ j, j < k → (ns[j]?).any badBit = false) ∧ ∃ y, σ = [some (.ref r i), y, none, none]) _ 0 _ _ ⟨rfl, fun j hj => absurd hj (Nat.not_lt_zero j), _, rfl⟩ (fun _ _ _ ⟨a, _⟩ => by rw [a]; exact z) ?_ ?_
    · rintro j x σ h' N1 hj ⟨rfl, hb, y, rfl⟩ hN1
      rw [List.getElem?_map] at hj
      obtain ⟨b, hb1, rfl⟩ := Option.map_eq_some_iff.mp hj
      have bad : badBit b = true → E "BadMark" h' := fun hz => e _ (by
        unfold frontF
        rw [if_neg (by omega), if_pos (List.any_eq_true.mpr ⟨b, List.mem_of_getElem? hb1, hz⟩)]) h' (Grow.refl h') rfl
      simp
      split
      · rename_i w
        exact bad (by unfold badBit; simp [w])
      split
      · rename_i w
        exact bad (by unfold badBit; simp [w])
      · rename_i w1 w2
        refine hN1 _ _ ⟨rfl, fun k hk => ?_, _, rfl⟩
        by_cases c : k = j
        · subst c
          rw [hb1]
          show badBit b = false
          unfold badBit
          simp; omega
        · exact hb k (by omega)
    · rintro σ h' ⟨rfl, hb, y, rfl⟩
      refine hN _ _ ⟨rfl, ?_, _, rfl⟩
      cases ha : ns.any badBit with
      | false => rfl
      | true =>
        obtain ⟨b, hm, hz⟩ := List.any_eq_true.mp ha
        obtain ⟨k, hk⟩ := List.getElem?_of_mem hm
        have := hb k (by have := (List.getElem?_eq_some_iff.mp hk).1; simpa using this)
        rw [hk] at this
        exact absurd (show badBit b = false from this) (by rw [hz]; decide)
  rintro σ h' ⟨rfl, hb, y, rfl⟩
  obtain ⟨b0, bs, rfl⟩ : ∃ b0 bs, ns = b0 :: bs := by
    cases ns with
    | nil => exact absurd (Or.inl (by simp)) hs
    | cons b bs => exact ⟨b, bs, rfl⟩
  simp [-sSeq, sSeqK, small, lim, z]
  simp only [kont_eq]; simp [-sSeq, sSeqK, small, lim]
  simp only [kont_eq]
  refine seq_cut (fun σ h2 => h2 = h' ∧ σ = [some (.ref r i), y, some (.int b0), some (.int (runF b0 (b0 :: bs) : Nat))]) (fun N hN => ?_) ?_
  · simp [-sSeq, sSeqK, small, lim]
    have rl := runF_le b0 (b0 :: bs)
    refine ⟨_, while_inv (fun k σ h2 => h2 = h' ∧ ∃ a : Nat, a + k = runF b0 (b0 :: bs) ∧ σ = [some (.ref r i), y, some (.int b0), some (.int a)]) ?_ (runF b0 (b0 :: bs)) _ _ ⟨rfl, 0, by omega, rfl⟩⟩
    rintro k σ h2 N2 ⟨rfl, a, ha, rfl⟩ hN2
    by_cases c : a < runF b0 (b0 :: bs)
    · have g := runF_at b0 _ a c
      simp [z, atI_nat, -List.map_cons, g]
      rw [if_pos (by simp at rl; omega)]
      refine hN2 (k - 1) _ _ (by omega) ⟨rfl, a + 1, by omega, by simp⟩
    · have ea : a = runF b0 (b0 :: bs) := by omega
      by_cases d : a < (b0 :: bs).length
      · obtain ⟨b, g1, g2⟩ := runF_stop b0 (b0 :: bs) (by omega)
        rw [← ea] at g1
        simp [z, atI_nat, -List.map_cons, g1, g2]
        refine hN _ _ ⟨rfl, by rw [ea]⟩
      · simp [z, atI_nat, -List.map_cons]
        rw [if_neg (by simp at d; omega)]
        refine hN _ _ ⟨rfl, by rw [ea]⟩
  rintro σ h2 ⟨rfl, rfl⟩
  have rl := runF_le b0 (b0 :: bs)
  have hs' : 2 ≤ (b0 :: bs).length ∧ (b0 :: bs).length ≤ 8 := by omega
  have hb0 : 0 ≤ b0 ∧ b0 ≤ 1 := by
    simp [badBit] at hb
    omega
  have F : frontF (b0 :: bs) = if runF b0 (b0 :: bs) = (b0 :: bs).length then .inr ((b0 :: bs).length * (1 - b0)) else if b0 ∈ (b0 :: bs).drop (runF b0 (b0 :: bs)) then .inl "Crooked" else .inr ((b0 :: bs).length * b0 + (runF b0 (b0 :: bs) : Nat)) := by
    unfold frontF
    rw [if_neg (by omega), if_neg (by rw [hb]; decide)]
    rfl
  generalize runF b0 (b0 :: bs) = R at *
  simp [-sSeq, sSeqK, small, lim, z]
  by_cases c : R = (b0 :: bs).length
  · rw [if_pos (by simp at c; omega)]
    refine ⟨Or.inr (by omega), q _ (by rw [F, if_pos c]; simp) h2 (Grow.refl h2) rfl⟩
  rw [if_neg (by simp at c; omega)]
  rw [if_neg c] at F
  simp only [kont_eq]; simp [-sSeq, sSeqK, small, lim, z]
  rw [← List.map_cons, cut_from _ _ (by rw [List.length_map]; exact rl), ← List.map_drop, inB_ints (ns := (b0 :: bs).drop R) b0 (by simp)]
  have g := grow_new h2 136 (.lst (((b0 :: bs).drop R).map .int))
  by_cases d : b0 ∈ (b0 :: bs).drop R
  · simp only [d, decide_true, if_true]
    exact e _ (by rw [F, if_pos d]) _ g (put_ne _ _ (by decide))
  · simp only [d, decide_false]
    have z' := g _ _ _ hr z
    rw [if_neg (by decide)]
    have g1 : put h2 136 (h2 136 ++ [.lst (((b0 :: bs).drop R).map .int)]) 1 = h2 1 := put_ne _ _ (by decide)
    generalize put h2 136 (h2 136 ++ [.lst (((b0 :: bs).drop R).map .int)]) = h3 at *
    simp only [kont_eq]; simp [-sSeq, sSeqK, small, lim, z']
    exact ⟨Or.inr (by omega), q _ (by rw [F, if_neg d]; simp) _ g (by assumption)⟩
end Mi
end TxSFront

section TxSSearch
set_option autoImplicit false
set_option linter.all false
set_option maxRecDepth 100000
set_option maxHeartbeats 4000000
namespace Mi
def rowF (n t : Nat) : List Int := List.replicate (t % n) ((t / n : Nat) : Int) ++ List.replicate (n - t % n) (1 - ((t / n : Nat) : Int))
def searchF (ns : List Int) : Option Nat := (List.range (2 * ns.length)).find? fun t => decide (ns = rowF ns.length t)
def optV : Option Nat → MV
  | some t => .int (t : Int)
  | none => .non
theorem find_first {p : Nat → Bool} {n j : Nat} (hj : j < n) (hp : p j = true) (hn : ∀ k, k < j → p k = false) : (List.range n).find? p = some j := by
  rw [List.find?_range_eq_some]
  exact ⟨hp, List.mem_range.mpr hj, fun k hk => by rw [hn k hk]; rfl⟩
theorem rep_one (x : MV) : ∀ n : Nat, rep [x] n = List.replicate n x
  | 0 => rfl
  | n + 1 => by
    unfold rep
    rw [List.replicate_succ, List.flatten_cons, List.replicate_succ, ← rep_one x n]
    rfl
theorem grow_app {h g : MH} (x : Grow h g) (r : Nat) (l : List MO) : Grow h (put g r (h r ++ l)) := fun q i p n e => by
  by_cases c : q = r
  · subst c
    rw [rd_put]
    have : i < (h q).length := (List.getElem?_eq_some_iff.mp e).1
    rw [List.getElem?_append_left this]
    exact e
  · rw [rd_put_ne g _ c]; exact x q i p n e
theorem dat_ints {h : MH} {r i : Nat} {ns : List Int} (e : rd h r i = some (.lst (ns.map .int))) : dat h deep (.ref r i) = some (.lst (ns.map .int)) := by
  rw [dat_ref, e]
  simp only [datL_ints, Option.map_some]
theorem lawfront_spec {h : MH} {v : MV} {ns : List Int} {Q : QV} {E : QX} (hv : Ints h v ns) (h1 : 1 ≤ ns.length) (h2 : ns.length ≤ 1000) (q : ∀ h', Grow h h' → h' 1 = h 1 → Q (optV (searchF ns)) h') :
    F_law_front [v] h Q E := by
  obtain ⟨r, i, hr, rfl, z⟩ := hv
  simp [-sSeq, sSeqK, small, lim, F_law_front_eq, z]
  simp only [kont_eq]; simp [-sSeq, sSeqK, small, lim]
  refine ⟨by unfold big; omega, ?_⟩
  refine forL_inv (fun k σ h' => Grow h h' ∧ h' 1 = h 1 ∧ (∀ j, j < k → ns ≠ rowF ns.length j) ∧ ∃ a b c d, σ = [some (.ref r i), some (.int ns.length), a, b, c, d]) _ 0 _ _ ⟨Grow.refl h, rfl, fun j hj => absurd hj (Nat.not_lt_zero j), _, _, _, _, rfl⟩ (fun _ _ _ _ => trivial) ?_ ?_
  · rintro j x σ h' N hj ⟨g, g1, hb, y1, y2, y3, y4, rfl⟩ hN
    obtain ⟨hj, rfl⟩ := rng_at hj
    have hj : j < 2 * ns.length := by omega
    simp [-sSeq, sSeqK, small, lim, dmax_eq]
    refine ⟨by omega, by omega, ?_⟩
    simp only [kont_eq]; simp [-sSeq, sSeqK, small, lim]
    refine ⟨by omega, ?_⟩
    have e1 : (j : Int) % (ns.length : Int) = ((j % ns.length : Nat) : Int) := (Int.natCast_emod j ns.length).symm
    have e2 : (j : Int) / (ns.length : Int) = ((j / ns.length : Nat) : Int) := (Int.natCast_ediv j ns.length).symm
    have e3 : j % ns.length < ns.length := Nat.mod_lt _ (by omega)
    have e4 : (ns.length : Int) - ((j % ns.length : Nat) : Int) = ((ns.length - j % ns.length : Nat) : Int) := by omega
    have e5 : ∀ a : Nat, (List.replicate a (MV.int ((j / ns.length : Nat) : Int)) ++ List.replicate (ns.length - j % ns.length) (MV.int (1 - ((j / ns.length : Nat) : Int)))) = (List.replicate a ((j / ns.length : Nat) : Int) ++ List.replicate (ns.length - j % ns.length) (1 - ((j / ns.length : Nat) : Int))).map MV.int := fun a => by
      rw [List.map_append, List.map_replicate, List.map_replicate]
    simp only [kont_eq]; simp [-sSeq, sSeqK, small, lim, rep_one, rd]
    simp only [e1, e2, e4, Int.toNat_natCast]
    refine ⟨by omega, by omega, by omega, by omega, by omega, ?_⟩
    rw [e5]
    generalize hf : put (put (put (put h' 133 _) 0 _) 134 _) 0 _ = h4
    have G : Grow h' h4 := by
      rw [← hf]
      exact grow_app (grow_app (grow_app (grow_app (Grow.refl h') 133 _) 0 _) 134 _) 0 _
    have G1 : h4 1 = h' 1 := by rw [← hf]; simp
    have r4 : rd h4 0 ((h' 0).length + 2) = some (.lst ((rowF ns.length j).map .int)) := by
      rw [← hf, rd_put, List.getElem?_append_right (by omega), show (h' 0).length + 2 - (h' 0).length = 2 by omega]
      rfl
    have z4 := G _ _ _ hr (g _ _ _ hr z)
    simp only [kont_eq]
    simp [-dat_ref, dat_ints z4, dat_ints r4, eqvs_ints]
    split
    · rename_i c
      have e : searchF ns = some j := find_first (by omega) (by simpa using c) fun k hk => by simpa using hb k (by omega)
      rw [e] at q
      exact q _ (g.trans G) (by rw [G1, g1])
    · rename_i c
      refine hN _ _ ⟨g.trans G, by rw [G1, g1], fun k hk => ?_, _, _, _, _, rfl⟩
      by_cases d : k = j
      · rw [d]; exact c
      · exact hb k (by omega)
  · rintro σ h' ⟨g, g1, hb, y1, y2, y3, y4, rfl⟩
    simp only [kont_eq]; simp [-sSeq, sSeqK, small, lim, kont_eq]
    have e : searchF ns = none := by
      unfold searchF
      rw [List.find?_eq_none]
      intro t ht
      have := hb t (by have := List.mem_range.mp ht; simp; omega)
      simp [this]
    rw [e] at q
    exact q _ g g1
theorem frontF_cls {ns : List Int} {c : String} (e : frontF ns = .inl c) : c = "BadSize" ∨ c = "BadMark" ∨ c = "Crooked" := by
  unfold frontF at e
  split at e
  · cases e; exact Or.inl rfl
  split at e
  · cases e; exact Or.inr (Or.inl rfl)
  split at e
  · cases e
  split at e
  · cases e; exact Or.inr (Or.inr rfl)
  · cases e
def bitsOk (ns : List Int) : Prop := 2 ≤ ns.length ∧ ns.length ≤ 8 ∧ ∀ b ∈ ns, b = 0 ∨ b = 1
/-! the plain law -/
def allBits : Nat → List (List Int)
  | 0 => [[]]
  | n + 1 => (allBits n).flatMap fun l => [0 :: l, 1 :: l]
theorem mem_allBits : ∀ ns : List Int, (∀ b ∈ ns, b = 0 ∨ b = 1) → ns ∈ allBits ns.length
  | [], _ => by simp [allBits]
  | b :: l, h => by
    have hl := mem_allBits l fun x hx => h x (List.mem_cons_of_mem _ hx)
    rw [List.length_cons, allBits, List.mem_flatMap]
    refine ⟨l, hl, ?_⟩
    rcases h b List.mem_cons_self with rfl | rfl <;> simp
def sameF (ns : List Int) : Bool := match searchF ns, frontF ns with
  | some t, .inr u => decide ((t : Int) = u)
  | none, .inl c => decide (c = "Crooked")
  | _, _ => false
theorem all_same : ([2, 3, 4, 5, 6, 7, 8].all fun n => (allBits n).all sameF) = true := by decide +kernel
theorem same_ok {ns : List Int} (o : bitsOk ns) : sameF ns = true := by
  obtain ⟨a, b, c⟩ := o
  have h := List.all_eq_true.mp all_same ns.length (by
    simp only [List.mem_cons, List.not_mem_nil, or_false]; omega)
  exact List.all_eq_true.mp h ns (mem_allBits ns c)
theorem cut_to {α : Type} (xs : List α) {q : Int} (h : 0 ≤ q) : cut xs none (some q) = xs.take q.toNat := by
  have e : sIx xs.length xs.length (some q) = min q.toNat xs.length := by
    show (if q < 0 then (q + xs.length).toNat else min q.toNat xs.length) = _
    rw [if_neg (by omega)]
  have e0 : sIx xs.length 0 none = 0 := rfl
  unfold cut
  rw [e, e0, List.drop_zero, Nat.sub_zero]
  by_cases c : q.toNat ≤ xs.length
  · rw [Nat.min_eq_left c]
  · rw [Nat.min_eq_right (by omega), List.take_length, List.take_of_length_le (by omega)]
theorem rep_map (xs : List Int) : ∀ n : Nat, rep (xs.map MV.int) n = (List.replicate n xs).flatten.map MV.int
  | 0 => rfl
  | n + 1 => by
    have := rep_map xs n
    unfold rep at this ⊢
    rw [List.replicate_succ, List.flatten_cons, this, List.replicate_succ, List.flatten_cons, List.map_append]
theorem rep_len (xs : List Int) (n : Nat) : (List.replicate n xs).flatten.length = n * xs.length := by simp
end Mi
end TxSSearch

section TxSRows
set_option autoImplicit false
set_option linter.all false
set_option maxRecDepth 100000
set_option maxHeartbeats 4000000
namespace Mi
theorem comp_map {r : Nat} {chk : MH → Prop} {i : Nat} {e : WE} {σ : MS} {Q : QV} {h : MH} {ns : List Int} {f : Int → MV} (hl : ns.length < lim) (hc : chk h)
    (he : ∀ m ∈ ns, ∀ N : QV, N (f m) h → e (σ.set i (some (.int m))) h N fun _ _ => False) (q : Q (.ref r (h r).length) (put h r (h r ++ [.lst (ns.map f)]))) : compL r chk i tYes e σ Q (ns.map .int) [] h := by
  refine comp_inv (fun k acc h' => h' = h ∧ k ≤ ns.length ∧ acc = (ns.take k).map f) _ 0 [] h ⟨rfl, Nat.zero_le _, rfl⟩ ?_ ?_ ?_
  · rintro k acc h' ⟨rfl, a, rfl⟩
    refine ⟨hc, ?_⟩
    rw [List.length_map, List.length_take]; omega
  · rintro j x acc h' N hj ⟨rfl, a, rfl⟩ hN
    rw [List.getElem?_map] at hj
    obtain ⟨m, e1, rfl⟩ := Option.map_eq_some_iff.mp hj
    have hlt : j < ns.length := (List.getElem?_eq_some_iff.mp e1).1
    refine he m (List.mem_of_getElem? e1) N (hN _ _ ⟨rfl, by omega, ?_⟩)
    rw [Nat.zero_add, List.take_succ, e1]
    simp
  · rintro acc h' ⟨rfl, a, rfl⟩
    rw [List.length_map, Nat.zero_add, List.take_length]
    exact q
theorem lap_bits_spec {h : MH} {v : MV} {ns : List Int} {Q : QV} {E : QX} (hv : Ints h v ns) (hl : ns.length < lim) (q : Q (.ref 156 (h 156).length) (put h 156 (h 156 ++ [.lst ((ns.map fun m => m / 2).map .int)]))) : F_lap_bits [v] h Q E := by
  obtain ⟨r, i, hr, rfl, z⟩ := hv
  simp [-sSeq, sSeqK, small, lim, F_lap_bits_eq, z]
  refine comp_map (f := fun m => .int (m / 2)) hl z (fun m _ N hN => ?_) (by rw [List.map_map] at q; exact q)
  simp [dmax_eq]
  exact hN
theorem odd_bits_spec {h : MH} {v : MV} {ns : List Int} {Q : QV} {E : QX} (hv : Ints h v ns) (hl : ns.length < lim) (q : Q (.ref 157 (h 157).length) (put h 157 (h 157 ++ [.lst ((ns.map fun m => (m / 2 + m) % 2).map .int)]))) : F_odd_bits [v] h Q E := by
  obtain ⟨r, i, hr, rfl, z⟩ := hv
  simp [-sSeq, sSeqK, small, lim, F_odd_bits_eq, z]
  refine comp_map (f := fun m => .int ((m / 2 + m) % 2)) hl z (fun m _ N hN => ?_) (by rw [List.map_map] at q; exact q)
  simp [dmax_eq]
  exact hN
def badMark (m : Int) : Bool := decide (m < 0) || decide (3 < m)
def marksO (ns : List Int) : Option String := if ns.length < 2 ∨ 8 < ns.length then some "BadSize" else if ns.any badMark = true then some "BadMark" else none
theorem mark_r {h : MH} {m : Int} {Q : QV} {E : QX} (q : badMark m = false → Q .non h) (e : badMark m = true → E "BadMark" h) : F_look_at_mark [.int m] h Q E := by
  cases c : badMark m with
  | true => exact mark_bad (by simpa [badMark] using c) (e c)
  | false => exact mark_ok (by simp [badMark] at c; omega) (by simp [badMark] at c; omega) (q c)
theorem marks_r {h : MH} {v : MV} {ns : List Int} {Q : QV} {E : QX} (hv : Ints h v ns) (q : marksO ns = none → Q .non h) (e : ∀ c, marksO ns = some c → E c h) : F_look_at_marks [v] h Q E := by
  obtain ⟨r, i, hr, rfl, z⟩ := hv
  simp [-sSeq, sSeqK, small, lim, F_look_at_marks_eq, z]
  refine size_r (fun hs => ?_) fun hs => e _ (by unfold marksO; rw [if_pos (by omega)])
  simp only [kont_eq]; simp [-sSeq, sSeqK, small, lim, z]
  refine forL_inv (fun k σ h' => h' = h ∧ (∀ j, j < k → (ns[j]?).any badMark = false) ∧ ∃ y, σ = [some (.ref r i), y]) _ 0 _ _ ⟨rfl, fun j hj => absurd hj (Nat.not_lt_zero j), _, rfl⟩ (fun _ _ _ ⟨a, _⟩ => by rw [a]; exact z) ?_ ?_
  · rintro j x σ h' N1 hj ⟨rfl, hb, y, rfl⟩ hN1
    rw [List.getElem?_map] at hj
    obtain ⟨b, hb1, rfl⟩ := Option.map_eq_some_iff.mp hj
    simp
    refine mark_r (fun c => ?_) fun c => e _ ?_
    · refine hN1 _ _ ⟨rfl, fun k hk => ?_, _, rfl⟩
      by_cases d : k = j
      · subst d
        rw [hb1]
        exact c
      · exact hb k (by omega)
    · unfold marksO
      rw [if_neg (by omega), if_pos (List.any_eq_true.mpr ⟨b, List.mem_of_getElem? hb1, c⟩)]
  · rintro σ h' ⟨rfl, hb, y, rfl⟩
    simp
    refine q ?_
    unfold marksO
    rw [if_neg (by omega), if_neg]
    intro ha
    obtain ⟨b, hm, hz⟩ := List.any_eq_true.mp ha
    obtain ⟨k, hk⟩ := List.getElem?_of_mem hm
    have := hb k (by have := (List.getElem?_eq_some_iff.mp hk).1; simpa using this)
    rw [hk] at this
    exact absurd (show badMark b = false from this) (by rw [hz]; decide)
def giverF (ns : List Int) : String ⊕ Int := match marksO ns with
  | some c => .inl c
  | none => frontF (ns.map fun m => m / 2)
def takerF (ns : List Int) : String ⊕ Int := match marksO ns with
  | some c => .inl c
  | none => frontF (ns.map fun m => (m / 2 + m) % 2)
theorem marksO_len {ns : List Int} (h : marksO ns = none) : 2 ≤ ns.length ∧ ns.length ≤ 8 := by
  unfold marksO at h
  split at h
  · cases h
  · omega
theorem giver_spec {h : MH} {v : MV} {ns : List Int} {Q : QV} {E : QX} (hv : Ints h v ns) (q : ∀ t, giverF ns = .inr t → ∀ h', Grow h h' → h' 1 = h 1 → Q (.int t) h') (e : ∀ c, giverF ns = .inl c → ∀ h', Grow h h' → h' 1 = h 1 → E c h') : F_giver_turn [v] h Q E := by
  simp [-sSeq, sSeqK, small, lim, F_giver_turn_eq]
  refine marks_r hv (fun o => ?_) fun c o => e c (by unfold giverF; rw [o]) h (Grow.refl h) rfl
  have G : giverF ns = frontF (ns.map fun m => m / 2) := by unfold giverF; rw [o]
  have hl := marksO_len o
  simp only [kont_eq]
  simp [-sSeq, sSeqK, small, lim]
  refine lap_bits_spec hv (by unfold lim; omega) ?_
  refine front_spec (ints_new h (by decide) _) (fun t ht h' g g1 => ?_) fun c hc h' g g1 => ?_
  · exact q t (by rw [G]; exact ht) h' ((grow_new h 156 _).trans g) (by rw [g1, put_ne _ _ (by decide)])
  · exact e c (by rw [G]; exact hc) h' ((grow_new h 156 _).trans g) (by rw [g1, put_ne _ _ (by decide)])
theorem taker_spec {h : MH} {v : MV} {ns : List Int} {Q : QV} {E : QX} (hv : Ints h v ns) (q : ∀ t, takerF ns = .inr t → ∀ h', Grow h h' → h' 1 = h 1 → Q (.int t) h') (e : ∀ c, takerF ns = .inl c → ∀ h', Grow h h' → h' 1 = h 1 → E c h') : F_taker_turn [v] h Q E := by
  simp [-sSeq, sSeqK, small, lim, F_taker_turn_eq]
  refine marks_r hv (fun o => ?_) fun c o => e c (by unfold takerF; rw [o]) h (Grow.refl h) rfl
  have G : takerF ns = frontF (ns.map fun m => (m / 2 + m) % 2) := by unfold takerF; rw [o]
  have hl := marksO_len o
  simp only [kont_eq]
  simp [-sSeq, sSeqK, small, lim]
  refine odd_bits_spec hv (by unfold lim; omega) ?_
  refine front_spec (ints_new h (by decide) _) (fun t ht h' g g1 => ?_) fun c hc h' g g1 => ?_
  · exact q t (by rw [G]; exact ht) h' ((grow_new h 157 _).trans g) (by rw [g1, put_ne _ _ (by decide)])
  · exact e c (by rw [G]; exact hc) h' ((grow_new h 157 _).trans g) (by rw [g1, put_ne _ _ (by decide)])
end Mi
end TxSRows

section TxSMof
set_option autoImplicit false
set_option linter.all false
set_option maxRecDepth 100000
set_option maxHeartbeats 4000000
namespace Mi
theorem bitsof_spec {h : MH} {n t : Nat} {Q : QV} {E : QX} (a : 2 ≤ n) (b : n ≤ 8) (c : t < 2 * n) (q : ∀ i h', rd h' 0 i = some (.lst ((rowF n t).map .int)) → Grow h h' → h' 1 = h 1 → Q (.ref 0 i) h') : F_bits_of [.int n, .int t] h Q E := by
  simp [-sSeq, sSeqK, small, lim, F_bits_of_eq]
  refine lap_ok (by omega) (by omega) (by omega) (by omega) ?_
  simp only [kont_eq]; simp [-sSeq, sSeqK, small, lim]
  refine place_ok (by omega) (by omega) (by omega) (by omega) ?_
  simp only [kont_eq]; simp [-sSeq, sSeqK, small, lim, rep_one, rd]
  have e1 : (t : Int) % (n : Int) = ((t % n : Nat) : Int) := (Int.natCast_emod t n).symm
  have e2 : (t : Int) / (n : Int) = ((t / n : Nat) : Int) := (Int.natCast_ediv t n).symm
  have e3 : t % n < n := Nat.mod_lt _ (by omega)
  have e4 : (n : Int) - ((t % n : Nat) : Int) = ((n - t % n : Nat) : Int) := by omega
  have e5 : (List.replicate (t % n) (MV.int ((t / n : Nat) : Int)) ++ List.replicate (n - t % n) (MV.int (1 - ((t / n : Nat) : Int)))) = (rowF n t).map MV.int := by
    unfold rowF; rw [List.map_append, List.map_replicate, List.map_replicate]
  simp only [e1, e2, e4, Int.toNat_natCast]
  refine ⟨by omega, by omega, by omega, by omega, by omega, ?_⟩
  rw [e5]
  refine q _ _ ?_ ?_ (by simp)
  · rw [rd_put, List.getElem?_append_right (by omega)]; simp
  · exact grow_app (grow_app (grow_app (grow_app (Grow.refl h) 153 _) 0 _) 154 _) 0 _
def marksF (n t g : Nat) : List Int := List.zipWith (fun l o => 2 * l + (l + o) % 2) (rowF n g) (rowF n t)
theorem zip_ints : ∀ a b : List Int, ((a.map MV.int).zip (b.map MV.int)).map (fun p => MV.tup [p.1, p.2]) = (a.zip b).map fun p => MV.tup [.int p.1, .int p.2]
  | [], _ => by simp
  | _ :: _, [] => by simp
  | a :: as, b :: bs => by simp [zip_ints as bs]
theorem grow_set {h h' : MH} (g : Grow h h') {r n : Nat} {o : MO} (e : rd h r n = none) : Grow h (put h' r ((h' r).set n o)) := fun q i p hq z => by
  have z' := g q i p hq z
  by_cases c : q = r
  · subst c
    rw [rd_put, List.getElem?_set_ne]
    · exact z'
    · intro x; subst x; rw [e] at z; cases z
  · rw [rd_put_ne _ _ c]; exact z'
theorem rd_end (h : MH) (r : Nat) : rd h r (h r).length = none := List.getElem?_eq_none (Nat.le_refl _)
theorem rd_lt {h : MH} {r i : Nat} {o : MO} (e : rd h r i = some o) : i < (h r).length := (List.getElem?_eq_some_iff.mp e).1
/-- a for of any target, by a word of the items that are taken -/
theorem forG_inv {chk : MH → Prop} {g : WG} {b : WS} {D : En} (I : Nat → MS → MH → Prop) : ∀ (xs : List MV) (k : Nat) (σ : MS) (h : MH), I k σ h → (∀ k σ h, I k σ h → chk h) →
    (∀ (j : Nat) (x : MV) (σ : MS) (h : MH) (N : MS → MH → Prop), xs[j]? = some x → I (k + j) σ h → (∀ σ h, I (k + j + 1) σ h → N σ h) → g x σ h (fun σ1 h1 => b { D with nx := N, ct := N, bk := D.nx } σ1 h1) fun c h1 => D.ex c σ h1) →
    (∀ σ h, I (k + xs.length) σ h → D.nx σ h) → forL chk g b xs D σ h
  | [], k, σ, h, h0, hc, hs, hd => by rw [forL_nil]; exact ⟨hc k σ h h0, hd σ h h0⟩
  | x :: xs, k, σ, h, h0, hc, hs, hd => by
    rw [forL_cons]
    refine ⟨hc k σ h h0, ?_⟩
    refine hs 0 x σ h _ rfl h0 fun σ h hI => ?_
    refine forG_inv I xs (k + 1) σ h hI hc (fun j y σ h N e hI hN => ?_) fun σ h hI => ?_
    · have := hs (j + 1) y σ h N (by simpa using e) (by rw [show k + (j + 1) = k + 1 + j by omega]; exact hI)
      rw [show k + (j + 1) + 1 = k + 1 + j + 1 by omega] at this
      exact this hN
    · exact hd σ h (by rw [List.length_cons, show k + (xs.length + 1) = k + 1 + xs.length by omega]; exact hI)
theorem rowF_len {n t : Nat} (a : 0 < n) : (rowF n t).length = n := by
  unfold rowF
  have := Nat.mod_lt t a
  rw [List.length_append, List.length_replicate, List.length_replicate]; omega
theorem marksof_ok {h : MH} {n t g : Nat} {Q : QV} {E : QX} (a : 2 ≤ n) (b : n ≤ 8) (c : t < 2 * n) (d : g < 2 * n) (z : ((g : Int) - t) % (2 * n) ≤ n) (q : ∀ i h', rd h' 152 i = some (.lst ((marksF n t g).map .int)) → Grow h h' → h' 1 = h 1 → Q (.ref 152 i) h') : F_marks_of [.int n, .int t, .int g] h Q E := by
  simp [-sSeq, sSeqK, small, lim, F_marks_of_eq]
  refine turn_ok (by omega) (by omega) (by omega) (by omega) ?_
  simp only [kont_eq]; simp [-sSeq, sSeqK, small, lim]
  refine turn_ok (by omega) (by omega) (by omega) (by omega) ?_
  simp only [kont_eq]; simp [-sSeq, sSeqK, small, lim]
  refine distance_ok (by omega) (by omega) (by omega) (by omega) (by omega) (by omega) ?_
  simp [-sSeq, sSeqK, small, lim]
  rw [if_neg (by omega)]
  simp only [kont_eq]; simp [-sSeq, sSeqK, small, lim]
  simp only [kont_eq]; simp [-sSeq, sSeqK, small, lim]
  have g0 := grow_new h 152 (.lst [])
  have l0 : rd (put h 152 (h 152 ++ [.lst []])) 152 (h 152).length = some (.lst []) := by simp
  generalize e0 : put h 152 (h 152 ++ [.lst []]) = h0 at *
  have k0 : h0 1 = h 1 := by rw [← e0]; simp
  have n0 : (h0 152).length = (h 152).length + 1 := by rw [← e0]; simp
  clear e0
  refine bitsof_spec a b d fun j1 h1 z1 g1 k1 => ?_
  refine bitsof_spec a b c fun j2 h2 z2 g2 k2 => ?_
  have z1 := g2 _ _ _ (by decide) z1
  simp [-sSeq, sSeqK, z1, z2]
  rw [zip_ints]
  refine forG_inv (fun k σ h' => Grow h h' ∧ h' 1 = h 1 ∧ rd h' 0 j1 = some (MO.lst (List.map MV.int (rowF n g))) ∧ rd h' 0 j2 = some (MO.lst (List.map MV.int (rowF n t))) ∧ k ≤ n ∧
    rd h' 152 (h 152).length = some (.lst (((marksF n t g).take k).map .int)) ∧ ∃ x y, σ = [some (MV.int ↑n), some (MV.int ↑t), some (MV.int ↑g), some (MV.ref 152 (h 152).length), x, y]) _ 0 _ _
    ⟨(g0.trans g1).trans g2, by rw [k2, k1, k0], z1, z2, by omega, by simpa using (g1.trans g2) _ _ _ (by decide) l0, _, _, rfl⟩ ?_ ?_ ?_
  · rintro k σ h' ⟨_, _, y1, y2, _⟩
    simp [y1, y2]
  · rintro k x σ h' N hk ⟨G, G1, y1, y2, kn, y3, w1, w2, rfl⟩ hN
    rw [List.getElem?_map] at hk
    obtain ⟨⟨l, o⟩, hk1, rfl⟩ := Option.map_eq_some_iff.mp hk
    have hlen : k < n := by
      have := (List.getElem?_eq_some_iff.mp hk1).1
      rw [List.length_zip, rowF_len (by omega), rowF_len (by omega)] at this; omega
    rw [Nat.zero_add] at y3 hN
    simp [-sSeq, sSeqK, small, lim, y3, dmax_eq]
    have em : (marksF n t g)[k]? = some (2 * l + (l + o) % 2) := by
      unfold marksF
      obtain ⟨p1, p2⟩ := List.getElem?_zip_eq_some.mp hk1
      rw [List.getElem?_zipWith, p1, p2]
    refine ⟨by omega, hN _ _ ⟨grow_set G (rd_end h 152), by rw [put_ne _ _ (by decide)]; exact G1, ?_, ?_, by omega, ?_, _, _, rfl⟩⟩
    · simpa using y1
    · simpa using y2
    · have := rd_lt y3
      rw [List.take_succ, em]
      simp [this]
  · rintro σ h' ⟨G, G1, y1, y2, kn, y3, w1, w2, rfl⟩
    simp only [kont_eq]; simp [-sSeq, sSeqK, small, lim]
    refine q _ _ ?_ G G1
    rw [y3]
    rw [List.take_of_length_le]
    simp [marksF, rowF_len (show 0 < n by omega)]
theorem marksof_far {h : MH} {n t g : Nat} {Q : QV} {E : QX} (a : 2 ≤ n) (b : n ≤ 8) (c : t < 2 * n) (d : g < 2 * n) (z : n < ((g : Int) - t) % (2 * n)) (q : E "Crooked" h) : F_marks_of [.int n, .int t, .int g] h Q E := by
  simp [-sSeq, sSeqK, small, lim, F_marks_of_eq]
  refine turn_ok (by omega) (by omega) (by omega) (by omega) ?_
  simp only [kont_eq]; simp [-sSeq, sSeqK, small, lim]
  refine turn_ok (by omega) (by omega) (by omega) (by omega) ?_
  simp only [kont_eq]; simp [-sSeq, sSeqK, small, lim]
  refine distance_ok (by omega) (by omega) (by omega) (by omega) (by omega) (by omega) ?_
  simp [-sSeq, sSeqK, small, lim]
  rw [if_pos (by omega)]
  exact q
theorem giverF_cls {ns : List Int} {c : String} (e : giverF ns = .inl c) : c = "BadSize" ∨ c = "BadMark" ∨ c = "Crooked" := by
  unfold giverF at e
  cases o : marksO ns with
  | some d =>
    rw [o] at e; cases e
    unfold marksO at o
    split at o
    · cases o; exact Or.inl rfl
    split at o
    · cases o; exact Or.inr (Or.inl rfl)
    · cases o
  | none => rw [o] at e; exact frontF_cls e
theorem frontF_range {ns : List Int} {t : Int} (e : frontF ns = .inr t) : 0 ≤ t ∧ t < 2 * ns.length := by
  unfold frontF at e
  split at e
  · cases e
  rename_i h1
  split at e
  · cases e
  rename_i h2
  have hb : ns.headD 0 = 0 ∨ ns.headD 0 = 1 := by
    cases ns with
    | nil => exact Or.inl rfl
    | cons b l =>
      simp [badBit] at h2
      simp only [List.headD_cons]
      omega
  generalize ns.headD 0 = f at *
  have hr := runF_le f ns
  split at e
  · cases e
    rcases hb with rfl | rfl <;> omega
  split at e
  · cases e
  · cases e
    rcases hb with rfl | rfl <;> omega
theorem marksO_in {ns : List Int} (o : marksO ns = none) : ∀ m ∈ ns, 0 ≤ m ∧ m ≤ 3 := by
  unfold marksO at o
  split at o
  · cases o
  split at o
  · cases o
  rename_i h
  intro m hm
  have : ¬ badMark m = true := fun z => h (List.any_eq_true.mpr ⟨m, hm, z⟩)
  unfold badMark at this
  simp at this
  omega
theorem frontF_bits {ns : List Int} {c : String} (a : 2 ≤ ns.length) (b : ns.length ≤ 8) (z : ∀ m ∈ ns, m = 0 ∨ m = 1) (e : frontF ns = .inl c) : c = "Crooked" := by
  unfold frontF at e
  rw [if_neg (by omega), if_neg] at e
  · split at e
    · cases e
    split at e
    · cases e; rfl
    · cases e
  · intro h
    obtain ⟨m, hm, y⟩ := List.any_eq_true.mp h
    unfold badBit at y
    have := z m hm
    simp at y; omega
theorem lapbit {ns : List Int} (o : marksO ns = none) : ∀ m ∈ ns.map fun m => m / 2, m = 0 ∨ m = 1 := by
  intro m hm
  obtain ⟨x, hx, rfl⟩ := List.mem_map.mp hm
  have := marksO_in o x hx
  omega
theorem oddbit {ns : List Int} (o : marksO ns = none) : ∀ m ∈ ns.map fun m => (m / 2 + m) % 2, m = 0 ∨ m = 1 := by
  intro m hm
  obtain ⟨x, hx, rfl⟩ := List.mem_map.mp hm
  have := marksO_in o x hx
  omega
theorem giverF_none {ns : List Int} (o : marksO ns = none) : giverF ns = frontF (ns.map fun m => m / 2) := by unfold giverF; rw [o]
theorem takerF_none {ns : List Int} (o : marksO ns = none) : takerF ns = frontF (ns.map fun m => (m / 2 + m) % 2) := by unfold takerF; rw [o]
theorem giverF_bad {ns : List Int} {c : String} (o : marksO ns = none) (e : giverF ns = .inl c) : c = "Crooked" := by
  rw [giverF_none o] at e
  have := marksO_len o
  exact frontF_bits (by rw [List.length_map]; omega) (by rw [List.length_map]; omega) (lapbit o) e
theorem takerF_bad {ns : List Int} {c : String} (o : marksO ns = none) (e : takerF ns = .inl c) : c = "Crooked" := by
  rw [takerF_none o] at e
  have := marksO_len o
  exact frontF_bits (by rw [List.length_map]; omega) (by rw [List.length_map]; omega) (oddbit o) e
theorem giverF_range {ns : List Int} {t : Int} (e : giverF ns = .inr t) : 0 ≤ t ∧ t < 2 * ns.length := by
  unfold giverF at e
  split at e
  · cases e
  · have := frontF_range e
    rw [List.length_map] at this; exact this
theorem takerF_range {ns : List Int} {t : Int} (e : takerF ns = .inr t) : 0 ≤ t ∧ t < 2 * ns.length := by
  unfold takerF at e
  split at e
  · cases e
  · have := frontF_range e
    rw [List.length_map] at this; exact this
def soundF (ns : List Int) : String ⊕ Bool := match marksO ns with
  | some c => .inl c
  | none => match giverF ns, takerF ns with
    | .inr g, .inr t => .inr (decide ((g - t) % (2 * ns.length) ≤ ns.length))
    | _, _ => .inr false
theorem sound_spec {h : MH} {v : MV} {ns : List Int} {Q : QV} {E : QX} (hv : Ints h v ns) (q : ∀ b, soundF ns = .inr b → ∀ h', Grow h h' → h' 1 = h 1 → Q (.bl b) h') (e : ∀ c, soundF ns = .inl c → E c h) : F_sound_marks [v] h Q E := by
  simp [-sSeq, sSeqK, small, lim, F_sound_marks_eq]
  refine marks_r hv (fun o => ?_) fun c o => e c (by unfold soundF; rw [o])
  have G : soundF ns = match giverF ns, takerF ns with
    | .inr g, .inr t => .inr (decide ((g - t) % (2 * ns.length) ≤ ns.length))
    | _, _ => .inr false := by unfold soundF; rw [o]
  have hl := marksO_len o
  simp only [kont_eq]; simp [-sSeq, sSeqK, small, lim]
  simp only [kont_eq]
  refine giver_spec hv (fun g hg h1 g1 k1 => ?_) fun c hc h1 g1 k1 => ?_
  · simp [-sSeq, sSeqK, small, lim]
    refine taker_spec (hv.grow g1) (fun t ht h2 g2 k2 => ?_) fun c hc h2 g2 k2 => ?_
    · obtain ⟨r, i, hr, rfl, z⟩ := hv
      have z2 := g2 _ _ _ hr (g1 _ _ _ hr z)
      have rg := giverF_range hg
      have rt := takerF_range ht
      simp [-sSeq, sSeqK, small, lim, z2]
      refine distance_ok (by omega) (by omega) rt.1 rt.2 rg.1 rg.2 ?_
      simp [-sSeq, sSeqK, small, lim, z2]
      rw [hg, ht] at G
      exact q _ G h2 (g1.trans g2) (by rw [k2, k1])
    · have := takerF_bad o hc
      subst this
      simp [-sSeq, sSeqK, small, lim]
      rw [hg, hc] at G
      exact q _ G h2 (g1.trans g2) (by rw [k2, k1])
  · have := giverF_bad o hc
    subst this
    simp [-sSeq, sSeqK, small, lim]
    rw [hc] at G
    exact q _ G h1 g1 k1
end Mi
end TxSMof

section TxK04
set_option autoImplicit false
set_option linter.all false
set_option maxRecDepth 100000
set_option maxHeartbeats 4000000
namespace Mi
def lmark (n f g : Int) (p : Nat) : Int :=
  if (g - p + n - 1) / n = 0 then 2 else 2 * (((g - p + n - 1) / n - 1) % 2) + (if f ≤ p + n * ((g - p + n - 1) / n - 1) then 1 else 0)
def lmarks (n : Nat) (f g : Int) : List Int := (List.range n).map (lmark n f g)
theorem lmarks_len (n : Nat) (f g : Int) : (lmarks n f g).length = n := by simp [lmarks]
theorem lawmarks_spec {h : MH} {n : Nat} {f g : Int} {Q : QV} {E : QX} (a : 2 ≤ n) (b : n ≤ 8) (q : ∀ i h', rd h' 151 i = some (.lst ((lmarks n f g).map .int)) → Grow h h' → h' 1 = h 1 → Q (.ref 151 i) h') : F_law_marks [.int n, .int f, .int g] h Q E := by
  simp [-sSeq, sSeqK, small, lim, F_law_marks_eq]
  simp only [kont_eq]; simp [-sSeq, sSeqK, small, lim]
  refine ⟨by unfold big; omega, ?_⟩
  refine forL_inv (fun k σ h' => Grow h h' ∧ h' 1 = h 1 ∧ rd h' 151 (h 151).length = some (.lst (((lmarks n f g).take k).map .int)) ∧ ∃ x y z, σ = [some (.int n), some (.int f), some (.int g), some (.ref 151 (h 151).length), x, y, z]) _ 0 _ _
    ⟨grow_new h 151 _, by simp, by simp, _, _, _, rfl⟩ (fun _ _ _ _ => trivial) ?_ ?_
  · rintro k x σ h' N hk ⟨G, G1, y3, w1, w2, w3, rfl⟩ hN
    obtain ⟨hk, rfl⟩ := rng_at hk
    rw [Nat.zero_add] at y3 hN
    have hm : (lmarks n f g)[k]? = some (lmark n f g k) := by
      unfold lmarks
      rw [List.getElem?_map, List.getElem?_range (by omega)]; rfl
    have fin : ∀ v, v = lmark n f g k → N [some (.int n), some (.int f), some (.int g), some (.ref 151 (h 151).length), some (.int k), some (.int ((g - k + n - 1) / n)), some (.int (k + n * ((g - k + n - 1) / n - 1)))]
        (put h' 151 ((h' 151).set (h 151).length (.lst (((lmarks n f g).take k).map .int ++ [.int v])))) := fun v hv => by
      refine hN _ _ ⟨grow_set G (rd_end h 151), by simpa using G1, ?_, _, _, _, rfl⟩
      have := rd_lt y3
      rw [List.take_succ, hm, ← hv]
      simp [this]
    simp [-sSeq, sSeqK, small, lim, dmax_eq]
    refine ⟨by omega, by omega, ?_⟩
    simp only [kont_eq]; simp [-sSeq, sSeqK, small, lim]
    refine ⟨by omega, ?_⟩
    simp only [kont_eq]; simp [-sSeq, sSeqK, small, lim, y3]
    by_cases c : (g - (k : Int) + n - 1) / n = 0
    · rw [if_pos c]
      have := fin 2 (by unfold lmark; rw [if_pos c])
      refine ⟨by omega, ?_⟩
      simpa using this
    · rw [if_neg c]
      refine ⟨by omega, ?_⟩
      have := fin _ (by unfold lmark; rw [if_neg c])
      simpa using this
  · rintro σ h' ⟨G, G1, y3, w1, w2, w3, rfl⟩
    simp only [kont_eq]; simp [-sSeq, sSeqK, small, lim]
    refine q _ _ ?_ G G1
    rw [y3, List.take_of_length_le]
    simp [lmarks_len]
theorem lmark_two {n f g : Int} {p : Nat} (a : 2 ≤ n) (hp : p < n) (hf : 0 ≤ f) (hg : f ≤ g) (hp0 : 0 ≤ g) : lmark n (f + 2 * n) (g + 2 * n) p = lmark n f g p := by
  have e : (g + 2 * n - p + n - 1) / n = (g - p + n - 1) / n + 2 := by
    rw [show g + 2 * n - (p : Int) + n - 1 = g - p + n - 1 + n * 2 by omega, Int.add_mul_ediv_left _ _ (by omega)]
  have nn : 0 ≤ (g - p + n - 1) / n := Int.ediv_nonneg (by omega) (by omega)
  unfold lmark
  rw [e]
  generalize hm : (g - (p : Int) + n - 1) / n = m at *
  rw [if_neg (by omega)]
  have hl : p + n * (m + 2 - 1) = p + n * (m - 1) + 2 * n := by
    rw [show m + 2 - 1 = (m - 1) + 2 by omega, Int.mul_add]; omega
  rw [hl]
  by_cases c : m = 0
  · rw [if_pos c]
    subst c
    have : g - p + n - 1 < n := by
      have := Int.lt_ediv_add_one_mul_self (g - (p : Int) + n - 1) (show 0 < n by omega)
      rw [hm] at this; omega
    rw [if_neg (by omega)]
    decide
  · rw [if_neg c]
    have : (f + 2 * n ≤ p + n * (m - 1) + 2 * n) = (f ≤ p + n * (m - 1)) := by
      apply propext; omega
    simp only [this]
    omega
theorem lmarks_two {n : Nat} {f g : Int} (a : 2 ≤ n) (hf : 0 ≤ f) (hg : f ≤ g) : lmarks n (f + 2 * n) (g + 2 * n) = lmarks n f g := by
  unfold lmarks
  refine List.map_congr_left fun p hp => ?_
  exact lmark_two (by omega) (by have := List.mem_range.mp hp; omega) hf hg (by omega)
theorem lmarks_turns {n : Nat} {f g : Int} (a : 2 ≤ n) (hf : 0 ≤ f) (hg : f ≤ g) : ∀ k : Nat, lmarks n (f + 2 * n * k) (g + 2 * n * k) = lmarks n f g
  | 0 => by simp
  | k + 1 => by
    have := lmarks_turns a hf hg k
    rw [← this, ← lmarks_two a (f := f + 2 * n * k)]
    · congr 1 <;> (push_cast; rw [Int.mul_add]; omega)
    · have : 0 ≤ 2 * (n : Int) * k := by apply Int.mul_nonneg <;> omega
      omega
    · omega
theorem lmarks_mod {n : Nat} {f g : Int} (a : 2 ≤ n) (hf : 0 ≤ f) (hg : f ≤ g) : lmarks n f g = lmarks n (f % (2 * n)) (f % (2 * n) + (g - f)) := by
  have e := Int.emod_add_mul_ediv f (2 * n)
  have p := Int.emod_nonneg f (show (2 * n : Int) ≠ 0 by omega)
  have d : 0 ≤ f / (2 * n) := Int.ediv_nonneg hf (by omega)
  rw [← lmarks_turns (f := f % (2 * n)) a p (by omega) (f / (2 * n)).toNat, Int.toNat_of_nonneg d]
  congr 1 <;> omega
def okAt (n t d : Nat) : Bool :=
  let m := marksF n t ((t + d) % (2 * n))
  decide (lmarks n t (t + d) = m) && decide (soundF m = .inr true) && decide (giverF m = .inr (((t + d) % (2 * n) : Nat) : Int)) && decide (takerF m = .inr (t : Int)) && decide ((m.filter fun x => decide (x % 2 = 1)).length = d)
theorem all_okAt : ([2, 3, 4, 5, 6, 7, 8].all fun n => (List.range (2 * n)).all fun t => (List.range (n + 1)).all (okAt n t)) = true := by decide +kernel
theorem okAt_of {n t d : Nat} (a : 2 ≤ n) (b : n ≤ 8) (c : t < 2 * n) (e : d ≤ n) : okAt n t d = true := by
  have h := List.all_eq_true.mp all_okAt n (by simp only [List.mem_cons, List.not_mem_nil, or_false]; omega)
  have h := List.all_eq_true.mp h t (List.mem_range.mpr c)
  exact List.all_eq_true.mp h d (List.mem_range.mpr (by omega))
theorem search_row {bs : List Int} {t : Nat} (e : searchF bs = some t) : t < 2 * bs.length ∧ bs = rowF bs.length t := by
  unfold searchF at e
  have h1 := List.mem_of_find?_eq_some e
  have h2 := List.find?_some e
  exact ⟨List.mem_range.mp h1, by simpa using h2⟩
theorem front_row {bs : List Int} (o : bitsOk bs) {u : Int} (e : frontF bs = .inr u) : ∃ t : Nat, u = t ∧ t < 2 * bs.length ∧ bs = rowF bs.length t := by
  have s := same_ok o
  unfold sameF at s
  rw [e] at s
  split at s
  · rename_i t u' e1 e2
    cases e2
    have := search_row e1
    exact ⟨t, by have := of_decide_eq_true s; omega, this⟩
  · cases (by assumption : (Sum.inr u : String ⊕ Int) = Sum.inl _)
  · cases s
theorem marks_again : ∀ ns : List Int, (∀ m ∈ ns, 0 ≤ m ∧ m ≤ 3) → List.zipWith (fun l o : Int => 2 * l + (l + o) % 2) (ns.map fun m => m / 2) (ns.map fun m => (m / 2 + m) % 2) = ns
  | [], _ => rfl
  | m :: ns, h => by
    have := h m List.mem_cons_self
    simp only [List.map_cons, List.zipWith_cons_cons]
    rw [marks_again ns fun x hx => h x (List.mem_cons_of_mem _ hx)]
    congr 1
    omega
def anyF (ns : List Int) : Bool := (List.range (2 * ns.length)).any fun t => (List.range (ns.length + 1)).any fun d => decide (lmarks ns.length (t + 2 * ns.length) (t + 2 * ns.length + d) = ns)
theorem lapOk {ns : List Int} (o : marksO ns = none) : bitsOk (ns.map fun m => m / 2) := by
  have := marksO_len o
  exact ⟨by simp; omega, by simp; omega, lapbit o⟩
theorem oddOk {ns : List Int} (o : marksO ns = none) : bitsOk (ns.map fun m => (m / 2 + m) % 2) := by
  have := marksO_len o
  exact ⟨by simp; omega, by simp; omega, oddbit o⟩
theorem okAt_all {n t d : Nat} (h : okAt n t d = true) : lmarks n t (t + d) = marksF n t ((t + d) % (2 * n)) ∧ soundF (marksF n t ((t + d) % (2 * n))) = .inr true ∧ giverF (marksF n t ((t + d) % (2 * n))) = .inr (((t + d) % (2 * n) : Nat) : Int) ∧
    takerF (marksF n t ((t + d) % (2 * n))) = .inr (t : Int) ∧ ((marksF n t ((t + d) % (2 * n))).filter fun x => decide (x % 2 = 1)).length = d := by
  unfold okAt at h
  simp only [Bool.and_eq_true, decide_eq_true_eq] at h
  obtain ⟨⟨⟨⟨h1, h2⟩, h3⟩, h4⟩, h5⟩ := h
  exact ⟨h1, h2, h3, h4, h5⟩
theorem sound_any {ns : List Int} (o : marksO ns = none) : soundF ns = .inr (anyF ns) := by
  have hl := marksO_len o
  cases hs : soundF ns with
  | inl c => unfold soundF at hs; rw [o] at hs; simp only at hs; split at hs <;> cases hs
  | inr b =>
    congr 1
    cases b with
    | true =>
      symm
      unfold soundF at hs
      rw [o] at hs
      simp only at hs
      split at hs
      · rename_i g t eg et
        have hd : (g - t) % (2 * ns.length) ≤ ns.length := by simpa using hs
        rw [giverF_none o] at eg
        rw [takerF_none o] at et
        obtain ⟨g', rfl, g2, g3⟩ := front_row (lapOk o) eg
        obtain ⟨t', rfl, t2, t3⟩ := front_row (oddOk o) et
        rw [List.length_map] at g2 g3 t2 t3
        have em : ns = marksF ns.length t' g' := by
          unfold marksF
          rw [← g3, ← t3, marks_again ns (marksO_in o)]
        have hd0 := Int.emod_nonneg ((g' : Int) - t') (show (2 * ns.length : Int) ≠ 0 by omega)
        obtain ⟨d, ed⟩ : ∃ d : Nat, (d : Int) = ((g' : Int) - t') % (2 * ns.length) := ⟨(((g' : Int) - t') % (2 * ns.length)).toNat, by omega⟩
        have eg' : (t' + d) % (2 * ns.length) = g' := by
          have : (((t' + d) % (2 * ns.length) : Nat) : Int) = (g' : Int) := by
            rw [Int.natCast_emod]
            push_cast
            rw [ed, Int.add_emod_emod, show (t' : Int) + (g' - t') = g' by omega]
            exact Int.emod_eq_of_lt (by omega) (by omega)
          omega
        have ok := okAt_all (okAt_of (n := ns.length) (t := t') (d := d) (by omega) (by omega) t2 (by omega))
        rw [eg', ← em] at ok
        refine List.any_eq_true.mpr ⟨t', List.mem_range.mpr t2, List.any_eq_true.mpr ⟨d, List.mem_range.mpr (by omega), ?_⟩⟩
        refine decide_eq_true (Eq.trans ?_ ok.1)
        rw [← lmarks_two (f := (t' : Int)) (g := t' + d) (by omega) (by omega) (by omega)]
        congr 1; omega
      · cases hs
    | false =>
      symm
      rw [← Bool.not_eq_true]
      intro h
      obtain ⟨t, ht, h⟩ := List.any_eq_true.mp h
      obtain ⟨d, hd, h⟩ := List.any_eq_true.mp h
      have ht := List.mem_range.mp ht
      have hd := List.mem_range.mp hd
      rw [decide_eq_true_eq] at h
      have e : lmarks ns.length (t + 2 * ns.length) (t + 2 * ns.length + d) = lmarks ns.length t (t + d) := by
        rw [← lmarks_two (f := (t : Int)) (g := t + d) (by omega) (by omega) (by omega)]
        congr 1; omega
      have ok := okAt_all (okAt_of (n := ns.length) (t := t) (d := d) (by omega) (by omega) ht (by omega))
      rw [e, ok.1] at h
      rw [h] at ok
      rw [ok.2.1] at hs
      cases hs
theorem any_spec {h : MH} {v : MV} {ns : List Int} {Q : QV} {E : QX} (hv : Ints h v ns) (a : 2 ≤ ns.length) (b : ns.length ≤ 8) (q : ∀ h', Grow h h' → h' 1 = h 1 → Q (.bl (anyF ns)) h') : F_law_any [.int ns.length, v] h Q E := by
  obtain ⟨r, i, hr, rfl, z⟩ := hv
  simp [-sSeq, sSeqK, small, lim, F_law_any_eq]
  refine ⟨by unfold big; omega, ?_⟩
  refine forL_inv (fun k σ h' => Grow h h' ∧ h' 1 = h 1 ∧ (∀ j, j < k → ∀ d, d < ns.length + 1 → lmarks ns.length (j + 2 * ns.length) (j + 2 * ns.length + d) ≠ ns) ∧ ∃ x y, σ = [some (.int ns.length), some (.ref r i), x, y]) _ 0 _ _
    ⟨Grow.refl h, rfl, fun j hj => absurd hj (Nat.not_lt_zero j), _, _, rfl⟩ (fun _ _ _ _ => trivial) ?_ ?_
  · rintro t x σ h' N hk ⟨G, G1, hb, w1, w2, rfl⟩ hN
    obtain ⟨hk, rfl⟩ := rng_at hk
    rw [Nat.zero_add] at hb hN
    simp [-sSeq, sSeqK, small, lim]
    refine ⟨by unfold big; omega, ?_⟩
    refine forL_inv (fun k σ h' => Grow h h' ∧ h' 1 = h 1 ∧ (∀ d, d < k → lmarks ns.length (t + 2 * ns.length) (t + 2 * ns.length + d) ≠ ns) ∧ ∃ y, σ = [some (.int ns.length), some (.ref r i), some (.int t), y]) _ 0 _ _
      ⟨G, G1, fun j hj => absurd hj (Nat.not_lt_zero j), _, rfl⟩ (fun _ _ _ _ => trivial) ?_ ?_
    · rintro d x σ h' N hd ⟨G, G1, hc, w2, rfl⟩ hN
      obtain ⟨hd, rfl⟩ := rng_at hd
      rw [Nat.zero_add] at hc hN
      simp [-sSeq, -dat_ref, sSeqK, small, lim]
      refine lawmarks_spec a b fun i2 h2 z2 g2 k2 => ?_
      have z := (G.trans g2) _ _ _ hr z
      simp [-dat_ref, dat_ints z2, dat_ints z, eqvs_ints]
      split
      · rename_i c
        have : anyF ns = true := List.any_eq_true.mpr ⟨t, List.mem_range.mpr (by omega), List.any_eq_true.mpr ⟨d, List.mem_range.mpr (by omega), decide_eq_true c⟩⟩
        rw [this] at q
        exact q _ (G.trans g2) (by rw [k2, G1])
      · rename_i c
        refine hN _ _ ⟨G.trans g2, by rw [k2, G1], fun k hk => ?_, _, rfl⟩
        by_cases e : k = d
        · subst e; exact c
        · exact hc k (by omega)
    · rintro σ h' ⟨G, G1, hc, w2, rfl⟩
      refine hN _ _ ⟨G, G1, fun k hk => ?_, _, _, rfl⟩
      by_cases e : k = t
      · subst e
        intro d hd
        exact hc d (by simp; omega)
      · exact hb k (by omega)
  · rintro σ h' ⟨G, G1, hb, w1, w2, rfl⟩
    simp only [kont_eq]; simp [-sSeq, sSeqK, small, lim]
    have : anyF ns = false := by
      rw [← Bool.not_eq_true]
      intro h
      obtain ⟨t, ht, h⟩ := List.any_eq_true.mp h
      obtain ⟨d, hd, h⟩ := List.any_eq_true.mp h
      exact hb t (by have := List.mem_range.mp ht; simp; omega) d (List.mem_range.mp hd) (of_decide_eq_true h)
    rw [this] at q
    exact q _ G G1
def crookV : String ⊕ Int → MV
  | .inr t => .int t
  | .inl _ => .str "crooked"
theorem told_spec {h : MH} {v : MV} {ns : List Int} {way : Nat} {Q : QV} {E : QX} (hv : Ints h v ns) (hw : way < 2) (o : marksO ns = none) (q : ∀ h', Grow h h' → h' 1 = h 1 → Q (crookV (if way = 0 then giverF ns else takerF ns)) h') : F_law_told [.int way, v] h Q E := by
  simp [-sSeq, sSeqK, small, lim, F_law_told_eq]
  simp only [kont_eq]; simp [-sSeq, sSeqK, small, lim]
  by_cases c : way = 0
  · subst c
    simp [-sSeq, sSeqK, small, lim]
    refine giver_spec hv (fun t ht h' g g1 => ?_) fun c hc h' g g1 => ?_
    · rw [if_pos rfl, ht] at q; simp only [kont_eq]; simp [-sSeq, sSeqK, small, lim]; exact q _ g g1
    · have := giverF_bad o hc
      rw [if_pos rfl, hc] at q; subst this; simp only [kont_eq]; simp [-sSeq, sSeqK, small, lim]; exact q _ g g1
  · rw [if_neg (by omega)]
    refine taker_spec hv (fun t ht h' g g1 => ?_) fun d hc h' g g1 => ?_
    · rw [if_neg c, ht] at q; simp only [kont_eq]; simp [-sSeq, sSeqK, small, lim]; exact q _ g g1
    · have := takerF_bad o hc
      rw [if_neg c, hc] at q; subst this; simp only [kont_eq]; simp [-sSeq, sSeqK, small, lim]; exact q _ g g1
theorem same_cr {bs : List Int} (o : bitsOk bs) : (∃ t : Nat, searchF bs = some t ∧ frontF bs = .inr (t : Int)) ∨ (searchF bs = none ∧ frontF bs = .inl "Crooked") := by
  have s := same_ok o
  unfold sameF at s
  split at s
  · rename_i t u e1 e2
    have := of_decide_eq_true s
    subst this
    exact Or.inl ⟨t, e1, e2⟩
  · rename_i c e1 e2
    have := of_decide_eq_true s
    subst this
    exact Or.inr ⟨e1, e2⟩
  · cases s
theorem rowright_spec {h : MH} {v : MV} {ns : List Int} {Q : QV} {E : QX} (hv : Ints h v ns) (o : marksO ns = none) (q : ∀ h', Grow h h' → h' 1 = h 1 → Q (.bl true) h') : F_law_row_right [v] h Q E := by
  have hl := marksO_len o
  have hl2 : ns.length < 1000000 := by omega
  have hv' := hv
  obtain ⟨r, i, hr, rfl, z⟩ := hv
  simp [-sSeq, sSeqK, small, lim, F_law_row_right_eq, z]
  have g0 := grow_new h 161 (.lst (ns.map .int))
  have i0 := ints_new h (show 161 ≠ 1 by decide) ns
  simp only [kont_eq]; simp [-sSeq, sSeqK, small, lim]
  refine sound_spec i0 (fun b hb h1 g1 k1 => ?_) fun c hc => ?_
  · rw [sound_any o] at hb
    cases hb
    have z1 := g1 _ _ _ hr (g0 _ _ _ hr z)
    simp only [kont_eq]; simp [-sSeq, -dat_ref, sSeqK, small, lim, z1]
    refine any_spec ⟨r, i, hr, rfl, z1⟩ hl.1 hl.2 fun h2 g2 k2 => ?_
    have z2 := g2 _ _ _ hr z1
    have y2 : rd h2 161 (h 161).length = some (.lst (ns.map .int)) := (g1.trans g2) _ _ _ (by decide) (by simp)
    simp [-sSeq, sSeqK, -dat_ref, dat_ints z2, dat_ints y2, eqvs_ints]
    simp only [kont_eq]; simp [-sSeq, -dat_ref, sSeqK, small, lim, z2]
    refine comp_map (f := fun m => .int (m / 2)) (by unfold lim; omega) z2 (fun m _ N hN => by simp [dmax_eq]; exact hN) ?_
    have g3 := grow_new h2 163 (.lst (ns.map fun m => .int (m / 2)))
    have z3 := g3 _ _ _ hr z2
    have y3 := g3 _ _ _ (show 161 ≠ 1 by decide) y2
    have l3 : Ints (put h2 163 (h2 163 ++ [MO.lst (ns.map fun m => .int (m / 2))])) (.ref 163 (h2 163).length) (ns.map fun m => m / 2) := ⟨163, _, by decide, rfl, by simp⟩
    have K3 : put h2 163 (h2 163 ++ [MO.lst (ns.map fun m => .int (m / 2))]) 1 = h 1 := by rw [put_ne _ _ (by decide), k2, k1]; simp
    have G3 := ((g0.trans g1).trans g2).trans g3
    generalize put h2 163 (h2 163 ++ [MO.lst (ns.map fun m => .int (m / 2))]) = h3 at *
    simp [-sSeq, sSeqK, z3]
    refine comp_map (f := fun m => .int ((m / 2 + m) % 2)) (by unfold lim; omega) z3 (fun m _ N hN => by simp [dmax_eq]; exact hN) ?_
    have g4 := grow_new h3 162 (.lst (ns.map fun m => .int ((m / 2 + m) % 2)))
    have z4 := g4 _ _ _ hr z3
    have y4 := g4 _ _ _ (show 161 ≠ 1 by decide) y3
    have l4 := l3.grow g4
    have m4 : Ints (put h3 162 (h3 162 ++ [MO.lst (ns.map fun m => .int ((m / 2 + m) % 2))])) (.ref 162 (h3 162).length) (ns.map fun m => (m / 2 + m) % 2) := ⟨162, _, by decide, rfl, by simp⟩
    have K4 : put h3 162 (h3 162 ++ [MO.lst (ns.map fun m => .int ((m / 2 + m) % 2))]) 1 = h 1 := by rw [put_ne _ _ (by decide), K3]
    have G4 := G3.trans g4
    generalize put h3 162 (h3 162 ++ [MO.lst (ns.map fun m => .int ((m / 2 + m) % 2))]) = h4 at *
    simp only [kont_eq]
    refine seq_cut (fun σ h' => Grow h h' ∧ h' 1 = h 1 ∧ rd h' 161 (h 161).length = some (.lst (ns.map .int)) ∧ ∃ a b c d e f, σ = [some (MV.ref r i), some (MV.ref 161 (h 161).length), a, b, c, d, e, f]) (fun N hN => ?_) ?_
    · simp [-sSeq, -dat_ref, sSeqK, small, lim]
      refine ⟨by unfold big; omega, ?_⟩
      have g5 := grow_new h4 164 (.lst [.ref 163 (h2 163).length, .ref 162 (h3 162).length])
      have z5 := g5 _ _ _ hr z4
      have y5 := g5 _ _ _ (show 161 ≠ 1 by decide) y4
      have l5 := l4.grow g5
      have m5 := m4.grow g5
      have G5 := G4.trans g5
      have b5 : rd (put h4 164 (h4 164 ++ [.lst [.ref 163 (h2 163).length, .ref 162 (h3 162).length]])) 164 (h4 164).length = some (.lst [.ref 163 (h2 163).length, .ref 162 (h3 162).length]) := by simp
      have K5 : (put h4 164 (h4 164 ++ [.lst [.ref 163 (h2 163).length, .ref 162 (h3 162).length]])) 1 = h 1 := by rw [put_ne _ _ (by decide), K4]
      generalize put h4 164 (h4 164 ++ [.lst [.ref 163 (h2 163).length, .ref 162 (h3 162).length]]) = h5 at *
      refine forL_inv (fun k σ h' => Grow h h' ∧ Grow h5 h' ∧ h' 1 = h 1 ∧ ∃ a b c d e, σ = [some (MV.ref r i), some (MV.ref 161 (h 161).length), a, some (.ref 164 (h4 164).length), b, c, d, e]) _ 0 _ _
        ⟨G5, Grow.refl h5, K5, _, _, _, _, _, rfl⟩ (fun _ _ _ _ => trivial) ?_ ?_
      · rintro w x σ h' N' hk ⟨G, G', G1, q1, q2, q3, q4, q5, rfl⟩ hN'
        obtain ⟨hw2, rfl⟩ := rng_at hk
        have b6 := G' _ _ _ (by decide) b5
        have hw : w = 0 ∨ w = 1 := by omega
        have hh : ∃ v bs, atI [MV.ref 163 (h2 163).length, MV.ref 162 (h3 162).length] (w : Int) = some v ∧ Ints h' v bs ∧ bitsOk bs ∧ frontF bs = (if w = 0 then giverF ns else takerF ns) := by
          rcases hw with rfl | rfl
          · exact ⟨_, _, rfl, l5.grow G', lapOk o, by rw [if_pos rfl, giverF_none o]⟩
          · exact ⟨_, _, rfl, m5.grow G', oddOk o, by rw [if_neg (by decide), takerF_none o]⟩
        obtain ⟨v, bs, e1, ib, ob, ef⟩ := hh
        simp [-sSeq, -dat_ref, sSeqK, small, lim, b6, e1]
        refine lawfront_spec ib (by have := ob.1; omega) (by have := ob.2.1; omega) fun h6 g6 k6 => ?_
        simp only [kont_eq]; simp [-sSeq, -dat_ref, sSeqK, small, lim]
        refine told_spec (ns := ns) ⟨161, _, by decide, rfl, g6 _ _ _ (by decide) (G' _ _ _ (by decide) y5)⟩ hw2 o fun h7 g7 k7 => ?_
        rw [← ef]
        have fin := fun x4 x5 x6 x7 => hN' [some (MV.ref r i), some (MV.ref 161 (h 161).length), q1, some (MV.ref 164 (h4 164).length), x4, x5, x6, x7] h7 ⟨(G.trans g6).trans g7, (G'.trans g6).trans g7, by rw [k7, k6, G1], _, _, _, _, _, rfl⟩
        rcases same_cr ob with ⟨t, c1, c2⟩ | ⟨c1, c2⟩
        · rw [c1, c2]
          simp only [kont_eq]; simp [-sSeq, -dat_ref, sSeqK, small, lim, optV, crookV]
          exact fin _ _ _ _
        · rw [c1, c2]
          simp only [kont_eq]; simp [-sSeq, -dat_ref, sSeqK, small, lim, optV, crookV]
          exact fin _ _ _ _
      · rintro σ h' ⟨G, G', G1, q1, q2, q3, q4, q5, rfl⟩
        exact hN _ _ ⟨G, G1, G' _ _ _ (by decide) y5, _, _, _, _, _, _, rfl⟩
    · rintro σ h' ⟨G, G1, y, q1, q2, q3, q4, q5, q6, rfl⟩
      have z := G _ _ _ hr z
      simp [-dat_ref, dat_ints z, dat_ints y, eqvs_ints]
      exact q _ G G1
  · rw [sound_any o] at hc; cases hc
theorem farapart_spec {h : MH} {n t g : Nat} {Q : QV} {E : QX} (a : 2 ≤ n) (b : n ≤ 8) (c : t < 2 * n) (d : g < 2 * n) (z : n < ((g : Int) - t) % (2 * n)) (q : Q (.bl true) h) : F_law_far_apart [.int n, .int t, .int g] h Q E := by
  simp [-sSeq, sSeqK, small, lim, F_law_far_apart_eq]
  simp only [kont_eq]; simp [-sSeq, sSeqK, small, lim]
  refine marksof_far a b c d z ?_
  simp [-sSeq, sSeqK, small, lim]
  simp only [kont_eq]; simp [-sSeq, sSeqK, small, lim]
  exact q
theorem pick2_g {h : MH} {i r : Nat} {x y : Int} {P : Int → Prop} {K : QV} {E : QX} (wl : WellAt h i) (hr : r ≠ 1) (hx : P x) (hy : P y)
    (q : ∀ (m : Int) (h' : MH), P m → WellAt h' i → Grow h h' → K (.int m) h') :
    F_law_take [.ref 1 i, .int 2] (put h r (h r ++ [.lst [.int x, .int y]])) (fun z h2 => match (match rd h2 r (h r).length, z with
      | some (.lst xs), .int i => atI xs i
      | some (.dic kvs), k => if (match k with
        | .int _ => true
        | .str _ => true
        | _ => false) = true then atKey k kvs else none
      | _, _ => none) with
      | some v => K v h2
      | none => False) E := by
  refine take_spec (wl.of (by simp [hr.symm])) (by omega) (le_dmax (by omega)) fun g h2 a b w f => ?_
  have e : ∃ m : Int, P m ∧ atI [MV.int x, .int y] g = some (.int m) := by
    rcases (show g = 0 ∨ g = 1 by omega) with rfl | rfl <;> simp <;> assumption
  obtain ⟨m, hm, em⟩ := e
  simp [rd, f r hr, em]
  exact q m h2 hm w ((grow_new h r _).trans (grow_take f))
theorem allB_const : ∀ ns : List Int, allB (ns.map fun _ => MV.bl true) = some (ns.map fun _ => true)
  | [] => rfl
  | n :: ns => by simp [allB_const ns]
theorem comp_filter {r : Nat} {chk : MH → Prop} {i : Nat} {t : WT} {e : WE} {σ : MS} {Q : QV} {h : MH} {p : Int → Bool} (hc : chk h) : ∀ (ns : List Int) (acc : List MV), acc.length + ns.length < lim →
    (∀ m ∈ ns, ∀ N : Bool → MH → Prop, N (p m) h → t (σ.set i (some (.int m))) h N fun _ _ => False) → (∀ m ∈ ns, ∀ N : QV, N (.int m) h → e (σ.set i (some (.int m))) h N fun _ _ => False) →
    (Q (.ref r (h r).length) (put h r (h r ++ [.lst (acc ++ (ns.filter p).map .int)]))) → compL r chk i t e σ Q (ns.map .int) acc h
  | [], acc, hl, ht, he, q => by rw [List.map_nil, compL_nil]; exact ⟨hc, by simpa using q⟩
  | n :: ns, acc, hl, ht, he, q => by
    rw [List.map_cons, compL_cons]
    refine ⟨hc, ht n List.mem_cons_self _ ?_⟩
    rw [List.length_cons] at hl
    by_cases c : p n = true
    · rw [if_pos c]
      refine he n List.mem_cons_self _ ⟨by omega, comp_filter hc ns _ (by simp; omega) (fun m hm => ht m (List.mem_cons_of_mem _ hm)) (fun m hm => he m (List.mem_cons_of_mem _ hm)) ?_⟩
      rw [List.filter_cons_of_pos c] at q
      simpa using q
    · rw [if_neg c]
      refine comp_filter hc ns _ (by omega) (fun m hm => ht m (List.mem_cons_of_mem _ hm)) (fun m hm => he m (List.mem_cons_of_mem _ hm)) ?_
      rw [List.filter_cons_of_neg c] at q
      exact q
theorem sound_marksO {ns : List Int} {b : Bool} (e : soundF ns = .inr b) : marksO ns = none := by
  unfold soundF at e
  cases o : marksO ns with
  | none => rfl
  | some c => rw [o] at e; cases e
theorem marksO_set {ns : List Int} {m : Int} {p : Nat} (o : marksO ns = none) (a : 0 ≤ m) (b : m ≤ 3) : marksO (ns.set p m) = none := by
  have hl := marksO_len o
  have hi := marksO_in o
  unfold marksO
  rw [List.length_set, if_neg (by omega), if_neg]
  intro z
  obtain ⟨x, hx, z⟩ := List.any_eq_true.mp z
  have : 0 ≤ x ∧ x ≤ 3 := by
    rcases List.mem_or_eq_of_mem_set hx with hx | rfl
    · exact hi x hx
    · exact ⟨a, b⟩
  simp [badMark] at z; omega
theorem law_true_v3 (ns : List Int) (hn : ns.length ≤ 63) (h : MH) (E : QX) : F_law_v3 [.cst (ns.map .int)] h (fun v _ => v = .bl true) E := by
  simp [-sSeq, sSeqK, small, lim, F_law_v3_eq]
  refine ⟨by unfold big; omega, forL_inv (fun _ σ h => ∃ a b c d e f g i j k l m n, σ = [some (.cst (ns.map .int)), a, b, c, d, e, f, g, i, j, k, l, m, n]) _ 0 _ _ ⟨_, _, _, _, _, _, _, _, _, _, _, _, _, rfl⟩ (fun _ _ _ _ => trivial) ?_ ?_⟩
  · rintro j x σ h N hj ⟨y1, y2, y3, y4, y5, y6, y7, y8, y9, y10, y11, y12, y13, rfl⟩ hN
    obtain ⟨hj, rfl⟩ := rng_at hj
    simp [-sSeq, sSeqK, small, lim]
    refine well_spec (k := j) (by simp) (by omega) fun h1 w1 f1 => ?_
    simp only [kont_eq]; simp [-sSeq, -dat_ref, sSeqK, small, lim]
    refine take_g w1 (by omega) (le_dmax (by omega)) fun g1 h2 a1 b1 w2 G2 => ?_
    simp only [kont_eq]; simp [-sSeq, -dat_ref, sSeqK, small, lim]
    refine take_g w2 (by omega) (le_dmax (by omega)) fun g2 h3 a2 b2 w3 G3 => ?_
    refine take_g w3 (by omega) (le_dmax (by omega)) fun g3 h4 a3 b3 w4 G4 => ?_
    refine pick2_g (P := fun m => 0 ≤ m ∧ m < 10 ^ 58) w4 (by decide) ⟨by omega, by omega⟩ ⟨by omega, by omega⟩ fun f h5 pf w5 G5 => ?_
    obtain ⟨n, hn⟩ : ∃ n : Nat, (n : Int) = 2 + g1 := ⟨(2 + g1).toNat, by omega⟩
    rw [← hn]
    have n2 : 2 ≤ n := by omega
    have n8 : n ≤ 8 := by omega
    simp only [kont_eq]; simp [-sSeq, -dat_ref, sSeqK, small, lim]
    refine take_g w5 (by omega) (le_dmax (by omega)) fun g5 h6 a5 b5 w6 G6 => ?_
    obtain ⟨d, hd⟩ : ∃ d : Nat, (d : Int) = g5 := ⟨g5.toNat, by omega⟩
    rw [← hd]
    simp only [kont_eq]; simp [-sSeq, -dat_ref, sSeqK, small, lim]
    refine lawmarks_spec n2 n8 fun i7 h7 z7 G7 k7 => ?_
    simp only [kont_eq]; simp [-sSeq, -dat_ref, sSeqK, small, lim]
    simp only [kont_eq]; simp [-sSeq, -dat_ref, sSeqK, small, lim]
    simp only [kont_eq]; simp [-sSeq, -dat_ref, sSeqK, small, lim]
    have ef := lmarks_mod (n := n) (f := f) (g := f + d) n2 pf.1 (by omega)
    have eg : (f + d) % (2 * n) = (f % (2 * n) + d) % (2 * n) := by rw [Int.emod_add_emod]
    obtain ⟨t, ht⟩ : ∃ t : Nat, (t : Int) = f % (2 * n) := ⟨(f % (2 * n)).toNat, by have := Int.emod_nonneg f (show (2 * n : Int) ≠ 0 by omega); omega⟩
    have ht2 : t < 2 * n := by have := Int.emod_lt_of_pos f (show (0 : Int) < 2 * n by omega); omega
    have hg : (f + d) % (2 * n) = (((t + d) % (2 * n) : Nat) : Int) := by rw [eg, ← ht]; push_cast; rfl
    rw [hg, ← ht]
    have hf : f % (2 * n) + (f + d - f) = t + d := by omega
    rw [hf, ← ht] at ef
    have ok := okAt_all (okAt_of (n := n) (t := t) (d := d) n2 n8 ht2 (by omega))
    rw [← ef] at ok
    obtain ⟨ok1, ok2, ok3, ok4, ok5⟩ := ok
    have hg2 : (t + d) % (2 * n) < 2 * n := Nat.mod_lt _ (by omega)
    have hz : (((t + d) % (2 * n) : Nat) - (t : Int)) % (2 * n) ≤ n := by
      push_cast
      rw [Int.emod_sub_emod, show (t : Int) + d - t = d by omega, Int.emod_eq_of_lt (by omega) (by omega)]; omega
    generalize hG : (t + d) % (2 * n) = g at *
    rw [← ok1] at ok2 ok3 ok4 ok5
    generalize hL : lmarks n f (f + d) = L at *
    have hLn : L.length = n := by rw [← hL, lmarks_len]
    refine ⟨by omega, marksof_ok n2 n8 ht2 hg2 hz fun i8 h8 z8 G8 k8 => ?_⟩
    rw [← ok1] at z8
    have z7 := G8 _ _ _ (by decide) z7
    have w8 := (w6.of k7).of k8
    simp only [kont_eq]; simp [-sSeq, -dat_ref, sSeqK, small, lim, z8]
    simp [-sSeq, sSeqK, -dat_ref, dat_ints z8, dat_ints z7, eqvs_ints]
    refine comp_map (f := fun _ => .bl true) (by unfold lim; omega) z8 (fun m _ N hN => by simp; exact whole_spec hN) ?_
    simp [-sSeq, sSeqK, -dat_ref, allB_const]
    have G9 := grow_new h8 155 (.lst (L.map fun _ => .bl true))
    have z9 := G9 _ _ _ (by decide) z8
    have y9 := G9 _ _ _ (by decide) z7
    have w9 : WellAt (put h8 155 (h8 155 ++ [.lst (L.map fun _ => .bl true)])) (h 1).length := w8.of (by simp)
    generalize put h8 155 (h8 155 ++ [.lst (L.map fun _ => .bl true)]) = h9 at *
    simp only [kont_eq]; simp [-sSeq, -dat_ref, sSeqK, small, lim]
    refine giver_spec ⟨152, _, by decide, rfl, z9⟩ (fun u hu h10 G10 k10 => ?_) fun c hc => by (first | (rw [ok3] at hc; cases hc) | (intro _ _ _; rw [ok3] at hc; cases hc))
    rw [ok3] at hu
    cases hu
    simp [-sSeq, -dat_ref, sSeqK, small, lim]
    refine taker_spec ⟨152, _, by decide, rfl, G10 _ _ _ (by decide) z9⟩ (fun u hu h11 G11 k11 => ?_) fun c hc => by (first | (rw [ok4] at hc; cases hc) | (intro _ _ _; rw [ok4] at hc; cases hc))
    rw [ok4] at hu
    cases hu
    simp [-sSeq, -dat_ref, sSeqK, small, lim]
    refine sound_spec ⟨152, _, by decide, rfl, (G10.trans G11) _ _ _ (by decide) z9⟩ (fun b hb h12 G12 k12 => ?_) fun c hc => by (first | (rw [ok2] at hc; cases hc) | (intro _ _ _; rw [ok2] at hc; cases hc))
    rw [ok2] at hb
    cases hb
    have z12 := ((G10.trans G11).trans G12) _ _ _ (by decide) z9
    have y12 := ((G10.trans G11).trans G12) _ _ _ (by decide) y9
    have w12 := ((w9.of k10).of k11).of k12
    simp only [kont_eq]; simp [-sSeq, -dat_ref, sSeqK, small, lim]
    simp only [kont_eq]; simp [-sSeq, -dat_ref, sSeqK, small, lim, z12]
    refine comp_filter (p := fun m => decide (m % 2 = 1)) z12 L [] (by simp [lim]; omega) (fun m _ N hN => by simpa using hN) (fun m _ N hN => by simpa using hN) ?_
    simp [-sSeq, -dat_ref, sSeqK, small, lim, ok5, z12]
    refine ⟨by omega, ?_⟩
    have G13 := grow_new h12 158 (.lst (([] : List MV) ++ (L.filter fun m => decide (m % 2 = 1)).map .int))
    have z13 := G13 _ _ _ (by decide) z12
    have y13 := G13 _ _ _ (by decide) y12
    have w13 : WellAt (put h12 158 (h12 158 ++ [.lst (([] : List MV) ++ (L.filter fun m => decide (m % 2 = 1)).map .int)])) (h 1).length := w12.of (by simp)
    simp only [List.nil_append] at z13 y13 w13
    generalize hh13 : put h12 158 (h12 158 ++ [.lst ((L.filter fun m => decide (m % 2 = 1)).map .int)]) = h13 at *
    have hs : (h12 152).set i8 (.lst []) = (h13 152).set i8 (.lst []) := by rw [← hh13]; simp
    rw [hs]
    have y14 : rd (put h13 152 ((h13 152).set i8 (.lst []))) 151 i7 = some (.lst (L.map .int)) := by simpa using y13
    have w14 : WellAt (put h13 152 ((h13 152).set i8 (.lst []))) (h 1).length := w13.of (by simp)
    generalize put h13 152 ((h13 152).set i8 (.lst [])) = h14 at *
    simp only [kont_eq]; simp [-sSeq, -dat_ref, sSeqK, small, lim]
    refine marksof_ok n2 n8 ht2 hg2 hz fun i15 h15 z15 G15 k15 => ?_
    rw [← ok1] at z15
    have y15 := G15 _ _ _ (by decide) y14
    have w15 := w14.of k15
    simp [-sSeq, sSeqK, -dat_ref, dat_ints z15, dat_ints y15, eqvs_ints]
    simp only [kont_eq]; simp [-sSeq, -dat_ref, sSeqK, small, lim]
    refine take_g w15 (by omega) (le_dmax (by omega)) fun e h16 a16 b16 w16 G16 => ?_
    simp [-sSeq, -dat_ref, sSeqK, small, lim]
    refine ⟨by omega, ?_⟩
    obtain ⟨u, hu⟩ : ∃ u : Nat, (u : Int) = ((t : Int) + n + 1 + e) % (2 * n) := ⟨(((t : Int) + n + 1 + e) % (2 * n)).toNat, by have := Int.emod_nonneg ((t : Int) + n + 1 + e) (show (2 * n : Int) ≠ 0 by omega); omega⟩
    have hu2 : u < 2 * n := by have := Int.emod_lt_of_pos ((t : Int) + n + 1 + e) (show (0 : Int) < 2 * n by omega); omega
    have huz : (n : Int) < ((u : Int) - t) % (2 * n) := by
      rw [hu, Int.emod_sub_emod, show (t : Int) + n + 1 + e - t = n + 1 + e by omega, Int.emod_eq_of_lt (by omega) (by omega)]; omega
    rw [← hu]
    refine farapart_spec n2 n8 ht2 hu2 huz ?_
    simp only [kont_eq]; simp [-sSeq, -dat_ref, sSeqK, small, lim]
    simp only [kont_eq]; simp [-sSeq, -dat_ref, sSeqK, small, lim]
    refine ⟨by unfold big; omega, ?_⟩
    have y16 := G16 _ _ _ (by decide) y15
    refine comp_inv (fun k acc h' => WellAt h' (h 1).length ∧ rd h' 151 i7 = some (.lst (L.map .int)) ∧ ∃ row : List Int, acc = row.map .int ∧ row.length = k ∧ k ≤ n ∧ ∀ b ∈ row, 0 ≤ b ∧ b ≤ 3) _ 0 [] _ ⟨w16, y16, [], rfl, rfl, by omega, fun b hb => by simp at hb⟩ (fun k acc h => ?_) ?_ ?_
    · rintro ⟨_, _, row, rfl, e1, e2, _⟩
      exact ⟨trivial, by rw [List.length_map]; unfold lim; omega⟩
    · rintro j x acc h' N hj ⟨w, y, row, rfl, e1, e2, e3⟩ hN
      obtain ⟨hj2, rfl⟩ := rng_at hj
      simp [-sSeq, sSeqK, small, lim]
      refine take_g w (by omega) (le_dmax (by omega)) fun g3 h3 a3 b3 w3 G3 => ?_
      refine hN _ _ ⟨w3, G3 _ _ _ (by decide) y, row ++ [g3], by simp, by simp; omega, by omega, fun b hb => ?_⟩
      rcases List.mem_append.mp hb with hb | hb
      · exact e3 b hb
      · simp at hb; omega
    · rintro acc h17 ⟨w17, y17, row, rfl, e1, e2, e3⟩
      rw [rng_size] at e1
      have oRow : marksO row = none := by
        unfold marksO
        rw [if_neg (by omega), if_neg]
        intro z
        obtain ⟨m, hm, z⟩ := List.any_eq_true.mp z
        have := e3 m hm
        simp [badMark] at z; omega
      have G18 := grow_new h17 159 (.lst (row.map .int))
      have y18 := G18 _ _ _ (by decide) y17
      have w18 : WellAt (put h17 159 (h17 159 ++ [.lst (row.map .int)])) (h 1).length := w17.of (by simp)
      have r18 : rd (put h17 159 (h17 159 ++ [.lst (row.map .int)])) 159 (h17 159).length = some (.lst (row.map .int)) := by simp
      generalize put h17 159 (h17 159 ++ [.lst (row.map .int)]) = h18 at *
      simp only [kont_eq]; simp [-sSeq, -dat_ref, sSeqK, small, lim]
      simp only [kont_eq]; simp [-sSeq, -dat_ref, sSeqK, small, lim, y18]
      have G19 := grow_new h18 160 (.lst (L.map .int))
      have y19 := G19 _ _ _ (by decide) y18
      have r19 := G19 _ _ _ (by decide) r18
      have w19 : WellAt (put h18 160 (h18 160 ++ [.lst (L.map .int)])) (h 1).length := w18.of (by simp)
      have s19 : rd (put h18 160 (h18 160 ++ [.lst (L.map .int)])) 160 (h18 160).length = some (.lst (L.map .int)) := by simp
      generalize put h18 160 (h18 160 ++ [.lst (L.map .int)]) = h19 at *
      refine take_g w19 (by omega) (le_dmax (by omega)) fun m h20 a20 b20 w20 G20 => ?_
      refine take_g w20 (by omega) (le_dmax (by omega)) fun p h21 a21 b21 w21 G21 => ?_
      have s21 := (G20.trans G21) _ _ _ (by decide) s19
      have r21 := (G20.trans G21) _ _ _ (by decide) r19
      have y21 := (G20.trans G21) _ _ _ (by decide) y19
      obtain ⟨pn, hp⟩ : ∃ pn : Nat, (pn : Int) = p := ⟨p.toNat, by omega⟩
      rw [← hp]
      have hpn : pn < L.length := by omega
      simp [-sSeq, -dat_ref, sSeqK, small, lim, s21, ixN_nat, hpn]
      have hset : (L.map MV.int).set pn (.int m) = (L.set pn m).map .int := by rw [List.map_set]
      rw [hset]
      have oL : marksO L = none := sound_marksO ok2
      have oS : marksO (L.set pn m) = none := marksO_set oL (by omega) (by omega)
      have l21 := rd_lt s21
      have s22 : rd (put h21 160 ((h21 160).set (h18 160).length (.lst ((L.set pn m).map .int)))) 160 (h18 160).length = some (.lst ((L.set pn m).map .int)) := by simp [l21]
      have r22 : rd (put h21 160 ((h21 160).set (h18 160).length (.lst ((L.set pn m).map .int)))) 159 (h17 159).length = some (.lst (row.map .int)) := by simpa using r21
      have y22 : rd (put h21 160 ((h21 160).set (h18 160).length (.lst ((L.set pn m).map .int)))) 151 i7 = some (.lst (L.map .int)) := by simpa using y21
      generalize put h21 160 ((h21 160).set (h18 160).length (.lst ((L.set pn m).map .int))) = h22 at *
      refine rowright_spec ⟨159, _, by decide, rfl, r22⟩ oRow fun h23 G23 k23 => ?_
      simp [-sSeq, -dat_ref, sSeqK, small, lim]
      refine rowright_spec ⟨160, _, by decide, rfl, G23 _ _ _ (by decide) s22⟩ oS fun h24 G24 k24 => ?_
      simp [-sSeq, -dat_ref, sSeqK, small, lim]
      refine rowright_spec ⟨151, _, by decide, rfl, (G23.trans G24) _ _ _ (by decide) y22⟩ oL fun h25 G25 k25 => ?_
      simp [-sSeq, -dat_ref, sSeqK, small, lim]
      exact hN _ _ ⟨_, _, _, _, _, _, _, _, _, _, _, _, _, rfl⟩
  · rintro σ h ⟨y1, y2, y3, y4, y5, y6, y7, y8, y9, y10, y11, y12, y13, rfl⟩
    simp [-sSeq, sSeqK, small, lim, kont_eq]
end Mi
end TxK04

section TxK05
set_option autoImplicit false
set_option linter.all false
set_option maxRecDepth 100000
set_option maxHeartbeats 4000000
namespace Mi
def mk5 (n t d : Nat) : List Int := marksF n t ((t + d) % (2 * n))
def in03 (m : Int) : Bool := decide (0 ≤ m) && decide (m ≤ 3)
def letsAt (n t d far : Nat) : Bool :=
  let u := (t + d + far) % (2 * n)
  let w := (t + far) % (2 * n)
  let x := (mk5 n t d).getD (u % n) 9
  let y := (mk5 n t d).getD (w % n) 9
  in03 x && in03 y && (decide (x = 2 * (1 - (u : Int) / n)) == decide (far < n - d)) && (decide (y = 2 * ((w : Int) / n) + 1) == decide (far < d))
def stepAt (n t d : Nat) : Bool :=
  (List.range n).all (letsAt n t d) && decide ((mk5 n t d).length = n) &&
  (decide (d = n) || decide ((mk5 n t d).set ((t + d) % (2 * n) % n) (2 * ((((t + d) % (2 * n) : Nat) : Int) / n) + 1) = mk5 n t (d + 1))) &&
  (decide (d = 0) || decide ((mk5 n t d).set (t % n) (2 * ((t : Int) / n)) = mk5 n ((t + 1) % (2 * n)) (d - 1)))
theorem all_stepAt : ([2, 3, 4, 5, 6, 7, 8].all fun n => (List.range (2 * n)).all fun t => (List.range (n + 1)).all (stepAt n t)) = true := by decide +kernel
theorem stepAt_of {n t d : Nat} (a : 2 ≤ n) (b : n ≤ 8) (c : t < 2 * n) (e : d ≤ n) : stepAt n t d = true := by
  have h := List.all_eq_true.mp all_stepAt n (by simp only [List.mem_cons, List.not_mem_nil, or_false]; omega)
  have h := List.all_eq_true.mp h t (List.mem_range.mpr c)
  exact List.all_eq_true.mp h d (List.mem_range.mpr (by omega))
theorem lets_of {n t d far : Nat} (a : 2 ≤ n) (b : n ≤ 8) (c : t < 2 * n) (e : d ≤ n) (hf : far < n) : ∃ x y : Int, (mk5 n t d)[(t + d + far) % (2 * n) % n]? = some x ∧ (mk5 n t d)[(t + far) % (2 * n) % n]? = some y ∧ (0 ≤ x ∧ x ≤ 3) ∧ (0 ≤ y ∧ y ≤ 3) ∧
    decide (x = 2 * (1 - (((t + d + far) % (2 * n) : Nat) : Int) / n)) = decide (far < n - d) ∧ decide (y = 2 * ((((t + far) % (2 * n) : Nat) : Int) / n) + 1) = decide (far < d) := by
  have s := stepAt_of a b c e
  unfold stepAt at s
  simp only [Bool.and_eq_true] at s
  have l := List.all_eq_true.mp s.1.1.1 far (List.mem_range.mpr hf)
  have hl : (mk5 n t d).length = n := of_decide_eq_true s.1.1.2
  unfold letsAt in03 at l
  simp only [Bool.and_eq_true, decide_eq_true_eq, beq_iff_eq] at l
  obtain ⟨⟨⟨p, q⟩, u⟩, v⟩ := l
  have h1 : (t + d + far) % (2 * n) % n < (mk5 n t d).length := by rw [hl]; exact Nat.mod_lt _ (by omega)
  have h2 : (t + far) % (2 * n) % n < (mk5 n t d).length := by rw [hl]; exact Nat.mod_lt _ (by omega)
  have d1 : ∀ (l : List Int) (i : Nat) (h : i < l.length), l.getD i 9 = l[i] := fun l i h => by rw [List.getD_eq_getElem?_getD, List.getElem?_eq_getElem h]; rfl
  rw [d1 _ _ h1] at p u
  rw [d1 _ _ h2] at q v
  exact ⟨_, _, List.getElem?_eq_getElem h1, List.getElem?_eq_getElem h2, p, q, u, v⟩
theorem give_of {n t d : Nat} (a : 2 ≤ n) (b : n ≤ 8) (c : t < 2 * n) (e : d < n) : (mk5 n t d).set ((t + d) % (2 * n) % n) (2 * ((((t + d) % (2 * n) : Nat) : Int) / n) + 1) = mk5 n t (d + 1) := by
  have s := stepAt_of a b c (Nat.le_of_lt e)
  unfold stepAt at s
  simp only [Bool.and_eq_true, Bool.or_eq_true, decide_eq_true_eq] at s
  rcases s.1.2 with h | h
  · omega
  · exact h
theorem take_of {n t d : Nat} (a : 2 ≤ n) (b : n ≤ 8) (c : t < 2 * n) (e : d ≤ n) (e0 : 0 < d) : (mk5 n t d).set (t % n) (2 * ((t : Int) / n)) = mk5 n ((t + 1) % (2 * n)) (d - 1) := by
  have s := stepAt_of a b c e
  unfold stepAt at s
  simp only [Bool.and_eq_true, Bool.or_eq_true, decide_eq_true_eq] at s
  rcases s.2 with h | h
  · omega
  · exact h
theorem mk5_len {n t d : Nat} (a : 2 ≤ n) (b : n ≤ 8) (c : t < 2 * n) (e : d ≤ n) : (mk5 n t d).length = n := by
  have s := stepAt_of a b c e
  unfold stepAt at s
  simp only [Bool.and_eq_true, decide_eq_true_eq] at s
  exact s.1.1.2
theorem mod_nat {n t : Nat} {f : Int} (ht : (t : Int) = f % (2 * n)) (d : Nat) : (f + d) % (2 * n) = (((t + d) % (2 * n) : Nat) : Int) := by
  push_cast
  rw [ht, Int.emod_add_emod]
theorem comp_rng {r : Nat} {i : Nat} {e : WE} {σ : MS} {Q : QV} {h : MH} {n : Nat} {f : Nat → MV} (hl : n < lim)
    (he : ∀ k, k < n → ∀ N : QV, N (f k) h → e (σ.set i (some (.int (k : Int)))) h N fun _ _ => False) (q : Q (.ref r (h r).length) (put h r (h r ++ [.lst ((List.range n).map f)]))) : compL r (fun _ => True) i tYes e σ Q (rng 0 n) [] h := by
  refine comp_inv (fun k acc h' => h' = h ∧ k ≤ n ∧ acc = (List.range k).map f) _ 0 [] h ⟨rfl, Nat.zero_le _, rfl⟩ ?_ ?_ ?_
  · rintro k acc h' ⟨rfl, a, rfl⟩
    refine ⟨trivial, ?_⟩
    rw [List.length_map, List.length_range]; omega
  · rintro j x acc h' N hj ⟨rfl, a, rfl⟩ hN
    obtain ⟨hj2, rfl⟩ := rng_at hj
    rw [Int.zero_add]
    refine he j hj2 N (hN _ _ ⟨rfl, by omega, ?_⟩)
    rw [Nat.zero_add, List.range_succ, List.map_append]; rfl
  · rintro acc h' ⟨rfl, a, rfl⟩
    rw [rng_size, Nat.zero_add]
    exact q
mutual
theorem PD.eqv_refl : ∀ d : PD, PD.eqv d d = true
  | .non => by simp
  | .bl b => by simp
  | .int i => by simp
  | .str s => by simp
  | .tup xs => by rw [eqv_tup]; exact PD.eqvs_refl xs
  | .lst xs => by rw [eqv_lst]; exact PD.eqvs_refl xs
theorem PD.eqvs_refl : ∀ d : List PD, PD.eqvs d d = true
  | [] => by simp
  | x :: xs => by rw [eqvs_cc, PD.eqv_refl x, PD.eqvs_refl xs]; rfl
end
theorem datL_bls (h : MH) (n : Nat) : ∀ ns : List Bool, datL h n (ns.map .bl) = some (ns.map .bl)
  | [] => rfl
  | i :: ns => by simp [datL_bls h n ns]
theorem dat_bls {h : MH} {r i : Nat} {ns : List Bool} (e : rd h r i = some (.lst (ns.map .bl))) : dat h deep (.ref r i) = some (.lst (ns.map .bl)) := by
  rw [dat_ref, e]
  simp only [datL_bls, Option.map_some]
theorem lets_spec {h : MH} {i n t d : Nat} {f : Int} {Q : QV} {E : QX} (a : 2 ≤ n) (b : n ≤ 8) (c : t < 2 * n) (e : d ≤ n) (ht : (t : Int) = f % (2 * n)) (z : rd h 152 i = some (.lst ((mk5 n t d).map .int)))
    (q : ∀ h', Grow h h' → h' 1 = h 1 → Q (.bl true) h') : F_law_lets [.int n, .ref 152 i, .int f, .int (f + d)] h Q E := by
  simp [-sSeq, sSeqK, small, lim, F_law_lets_eq]
  simp only [kont_eq]; simp [-sSeq, sSeqK, small, lim]
  simp only [kont_eq]; simp [-sSeq, sSeqK, small, lim]
  refine ⟨by unfold big; omega, ?_⟩
  have g0 := (grow_new h 166 (.lst [])).trans (grow_new _ 167 (.lst []))
  refine forL_inv (fun k σ h' => Grow h h' ∧ h' 1 = h 1 ∧ rd h' 166 (h 166).length = some (.lst ((List.range k).map fun far => .bl (decide (far < n - d)))) ∧ rd h' 167 (h 167).length = some (.lst ((List.range k).map fun far => .bl (decide (far < d)))) ∧
      k ≤ n ∧ ∃ x y u w, σ = [some (.int n), some (.ref 152 i), some (.int f), some (.int (f + d)), some (.ref 166 (h 166).length), some (.ref 167 (h 167).length), x, y, u, w]) _ 0 _ _
    ⟨by simpa using g0, by simp, by simp, by simp, by omega, _, _, _, _, rfl⟩ (fun _ _ _ _ => trivial) ?_ ?_
  · rintro far x σ h' N hk ⟨G, G1, l1, l2, kn, w1, w2, w3, w4, rfl⟩ hN
    obtain ⟨hk2, rfl⟩ := rng_at hk
    rw [Nat.zero_add] at l1 l2 hN
    have hfn : far < n := by omega
    obtain ⟨x, y, x1, y1, x2, y2, x3, y3⟩ := lets_of a b c e hfn
    have z1 := G _ _ _ (by decide) z
    have m1 : (f + d + far) % (2 * n) = (((t + d + far) % (2 * n) : Nat) : Int) := by rw [Int.add_assoc, ← Int.natCast_add, mod_nat ht, Nat.add_assoc]
    have m2 : (f + far) % (2 * n) = (((t + far) % (2 * n) : Nat) : Int) := mod_nat ht far
    have v1 : (t + d + far) % (2 * n) < 2 * n := Nat.mod_lt _ (by omega)
    have v2 : (t + far) % (2 * n) < 2 * n := Nat.mod_lt _ (by omega)
    generalize hu : (t + d + far) % (2 * n) = u at *
    generalize hw : (t + far) % (2 * n) = w at *
    simp [-sSeq, -dat_ref, sSeqK, small, lim]
    refine ⟨by omega, ?_⟩
    simp only [kont_eq]; simp [-sSeq, -dat_ref, sSeqK, small, lim, m1, z1]
    have i1 : atI ((mk5 n t d).map MV.int) ((u : Int) % n) = some (.int x) := by
      rw [← Int.natCast_emod, atI_nat, List.getElem?_map, x1]; rfl
    have i2 : atI ((mk5 n t d).map MV.int) ((w : Int) % n) = some (.int y) := by
      rw [← Int.natCast_emod, atI_nat, List.getElem?_map, y1]; rfl
    simp [-sSeq, -dat_ref, sSeqK, small, lim, i1, l1]
    refine ⟨by omega, ?_⟩
    refine give_v (.ok (.ok (by omega) (by omega) (by omega) (by omega)) x2.1 x2.2) (fun _ => ?_) fun c z => nomatch z
    have r1 := rd_lt l1
    simp [-sSeq, -dat_ref, sSeqK, small, lim, l1]
    refine ⟨by omega, ?_⟩
    have l1' : rd (put h' 166 ((h' 166).set (h 166).length (.lst ((List.range far).map (fun far => MV.bl (decide (far < n - d))) ++ [MV.bl (decide (x = 2 * (1 - (u : Int) / n)))])))) 166 (h 166).length = some (.lst ((List.range (far + 1)).map fun far => .bl (decide (far < n - d)))) := by
      rw [x3, List.range_succ, List.map_append]; simp [r1]
    have l2' : rd (put h' 166 ((h' 166).set (h 166).length (.lst ((List.range far).map (fun far => MV.bl (decide (far < n - d))) ++ [MV.bl (decide (x = 2 * (1 - (u : Int) / n)))])))) 167 (h 167).length = some (.lst ((List.range far).map fun far => .bl (decide (far < d)))) := by simpa using l2
    have z1' : rd (put h' 166 ((h' 166).set (h 166).length (.lst ((List.range far).map (fun far => MV.bl (decide (far < n - d))) ++ [MV.bl (decide (x = 2 * (1 - (u : Int) / n)))])))) 152 i = some (.lst ((mk5 n t d).map .int)) := by simpa using z1
    have G' : Grow h (put h' 166 ((h' 166).set (h 166).length (.lst ((List.range far).map (fun far => MV.bl (decide (far < n - d))) ++ [MV.bl (decide (x = 2 * (1 - (u : Int) / n)))])))) := grow_set G (rd_end h 166)
    have G1' : (put h' 166 ((h' 166).set (h 166).length (.lst ((List.range far).map (fun far => MV.bl (decide (far < n - d))) ++ [MV.bl (decide (x = 2 * (1 - (u : Int) / n)))])))) 1 = h 1 := by simpa using G1
    generalize put h' 166 ((h' 166).set (h 166).length (.lst ((List.range far).map (fun far => MV.bl (decide (far < n - d))) ++ [MV.bl (decide (x = 2 * (1 - (u : Int) / n)))]))) = h2 at *
    (try simp [-sSeq, -dat_ref, sSeqK, small, lim, big, m2, z1', i2, l2']); repeat (first | (with_reducible refine kont_go ?_; try simp [-sSeq, -dat_ref, sSeqK, small, lim, big, m2, z1', i2, l2']) | (with_reducible refine And.intro ?_ ?_; · omega))
    refine take_v (.ok (.ok (by omega) (by omega) (by omega) (by omega)) y2.1 y2.2) (fun _ => ?_) fun c z => nomatch z
    have r2 := rd_lt l2'
    (try simp [-sSeq, -dat_ref, sSeqK, small, lim, big, l2']); repeat (first | (with_reducible refine kont_go ?_; try simp [-sSeq, -dat_ref, sSeqK, small, lim, big, l2']) | (with_reducible refine And.intro ?_ ?_; · omega))
    refine hN _ _ ⟨grow_set G' (rd_end h 167), by simpa using G1', by simpa using l1', ?_, by omega, _, _, _, _, rfl⟩
    rw [y3, List.range_succ, List.map_append]; simp [r2]
  · rintro σ h' ⟨G, G1, l1, l2, kn, w1, w2, w3, w4, rfl⟩
    rw [rng_size, Nat.zero_add] at l1 l2
    have e7 : (n : Int) - d = ((n - d : Nat) : Int) := by omega
    (try simp [-sSeq, -dat_ref, sSeqK, small, lim, big]); repeat (first | (with_reducible refine kont_go ?_; try simp [-sSeq, -dat_ref, sSeqK, small, lim, big]) | (with_reducible refine And.intro ?_ ?_; · omega))
    have mp : ∀ p : Nat → Bool, (List.range n).map (fun k => MV.bl (p k)) = ((List.range n).map p).map .bl := fun p => by rw [List.map_map]; rfl
    refine comp_rng (f := fun k => .bl (decide (k < n - d))) (by unfold lim; omega) (fun k hk N hN => ?_) ?_
    · simp
      have : decide ((k : Int) < n - (f + d - f)) = decide (k < n - d) := by
        apply decide_eq_decide.mpr; omega
      rw [this]; exact hN
    rw [mp (fun k => decide (k < n - d))] at l1 ⊢
    rw [mp (fun k => decide (k < d))] at l2
    have g3 := grow_new h' 168 (.lst (((List.range n).map fun k => decide (k < n - d)).map .bl))
    have l3 : rd (put h' 168 (h' 168 ++ [.lst (((List.range n).map fun k => decide (k < n - d)).map .bl)])) 168 (h' 168).length = some (.lst (((List.range n).map fun k => decide (k < n - d)).map .bl)) := by simp
    have k3 : (put h' 168 (h' 168 ++ [.lst (((List.range n).map fun k => decide (k < n - d)).map .bl)])) 1 = h 1 := by rw [put_ne _ _ (by decide), G1]
    have l1 := g3 _ _ _ (by decide) l1
    have l2 := g3 _ _ _ (by decide) l2
    generalize put h' 168 (h' 168 ++ [.lst (((List.range n).map fun k => decide (k < n - d)).map .bl)]) = h3 at *
    (try simp [-sSeq, -dat_ref, sSeqK, small, lim, big, dat_bls l1, dat_bls l3, PD.eqv_refl]); repeat (first | (with_reducible refine kont_go ?_; try simp [-sSeq, -dat_ref, sSeqK, small, lim, big, dat_bls l1, dat_bls l3, PD.eqv_refl]) | (with_reducible refine And.intro ?_ ?_; · omega))
    refine comp_rng (f := fun k => .bl (decide (k < d))) (by unfold lim; omega) (fun k hk N hN => ?_) ?_
    · simp
      have : decide ((k : Int) < f + d - f) = decide (k < d) := by
        apply decide_eq_decide.mpr; omega
      rw [this]; exact hN
    rw [mp (fun k => decide (k < d))]
    have g4 := grow_new h3 169 (.lst (((List.range n).map fun k => decide (k < d)).map .bl))
    have l4 : rd (put h3 169 (h3 169 ++ [.lst (((List.range n).map fun k => decide (k < d)).map .bl)])) 169 (h3 169).length = some (.lst (((List.range n).map fun k => decide (k < d)).map .bl)) := by simp
    have l2 := g4 _ _ _ (by decide) l2
    have := q _ ((G.trans g3).trans g4) (by rw [put_ne _ _ (by decide), k3])
    generalize put h3 169 (h3 169 ++ [.lst (((List.range n).map fun k => decide (k < d)).map .bl)]) = h4 at *
    (try simp [-sSeq, -dat_ref, sSeqK, small, lim, big, dat_bls l2, dat_bls l4, PD.eqv_refl]); repeat (first | (with_reducible refine kont_go ?_; try simp [-sSeq, -dat_ref, sSeqK, small, lim, big, dat_bls l2, dat_bls l4, PD.eqv_refl]) | (with_reducible refine And.intro ?_ ?_; · omega))
    exact this
theorem law_true_v4 (ns : List Int) (hn : ns.length ≤ 63) (h : MH) (E : QX) : F_law_v4 [.cst (ns.map .int)] h (fun v _ => v = .bl true) E := by
  (try simp [-sSeq, -dat_ref, sSeqK, small, lim, big, F_law_v4_eq]); repeat (first | (with_reducible refine kont_go ?_; try simp [-sSeq, -dat_ref, sSeqK, small, lim, big, F_law_v4_eq]) | (with_reducible refine And.intro ?_ ?_; · omega))
  refine well_spec (k := 0) (by simp) (by omega) fun h1 w1 f1 => ?_
  (try simp [-sSeq, -dat_ref, sSeqK, small, lim, big]); repeat (first | (with_reducible refine kont_go ?_; try simp [-sSeq, -dat_ref, sSeqK, small, lim, big]) | (with_reducible refine And.intro ?_ ?_; · omega))
  refine take_g w1 (by omega) (le_dmax (by omega)) fun g1 h2 a1 b1 w2 G2 => ?_
  (try simp [-sSeq, -dat_ref, sSeqK, small, lim, big]); repeat (first | (with_reducible refine kont_go ?_; try simp [-sSeq, -dat_ref, sSeqK, small, lim, big]) | (with_reducible refine And.intro ?_ ?_; · omega))
  refine take_g w2 (by omega) (le_dmax (by omega)) fun g2 h3 a2 b2 w3 G3 => ?_
  refine take_g w3 (by omega) (le_dmax (by omega)) fun g3 h4 a3 b3 w4 G4 => ?_
  refine pick2_g (P := fun m => 0 ≤ m ∧ m < 10 ^ 58) w4 (by decide) ⟨by omega, by omega⟩ ⟨by omega, by omega⟩ fun f h5 pf w5 G5 => ?_
  obtain ⟨n, hn⟩ : ∃ n : Nat, (n : Int) = 2 + g1 := ⟨(2 + g1).toNat, by omega⟩
  rw [← hn]
  have n2 : 2 ≤ n := by omega
  have n8 : n ≤ 8 := by omega
  (try simp [-sSeq, -dat_ref, sSeqK, small, lim, big]); repeat (first | (with_reducible refine kont_go ?_; try simp [-sSeq, -dat_ref, sSeqK, small, lim, big]) | (with_reducible refine And.intro ?_ ?_; · omega))
  refine take_g w5 (by omega) (le_dmax (by omega)) fun g5 h6 a5 b5 w6 G6 => ?_
  obtain ⟨d, hd⟩ : ∃ d : Nat, (d : Int) = g5 := ⟨g5.toNat, by omega⟩
  rw [← hd]
  (try simp [-sSeq, -dat_ref, sSeqK, small, lim, big]); repeat (first | (with_reducible refine kont_go ?_; try simp [-sSeq, -dat_ref, sSeqK, small, lim, big]) | (with_reducible refine And.intro ?_ ?_; · omega))
  obtain ⟨t, ht⟩ : ∃ t : Nat, (t : Int) = f % (2 * n) := ⟨(f % (2 * n)).toNat, by have := Int.emod_nonneg f (show (2 * n : Int) ≠ 0 by omega); omega⟩
  have ht2 : t < 2 * n := by have := Int.emod_lt_of_pos f (show (0 : Int) < 2 * n by omega); omega
  have dn : d ≤ n := by omega
  rw [mod_nat ht, ← ht]
  have hz : ∀ t d : Nat, d ≤ n → (((t + d) % (2 * n) : Nat) - (t : Int)) % (2 * n) ≤ n := fun t d h => by
    push_cast
    rw [Int.emod_sub_emod, show (t : Int) + d - t = d by omega, Int.emod_eq_of_lt (by omega) (by omega)]; omega
  have mlt : ∀ m : Nat, m % (2 * n) < 2 * n := fun m => Nat.mod_lt _ (by omega)
  refine marksof_ok n2 n8 ht2 (mlt _) (hz t d dn) fun i h7 z7 G7 k7 => ?_
  (try simp [-sSeq, -dat_ref, sSeqK, small, lim, big]); repeat (first | (with_reducible refine kont_go ?_; try simp [-sSeq, -dat_ref, sSeqK, small, lim, big]) | (with_reducible refine And.intro ?_ ?_; · omega))
  refine forL_inv (fun _ σ h => ∃ (f : Int) (t d : Nat), (t : Int) = f % (2 * n) ∧ t < 2 * n ∧ d ≤ n ∧ rd h 152 i = some (.lst ((mk5 n t d).map .int)) ∧ ∃ a b c e g, σ = [some (.cst (ns.map .int)), a, some (.int n), some (.int f), some (.int (f + d)), some (.ref 152 i), b, c, e, g]) _ 0 _ _ ⟨f, t, d, ht, ht2, dn, z7, _, _, _, _, _, rfl⟩ (fun _ _ _ _ => trivial) ?_ ?_
  · clear ht ht2 dn hd z7 G7
    rintro j x σ h8 N hj ⟨f, t, d, ht, ht2, dn, z8, y1, y2, y3, y4, y5, rfl⟩ hN
    obtain ⟨hj2, rfl⟩ := rng_at hj
    (try simp [-sSeq, -dat_ref, sSeqK, small, lim, big]); repeat (first | (with_reducible refine kont_go ?_; try simp [-sSeq, -dat_ref, sSeqK, small, lim, big]) | (with_reducible refine And.intro ?_ ?_; · omega))
    refine well_spec (k := j) (by simp) (by omega) fun h9 w9 f9 => ?_
    have z9 : rd h9 152 i = some (.lst ((mk5 n t d).map .int)) := by rw [← z8]; unfold rd; rw [f9 152 (by decide) (by decide)]
    (try simp [-sSeq, -dat_ref, sSeqK, small, lim, big]); repeat (first | (with_reducible refine kont_go ?_; try simp [-sSeq, -dat_ref, sSeqK, small, lim, big]) | (with_reducible refine And.intro ?_ ?_; · omega))
    refine lets_spec n2 n8 ht2 dn ht z9 fun h10 G10 k10 => ?_
    have z10 := G10 _ _ _ (by decide) z9
    simp [-sSeq, -dat_ref, sSeqK, small, lim]
    refine kont_go ?_
    refine seq_cut4 (fun σ h => ∃ (f : Int) (t d : Nat), (t : Int) = f % (2 * n) ∧ t < 2 * n ∧ d ≤ n ∧ rd h 152 i = some (.lst ((mk5 n t d).map .int)) ∧ ∃ a b c e g, σ = [some (.cst (ns.map .int)), a, some (.int n), some (.int f), some (.int (f + d)), some (.ref 152 i), b, c, e, g]) (fun N hN => ?_) ?_
    · (try simp [-sSeq, -dat_ref, sSeqK, small, lim, big]); repeat (first | (with_reducible refine kont_go ?_; try simp [-sSeq, -dat_ref, sSeqK, small, lim, big]) | (with_reducible refine And.intro ?_ ?_; · omega))
      refine take_g (w9.of k10) (by omega) (le_dmax (by omega)) fun g11 h11 a11 b11 w11 G11 => ?_
      have z11 := G11 _ _ _ (by decide) z10
      have lm := mk5_len n2 n8 ht2 dn
      have l11 := rd_lt z11
      have fin1 : d < n → ∀ a b c e g, N [some (.cst (ns.map .int)), a, some (.int n), some (.int f), some (.int (f + d + 1)), some (.ref 152 i), b, c, e, g] (put h11 152 ((h11 152).set i (.lst (((mk5 n t d).map MV.int).set ((t + d) % (2 * n) % n) (.int (2 * ((((t + d) % (2 * n) : Nat) : Int) / n) + 1)))))) := fun hd a b c e g => by
        rw [← List.map_set, give_of n2 n8 ht2 hd]
        refine hN _ _ ⟨f, t, d + 1, ht, ht2, hd, by simp [l11], a, b, c, e, g, ?_⟩
        rw [show f + ((d + 1 : Nat) : Int) = f + d + 1 by omega]
      have fin2 : 0 < d → ∀ a b c e g, N [some (.cst (ns.map .int)), a, some (.int n), some (.int (f + 1)), some (.int (f + d)), some (.ref 152 i), b, c, e, g] (put h11 152 ((h11 152).set i (.lst (((mk5 n t d).map MV.int).set (t % n) (.int (2 * ((t : Int) / n))))))) := fun hd a b c e g => by
        rw [← List.map_set, take_of n2 n8 ht2 dn hd]
        refine hN _ _ ⟨f + 1, (t + 1) % (2 * n), d - 1, ?_, mlt _, by omega, by simp [l11], a, b, c, e, g, ?_⟩
        · have := mod_nat ht 1
          exact this.symm
        · have : f + 1 + ((d - 1 : Nat) : Int) = f + d := by omega
          rw [this]
      have c1 : (f + (d : Int) - f = n) = (d = n) := by apply propext; omega
      have c2 : (f + (d : Int) = f) = (d = 0) := by apply propext; omega
      have tn : t % n < n := Nat.mod_lt _ (by omega)
      have un : (t + d) % (2 * n) % n < n := Nat.mod_lt _ (by omega)
      have um := mlt (t + d)
      have mm := mod_nat ht d
      generalize (t + d) % (2 * n) = u at *
      have ixu : ixN n ((u : Int) % n) = some (u % n) := by rw [← Int.natCast_emod, ixN_nat, if_pos un]
      have ixt : ixN n ((t : Int) % n) = some (t % n) := by rw [← Int.natCast_emod, ixN_nat, if_pos tn]
      (try simp [-sSeq, -dat_ref, sSeqK, small, lim, big, c1]); repeat (first | (with_reducible refine kont_go ?_; try simp [-sSeq, -dat_ref, sSeqK, small, lim, big, c1]) | (with_reducible refine And.intro ?_ ?_; · omega))
      by_cases hdn : d = n
      · rw [if_pos hdn]
        (try simp [-sSeq, -dat_ref, sSeqK, small, lim, big, c2]); repeat (first | (with_reducible refine kont_go ?_; try simp [-sSeq, -dat_ref, sSeqK, small, lim, big, c2]) | (with_reducible refine And.intro ?_ ?_; · omega))
        rw [if_neg (by omega)]
        (try simp [-sSeq, -dat_ref, sSeqK, small, lim, big, ← ht]); repeat (first | (with_reducible refine kont_go ?_; try simp [-sSeq, -dat_ref, sSeqK, small, lim, big, ← ht]) | (with_reducible refine And.intro ?_ ?_; · omega))
        refine free_v (.ok (by omega) (by omega) (by omega) (by omega)) (fun _ => ?_) fun c z => nomatch z
        (try simp [-sSeq, -dat_ref, sSeqK, small, lim, big, z11, ixt, lm]); repeat (first | (with_reducible refine kont_go ?_; try simp [-sSeq, -dat_ref, sSeqK, small, lim, big, z11, ixt, lm]) | (with_reducible refine And.intro ?_ ?_; · omega))
        exact fin2 (by omega) _ _ _ _ _
      · rw [if_neg hdn]
        (try simp [-sSeq, -dat_ref, sSeqK, small, lim, big, c2]); repeat (first | (with_reducible refine kont_go ?_; try simp [-sSeq, -dat_ref, sSeqK, small, lim, big, c2]) | (with_reducible refine And.intro ?_ ?_; · omega))
        by_cases hd0 : d = 0
        · rw [if_pos hd0]
          (try simp [-sSeq, -dat_ref, sSeqK, small, lim, big, mm]); repeat (first | (with_reducible refine kont_go ?_; try simp [-sSeq, -dat_ref, sSeqK, small, lim, big, mm]) | (with_reducible refine And.intro ?_ ?_; · omega))
          refine full_v (.ok (by omega) (by omega) (by omega) (by omega)) (fun _ => ?_) fun c z => nomatch z
          (try simp [-sSeq, -dat_ref, sSeqK, small, lim, big, z11, ixu, lm]); repeat (first | (with_reducible refine kont_go ?_; try simp [-sSeq, -dat_ref, sSeqK, small, lim, big, z11, ixu, lm]) | (with_reducible refine And.intro ?_ ?_; · omega))
          exact fin1 (by omega) _ _ _ _ _
        · rw [if_neg hd0]
          (try simp [-sSeq, -dat_ref, sSeqK, small, lim, big, mm, ← ht]); repeat (first | (with_reducible refine kont_go ?_; try simp [-sSeq, -dat_ref, sSeqK, small, lim, big, mm, ← ht]) | (with_reducible refine And.intro ?_ ?_; · omega))
          by_cases hg : g11 = 0
          · rw [if_pos hg]
            (try simp [-sSeq, -dat_ref, sSeqK, small, lim, big]); repeat (first | (with_reducible refine kont_go ?_; try simp [-sSeq, -dat_ref, sSeqK, small, lim, big]) | (with_reducible refine And.intro ?_ ?_; · omega))
            refine full_v (.ok (by omega) (by omega) (by omega) (by omega)) (fun _ => ?_) fun c z => nomatch z
            (try simp [-sSeq, -dat_ref, sSeqK, small, lim, big, z11, ixu, lm]); repeat (first | (with_reducible refine kont_go ?_; try simp [-sSeq, -dat_ref, sSeqK, small, lim, big, z11, ixu, lm]) | (with_reducible refine And.intro ?_ ?_; · omega))
            exact fin1 (by omega) _ _ _ _ _
          · rw [if_neg hg]
            (try simp [-sSeq, -dat_ref, sSeqK, small, lim, big]); repeat (first | (with_reducible refine kont_go ?_; try simp [-sSeq, -dat_ref, sSeqK, small, lim, big]) | (with_reducible refine And.intro ?_ ?_; · omega))
            refine free_v (.ok (by omega) (by omega) (by omega) (by omega)) (fun _ => ?_) fun c z => nomatch z
            (try simp [-sSeq, -dat_ref, sSeqK, small, lim, big, z11, ixt, lm]); repeat (first | (with_reducible refine kont_go ?_; try simp [-sSeq, -dat_ref, sSeqK, small, lim, big, z11, ixt, lm]) | (with_reducible refine And.intro ?_ ?_; · omega))
            exact fin2 (by omega) _ _ _ _ _
    · rintro σ h12 ⟨f, t, d, ht, ht2, dn, z12, y1, y2, y3, y4, y5, rfl⟩
      have ok := okAt_all (okAt_of (n := n) (t := t) (d := d) n2 n8 ht2 dn)
      rw [show marksF n t ((t + d) % (2 * n)) = mk5 n t d from rfl] at ok
      obtain ⟨ok1, ok2, ok3, ok4, ok5⟩ := ok
      (try simp [-sSeq, -dat_ref, sSeqK, small, lim, big]); repeat (first | (with_reducible refine kont_go ?_; try simp [-sSeq, -dat_ref, sSeqK, small, lim, big]) | (with_reducible refine And.intro ?_ ?_; · omega))
      refine sound_spec ⟨152, _, by decide, rfl, z12⟩ (fun b hb h13 G13 k13 => ?_) fun c hc => by rw [ok2] at hc; cases hc
      rw [ok2] at hb
      cases hb
      have z13 := G13 _ _ _ (by decide) z12
      (try simp [-sSeq, -dat_ref, sSeqK, small, lim, big]); repeat (first | (with_reducible refine kont_go ?_; try simp [-sSeq, -dat_ref, sSeqK, small, lim, big]) | (with_reducible refine And.intro ?_ ?_; · omega))
      refine giver_spec ⟨152, _, by decide, rfl, z13⟩ (fun u hu h14 G14 k14 => ?_) fun c hc => by rw [ok3] at hc; cases hc
      rw [ok3] at hu
      cases hu
      have z14 := G14 _ _ _ (by decide) z13
      rw [mod_nat ht]
      (try simp [-sSeq, -dat_ref, sSeqK, small, lim, big]); repeat (first | (with_reducible refine kont_go ?_; try simp [-sSeq, -dat_ref, sSeqK, small, lim, big]) | (with_reducible refine And.intro ?_ ?_; · omega))
      refine taker_spec ⟨152, _, by decide, rfl, z14⟩ (fun u hu h15 G15 k15 => ?_) fun c hc => by rw [ok4] at hc; cases hc
      rw [ok4] at hu
      cases hu
      have z15 := G15 _ _ _ (by decide) z14
      (try simp [-sSeq, -dat_ref, sSeqK, small, lim, big, ← ht]); repeat (first | (with_reducible refine kont_go ?_; try simp [-sSeq, -dat_ref, sSeqK, small, lim, big, ← ht]) | (with_reducible refine And.intro ?_ ?_; · omega))
      rw [mod_nat ht]
      refine marksof_ok n2 n8 ht2 (mlt _) (hz t d dn) fun i16 h16 z16 G16 k16 => ?_
      have z17 := G16 _ _ _ (by decide) z15
      rw [show marksF n t ((t + d) % (2 * n)) = mk5 n t d from rfl] at z16
      (try simp [-sSeq, -dat_ref, sSeqK, small, lim, big, dat_ints z16, dat_ints z17, eqvs_ints]); repeat (first | (with_reducible refine kont_go ?_; try simp [-sSeq, -dat_ref, sSeqK, small, lim, big, dat_ints z16, dat_ints z17, eqvs_ints]) | (with_reducible refine And.intro ?_ ?_; · omega))
      exact hN _ _ ⟨f, t, d, ht, ht2, dn, z17, _, _, _, _, _, rfl⟩
  · rintro σ h8 ⟨f, t, d, ht, ht2, dn, z8, y1, y2, y3, y4, y5, rfl⟩
    (try simp [-sSeq, -dat_ref, sSeqK, small, lim, big]); repeat (first | (with_reducible refine kont_go ?_; try simp [-sSeq, -dat_ref, sSeqK, small, lim, big]) | (with_reducible refine And.intro ?_ ?_; · omega))
end Mi
end TxK05

section TxSGr
set_option autoImplicit false
set_option linter.all false
set_option maxRecDepth 100000
set_option maxHeartbeats 4000000
namespace Mi
/-- what lay there stays, wells stay wells -/
def Gr (h h' : MH) : Prop := Grow h h' ∧ ∀ i, WellAt h i → WellAt h' i
theorem Gr.refl (h : MH) : Gr h h := ⟨Grow.refl h, fun _ w => w⟩
theorem Gr.trans {a b c : MH} (x : Gr a b) (y : Gr b c) : Gr a c := ⟨x.1.trans y.1, fun i w => y.2 i (x.2 i w)⟩
theorem Gr.rd {h h' : MH} (g : Gr h h') {r i : Nat} {o : MO} (e : rd h r i = some o) (n : r ≠ 1 := by decide) : rd h' r i = some o := g.1 r i o n e
theorem Gr.w {h h' : MH} (g : Gr h h') {i : Nat} (w : WellAt h i) : WellAt h' i := g.2 i w
theorem Ints.gr {h h' : MH} {v : MV} {ns : List Int} (x : Ints h v ns) (g : Gr h h') : Ints h' v ns := x.grow g.1
theorem gr_of {h h' : MH} (g : Grow h h') (k : h' 1 = h 1) : Gr h h' := ⟨g, fun i w => w.of k⟩
theorem gr_new (h : MH) {r : Nat} (hr : r ≠ 1) (o : MO) : Gr h (put h r (h r ++ [o])) := gr_of (grow_new h r o) (put_ne _ _ (fun e => hr e.symm))
theorem gr_set {h h' : MH} (g : Gr h h') {r n : Nat} {o : MO} (hr : r ≠ 1) (e : rd h r n = none) : Gr h (put h' r ((h' r).set n o)) := ⟨grow_set g.1 e, fun i w => (g.2 i w).of (put_ne _ _ (fun e => hr e.symm))⟩
theorem new_of {h h' : MH} {r : Nat} {o : MO} (e : put h r (h r ++ [o]) = h') (hr : r ≠ 1) : Gr h h' ∧ rd h' r (h r).length = some o := by
  rw [← e]; exact ⟨gr_new h hr o, by simp⟩
/-- all stays but one object -/
def Ke (r i : Nat) (h h' : MH) : Prop := (∀ q j o, q ≠ 1 → (q ≠ r ∨ j ≠ i) → Mi.rd h q j = some o → Mi.rd h' q j = some o) ∧ ∀ i, WellAt h i → WellAt h' i
theorem Ke.rd {h h' : MH} {r i : Nat} (g : Ke r i h h') {q j : Nat} {o : MO} (e : Mi.rd h q j = some o) (n : q ≠ 1 := by decide) (m : q ≠ r ∨ j ≠ i := by exact Or.inl (by decide)) : Mi.rd h' q j = some o := g.1 q j o n m e
theorem Ke.w {h h' : MH} {r i : Nat} (g : Ke r i h h') {j : Nat} (w : WellAt h j) : WellAt h' j := g.2 j w
theorem set_of {h h' : MH} {r i : Nat} {o p : MO} (e : put h r ((h r).set i o) = h') (x : rd h r i = some p) (hr : r ≠ 1) : Ke r i h h' ∧ rd h' r i = some o := by
  rw [← e]
  refine ⟨⟨fun q j u hq m z => ?_, fun j w => w.of (put_ne _ _ (fun e => hr e.symm))⟩, ?_⟩
  · by_cases c : q = r
    · subst c
      rw [rd_put, List.getElem?_set_ne (fun z => by rcases m with m | m <;> omega)]
      exact z
    · rw [rd_put_ne _ _ c]; exact z
  · have := rd_lt x
    rw [rd_put]; simp [this]
theorem take_gr {h : MH} {i : Nat} {m : Int} {Q : QV} {E : QX} (wl : WellAt h i) (h0 : 0 < m) (h1 : m ≤ dmax) (k : ∀ (g : Int) (h' : MH), 0 ≤ g → g < m → Gr h h' → Q (.int g) h') :
    F_law_take [.ref 1 i, .int m] h Q E := by
  have hi := wl.lt
  obtain ⟨a, b, c, e, b0, b1, c0, c1⟩ := wl
  simp [F_law_take_eq, e, hi, small, dmax_eq]
  have new : ∀ a' b' : Int, 0 ≤ b' → b' < 1099511627776 → Gr h (put h 1 ((h 1).set i (.lst [.int a', .int b', .int c]))) := fun a' b' z1 z2 => by
    refine ⟨grow_take fun r hr => put_ne h _ hr, fun j w => ?_⟩
    by_cases cj : j = i
    · subst cj
      exact ⟨a', b', c, by simp [hi], z1, z2, c0, c1⟩
    · obtain ⟨x, y, z, e2, w2⟩ := w
      exact ⟨x, y, z, by rw [rd_put, List.getElem?_set_ne (fun q => cj q.symm)]; exact e2, w2⟩
  rw [dmax_eq] at h1
  split
  · exact ⟨h0, h1, k _ _ (Int.emod_nonneg _ (by omega)) (Int.emod_lt_of_pos _ h0) (new _ _ b0 b1)⟩
  · have q0 := Int.emod_nonneg (b * 48271) (show c ≠ 0 by omega)
    have q1 := Int.emod_lt_of_pos (b * 48271) c0
    exact ⟨c0, ⟨by omega, by omega⟩, h0, k _ _ (Int.emod_nonneg _ (by omega)) (Int.emod_lt_of_pos _ h0) (new _ _ (by omega) (by omega))⟩
theorem far_gr {h : MH} {i : Nat} {Q : QV} {E : QX} (wl : WellAt h i) (k : ∀ (g : Int) (h' : MH), 1 ≤ g → g ≤ 10000000000000000000000000000000000000000000000000000000000 → Gr h h' → Q (.int g) h') :
    F_law_far [.ref 1 i] h Q E := by
  simp [F_law_far_eq, lim]
  refine take_gr wl (by omega) (le_dmax (by omega)) fun g1 h1 a1 b1 G1 => ?_
  simp [small]
  refine take_gr (G1.w wl) (by omega) (le_dmax (by omega)) fun g2 h2 a2 b2 G2 => ?_
  try dsimp only
  generalize hh : put h2 101 _ = h3
  obtain ⟨G3, z3⟩ := new_of hh (by decide)
  refine take_gr (((G1.trans G2).trans G3).w wl) (by omega) (le_dmax (by omega)) fun g3 h4 a3 b3 G4 => ?_
  have z := G4.rd z3
  have fr := ((G1.trans G2).trans G3).trans G4
  have hg : g3 = 0 ∨ g3 = 1 := by omega
  rcases hg with rfl | rfl
  · simp [z]; exact k _ _ (by omega) (by omega) fr
  · simp [z]; exact k _ _ (by omega) (by omega) fr
theorem well_gr {xs : List MV} {h : MH} {k : Nat} {Q : QV} {E : QX} (hi : ∀ x ∈ xs, ∃ i, x = .int i) (hk : k < 64) (q : ∀ (h' : MH), WellAt h' (h 1).length → Gr h h' → Q (.ref 1 (h 1).length) h') :
    F_law_well [.cst xs, .int k] h Q E := by
  have main : ∀ (c s : Int) (p : Int) (l : MO), 0 ≤ s → s < 1099511627776 → p ∈ [2147483647, 2147483629, 2147483587, 2147483579, 2147483563, 2147483549, 2147483543, 2147483497] →
      Q (.ref 1 (h 1).length) (put (put h 100 (h 100 ++ [l])) 1 (h 1 ++ [.lst [.int c, .int s, .int p]])) := fun c s p l s0 s1 hp => by
    have ok : WellAt (put (put h 100 (h 100 ++ [l])) 1 (h 1 ++ [.lst [.int c, .int s, .int p]])) (h 1).length := ⟨c, s, p, by simp, s0, s1, by simp at hp; omega, by simp at hp; omega⟩
    refine q _ ok ⟨fun r i o hr e => ?_, fun j w => ?_⟩
    · rw [rd_put_ne _ _ hr]
      exact (grow_new h 100 l) _ _ _ hr e
    · obtain ⟨x, y, z, e2, w2⟩ := w
      exact ⟨x, y, z, by rw [rd_put, List.getElem?_append_left (rd_lt e2)]; exact e2, w2⟩
  have kk : ∃ p : Int, p ∈ [(2147483647 : Int), 2147483629, 2147483587, 2147483579, 2147483563, 2147483549, 2147483543, 2147483497] ∧ atI [MV.int 2147483647, .int 2147483629, .int 2147483587, .int 2147483579, .int 2147483563, .int 2147483549, .int 2147483543, .int 2147483497] ((k : Int) % 8) = some (.int p) := by
    have : k % 8 < 8 := Nat.mod_lt _ (by decide)
    rw [show ((k : Int) % 8) = ((k % 8 : Nat) : Int) by omega, atI_nat]
    rcases (show k % 8 = 0 ∨ k % 8 = 1 ∨ k % 8 = 2 ∨ k % 8 = 3 ∨ k % 8 = 4 ∨ k % 8 = 5 ∨ k % 8 = 6 ∨ k % 8 = 7 by omega) with e | e | e | e | e | e | e | e <;> rw [e] <;> exact ⟨_, by decide, rfl⟩
  obtain ⟨p, hp, ep⟩ := kk
  by_cases c : k < xs.length
  · obtain ⟨x, hx⟩ := hi xs[k] (List.getElem_mem c)
    simp [F_law_well_eq, lim, small, c, atI_nat, hx, rd, ep]
    have z1 := Int.emod_nonneg x (show (2147483489 : Int) ≠ 0 by decide)
    have z2 := Int.emod_lt_of_pos x (show (0 : Int) < 2147483489 by decide)
    have z3 := Int.emod_nonneg ((x % 2147483489 + 1) * (48271 + 2 * k)) (show (2147483489 : Int) ≠ 0 by decide)
    have z4 := Int.emod_lt_of_pos ((x % 2147483489 + 1) * (48271 + 2 * k)) (show (0 : Int) < 2147483489 by decide)
    have hw := Int.emod_nonneg ((x % 2147483489 + 1) * (48271 + 2 * k) % 2147483489 * ((x % 2147483489 + 1) * (48271 + 2 * k) % 2147483489)) (show (2147483477 : Int) ≠ 0 by decide)
    have hv := Int.emod_lt_of_pos ((x % 2147483489 + 1) * (48271 + 2 * k) % 2147483489 * ((x % 2147483489 + 1) * (48271 + 2 * k) % 2147483489)) (show (0 : Int) < 2147483477 by decide)
    refine ⟨Or.inl ⟨by omega, by omega⟩, ⟨by omega, by omega⟩, ?_⟩
    split <;> exact main _ _ _ _ (by omega) (by omega) hp
  · simp [F_law_well_eq, lim, small, c, atI_nat, rd, ep]
    have z3 := Int.emod_nonneg (48271 + 2 * k) (show (2147483489 : Int) ≠ 0 by decide)
    have z4 := Int.emod_lt_of_pos (48271 + 2 * k) (show (0 : Int) < 2147483489 by decide)
    have hw := Int.emod_nonneg ((48271 + 2 * (k : Int)) % 2147483489 * ((48271 + 2 * k) % 2147483489)) (show (2147483477 : Int) ≠ 0 by decide)
    have hv := Int.emod_lt_of_pos ((48271 + 2 * (k : Int)) % 2147483489 * ((48271 + 2 * k) % 2147483489)) (show (0 : Int) < 2147483477 by decide)
    exact ⟨⟨by omega, by omega⟩, main _ _ _ _ (by omega) (by omega) hp⟩
/-- [a, b, ..][take] of a list made just now -/
theorem pick_gr {h : MH} {i r : Nat} {m : Int} {xs : List MV} {K : QV} {E : QX} (wl : WellAt h i) (hr : r ≠ 1) (hm : m = xs.length) (m0 : 0 < m) (m1 : m ≤ 1000)
    (q : ∀ (x : MV) (h' : MH), x ∈ xs → Gr h h' → K x h') :
    F_law_take [.ref 1 i, .int m] (put h r (h r ++ [.lst xs])) (fun z h2 => match (match rd h2 r (h r).length, z with
      | some (.lst xs), .int i => atI xs i
      | some (.dic kvs), k => if (match k with
        | .int _ => true
        | .str _ => true
        | _ => false) = true then atKey k kvs else none
      | _, _ => none) with
      | some v => K v h2
      | none => False) E := by
  generalize hh : put h r _ = h1
  obtain ⟨G, z⟩ := new_of hh hr
  refine take_gr (G.w wl) m0 (le_dmax (by omega)) fun g h2 a b G2 => ?_
  have z2 := G2.rd z hr
  obtain ⟨n, rfl⟩ : ∃ n : Nat, g = n := ⟨g.toNat, by omega⟩
  have hn : n < xs.length := by omega
  simp only [z2, atI_nat, List.getElem?_eq_getElem hn]
  exact q _ _ (List.getElem_mem hn) (G.trans G2)
/-- the same of numbers -/
theorem pickI_gr {h : MH} {i r : Nat} {m : Int} {ns : List Int} {xs : List MV} {P : Int → Prop} {K : QV} {E : QX} (wl : WellAt h i) (hr : r ≠ 1) (e : xs = ns.map .int) (hm : m = ns.length) (m0 : 0 < m) (m1 : m ≤ 1000) (hP : ∀ n ∈ ns, P n)
    (q : ∀ (n : Int) (h' : MH), P n → Gr h h' → K (.int n) h') :
    F_law_take [.ref 1 i, .int m] (put h r (h r ++ [.lst xs])) (fun z h2 => match (match rd h2 r (h r).length, z with
      | some (.lst xs), .int i => atI xs i
      | some (.dic kvs), k => if (match k with
        | .int _ => true
        | .str _ => true
        | _ => false) = true then atKey k kvs else none
      | _, _ => none) with
      | some v => K v h2
      | none => False) E := by
  subst e
  refine pick_gr wl hr (by rw [List.length_map]; exact hm) m0 m1 fun x h' hx G => ?_
  obtain ⟨n, hn, rfl⟩ := List.mem_map.mp hx
  exact q n h' (hP n hn) G
end Mi
end TxSGr

section TxK26
set_option autoImplicit false
set_option linter.all false
set_option maxRecDepth 100000
set_option maxHeartbeats 4000000
namespace Mi
theorem gr_app {h g : MH} (x : Gr h g) {r : Nat} (hr : r ≠ 1) (l : List MO) : Gr h (put g r (h r ++ l)) := ⟨grow_app x.1 r l, fun i w => (x.2 i w).of (put_ne _ _ (fun e => hr e.symm))⟩
theorem rd_app (h g : MH) (r : Nat) (l : List MO) (n : Nat) : rd (put g r (h r ++ l)) r ((h r).length + n) = l[n]? := by
  rw [rd_put, List.getElem?_append_right (by omega)]; congr 1; omega
def flagsF (c : String) : List Bool := [c == "BadSize", c == "NoTurn", c == "BadMark", c == "Crooked", true, false]
def four (c : String) : Prop := c = "BadSize" ∨ c = "NoTurn" ∨ c = "BadMark" ∨ c = "Crooked"
theorem flags_spec {h : MH} {c : String} {a : Nat} {Q : QV} {E : QX} (hc : four c) (q : ∀ i h', rd h' 0 i = some (.lst ((flagsF c).map .bl)) → Gr h h' → Q (.ref 0 i) h') : F_law_flags c a [.exc a] h Q E := by
  rcases hc with rfl | rfl | rfl | rfl <;> (((try simp [-sSeq, -dat_ref, sSeqK, small, lim, big, F_law_flags_eq, rd]); (repeat (first | (with_reducible refine kont_go ?_; try simp [-sSeq, -dat_ref, sSeqK, small, lim, big, F_law_flags_eq, rd]) | (with_reducible refine And.intro ?_ ?_; · omega)))); (refine q _ _ ?_ (by (repeat (refine gr_app ?_ (by decide) _)); exact Gr.refl _)); rw [rd_app]; rfl)
def onlyF (k : Nat) : List Bool := (List.range 4).map (fun j => decide (j = k)) ++ [true, false]
theorem only_spec {h : MH} {k : Nat} {Q : QV} {E : QX} (q : ∀ i h', rd h' 0 i = some (.lst ((onlyF k).map .bl)) → Gr h h' → Q (.ref 0 i) h') : F_law_only [.int k] h Q E := by
  ((try simp [-sSeq, -dat_ref, sSeqK, small, lim, big, F_law_only_eq]); (repeat (first | (with_reducible refine kont_go ?_; try simp [-sSeq, -dat_ref, sSeqK, small, lim, big, F_law_only_eq]) | (with_reducible refine And.intro ?_ ?_; · omega))))
  refine comp_rng (n := 4) (f := fun j => .bl (decide (j = k))) (by unfold lim; omega) (fun j hj N hN => ?_) ?_
  · simp [-sSeq, -dat_ref, sSeqK, small, lim, eqv_int]
    have : decide ((j : Int) = k) = decide (j = k) := by apply decide_eq_decide.mpr; omega
    rw [this]; exact hN
  (try dsimp only); generalize hh : put h 181 _ = h1 at *; obtain ⟨G1, z1⟩ := new_of hh (by decide); clear hh
  ((try simp [-sSeq, -dat_ref, sSeqK, small, lim, big, z1]); (repeat (first | (with_reducible refine kont_go ?_; try simp [-sSeq, -dat_ref, sSeqK, small, lim, big, z1]) | (with_reducible refine And.intro ?_ ?_; · omega))))
  refine q _ _ ?_ (G1.trans (by (repeat (refine gr_app ?_ (by decide) _)); exact Gr.refl _))
  rw [rd_put, List.getElem?_append_right (by omega), Nat.sub_self]
  show some (MO.lst _) = _
  rw [onlyF, List.map_append, List.map_map]; rfl
inductive MadeR (n t g : Int) : Option String → Prop where
  | one (c : String) (a : TurnR n t (some c)) : MadeR n t g (some c)
  | two (c : String) (a : TurnR n t none) (b : TurnR n g (some c)) : MadeR n t g (some c)
  | far (a : TurnR n t none) (b : TurnR n g none) (c : n < (g - t) % (2 * n)) : MadeR n t g (some "Crooked")
  | ok (a : TurnR n t none) (b : TurnR n g none) (c : (g - t) % (2 * n) ≤ n) : MadeR n t g none
theorem MadeR.four {n t g : Int} {c : String} (r : MadeR n t g (some c)) : four c := by
  cases r with
  | one _ a => rcases a.cls rfl with e | e <;> simp [Mi.four, e]
  | two _ a b => rcases b.cls rfl with e | e <;> simp [Mi.four, e]
  | far a b c => simp [Mi.four]
def kindsO : Option String → List Bool
  | none => []
  | some c => flagsF c
theorem marksof_r {h : MH} {n t g : Int} {c : String} {Q : QV} {E : QX} (r : MadeR n t g (some c)) (q : E c h) : F_marks_of [.int n, .int t, .int g] h Q E := by
  ((try simp [-sSeq, -dat_ref, sSeqK, small, lim, big, F_marks_of_eq]); (repeat (first | (with_reducible refine kont_go ?_; try simp [-sSeq, -dat_ref, sSeqK, small, lim, big, F_marks_of_eq]) | (with_reducible refine And.intro ?_ ?_; · omega))))
  cases r with
  | one _ a => exact turn_r a (fun z => nomatch z) fun d z => by cases z; exact q
  | two _ a b => 
    refine turn_r a (fun _ => ?_) fun d z => nomatch z
    ((try simp [-sSeq, -dat_ref, sSeqK, small, lim, big]); (repeat (first | (with_reducible refine kont_go ?_; try simp [-sSeq, -dat_ref, sSeqK, small, lim, big]) | (with_reducible refine And.intro ?_ ?_; · omega))))
    exact turn_r b (fun z => nomatch z) fun d z => by cases z; exact q
  | far a b c =>
    obtain ⟨a1, a2, a3, a4⟩ := a.pos rfl
    obtain ⟨b1, b2, b3, b4⟩ := b.pos rfl
    refine turn_r a (fun _ => ?_) fun d z => nomatch z
    ((try simp [-sSeq, -dat_ref, sSeqK, small, lim, big]); (repeat (first | (with_reducible refine kont_go ?_; try simp [-sSeq, -dat_ref, sSeqK, small, lim, big]) | (with_reducible refine And.intro ?_ ?_; · omega))))
    refine turn_r b (fun _ => ?_) fun d z => nomatch z
    ((try simp [-sSeq, -dat_ref, sSeqK, small, lim, big]); (repeat (first | (with_reducible refine kont_go ?_; try simp [-sSeq, -dat_ref, sSeqK, small, lim, big]) | (with_reducible refine And.intro ?_ ?_; · omega))))
    refine distance_ok a1 a2 a3 a4 b3 b4 ?_
    ((try simp [-sSeq, -dat_ref, sSeqK, small, lim, big]); (repeat (first | (with_reducible refine kont_go ?_; try simp [-sSeq, -dat_ref, sSeqK, small, lim, big]) | (with_reducible refine And.intro ?_ ?_; · omega))))
    rw [if_pos c]
    exact q
theorem made_spec {h : MH} {n t g : Int} {o : Option String} {Q : QV} {E : QX} (r : MadeR n t g o) (q : ∀ r i h', r ≠ 1 → rd h' r i = some (.lst ((kindsO o).map .bl)) → Gr h h' → Q (.ref r i) h') : F_law_made [.int n, .int t, .int g] h Q E := by
  ((try simp [-sSeq, -dat_ref, sSeqK, small, lim, big, F_law_made_eq]); (repeat (first | (with_reducible refine kont_go ?_; try simp [-sSeq, -dat_ref, sSeqK, small, lim, big, F_law_made_eq]) | (with_reducible refine And.intro ?_ ?_; · omega))))
  have z0 : rd (put h 186 (h 186 ++ [.lst []])) 186 (h 186).length = some (.lst []) := by simp
  (try dsimp only); generalize hh : put h 186 _ = h1 at *; obtain ⟨G1, y1⟩ := new_of hh (by decide); clear hh
  cases o with
  | some c =>
    refine marksof_r r fun a => ?_
    refine flags_spec r.four fun i h2 z2 G2 => ?_
    ((try simp [-sSeq, -dat_ref, sSeqK, small, lim, big]); (repeat (first | (with_reducible refine kont_go ?_; try simp [-sSeq, -dat_ref, sSeqK, small, lim, big]) | (with_reducible refine And.intro ?_ ?_; · omega))))
    exact q 0 i h2 (by decide) z2 (G1.trans G2)
  | none =>
    cases r with
    | ok a b c =>
      obtain ⟨a1, a2, a3, a4⟩ := a.pos rfl
      obtain ⟨b1, b2, b3, b4⟩ := b.pos rfl
      obtain ⟨n, rfl⟩ : ∃ m : Nat, n = m := ⟨n.toNat, by omega⟩
      obtain ⟨t, rfl⟩ : ∃ m : Nat, t = m := ⟨t.toNat, by omega⟩
      obtain ⟨g, rfl⟩ : ∃ m : Nat, g = m := ⟨g.toNat, by omega⟩
      refine marksof_ok (by omega) (by omega) (by omega) (by omega) c fun i h2 z2 G2 k2 => ?_
      ((try simp [-sSeq, -dat_ref, sSeqK, small, lim, big]); (repeat (first | (with_reducible refine kont_go ?_; try simp [-sSeq, -dat_ref, sSeqK, small, lim, big]) | (with_reducible refine And.intro ?_ ?_; · omega))))
      exact q 186 _ h2 (by decide) ((gr_of G2 k2).rd z0) (G1.trans (gr_of G2 k2))
theorem asked5_spec {h : MH} {v : MV} {ns : List Int} {c : String} {way : Nat} {Q : QV} {E : QX} (hv : Ints h v ns) (hw : way < 3) (o : marksO ns = some c) (q : ∀ i h', rd h' 0 i = some (.lst ((flagsF c).map .bl)) → Gr h h' → Q (.ref 0 i) h') : F_law_asked_v1 [.int way, v] h Q E := by
  ((try simp [-sSeq, -dat_ref, sSeqK, small, lim, big, F_law_asked_v1_eq]); (repeat (first | (with_reducible refine kont_go ?_; try simp [-sSeq, -dat_ref, sSeqK, small, lim, big, F_law_asked_v1_eq]) | (with_reducible refine And.intro ?_ ?_; · omega))))
  (try dsimp only); generalize hh : put h 177 _ = h1 at *; obtain ⟨G1, z1⟩ := new_of hh (by decide); clear hh
  have hv := hv.gr G1
  have hg : giverF ns = .inl c := by unfold giverF; rw [o]
  have ht : takerF ns = .inl c := by unfold takerF; rw [o]
  have hs : soundF ns = .inl c := by unfold soundF; rw [o]
  have hc : four c := by
    rcases giverF_cls hg with e | e | e <;> simp [four, e]
  have fin : ∀ x h2, Gr h1 h2 → ∀ a, F_law_flags c a [MV.exc a] h2 (fun x h1 => kont (sRet (wV 2)) { nx := fun x h' => Q MV.non h', rt := Q, bk := fun x x_1 => False, ct := fun x x_1 => False, ex := fun c x h' => E c h' } [some (MV.int ↑way), some v, some x, none] h1) x := fun x h2 G2 a => by
    refine flags_spec hc fun i h3 z3 G3 => ?_
    ((try simp [-sSeq, -dat_ref, sSeqK, small, lim, big]); (repeat (first | (with_reducible refine kont_go ?_; try simp [-sSeq, -dat_ref, sSeqK, small, lim, big]) | (with_reducible refine And.intro ?_ ?_; · omega))))
    exact q i h3 z3 ((G1.trans G2).trans G3)
  by_cases w0 : way = 0
  · rw [if_pos (by omega)]
    refine giver_spec hv (fun t e => by rw [hg] at e; cases e) fun d e h2 G2 k2 a => ?_
    rw [hg] at e; cases e
    exact fin _ _ (gr_of G2 k2) a
  · rw [if_neg (by omega)]
    by_cases w1 : way = 1
    · rw [if_pos (by omega)]
      refine taker_spec hv (fun t e => by rw [ht] at e; cases e) fun d e h2 G2 k2 a => ?_
      rw [ht] at e; cases e
      exact fin _ _ (gr_of G2 k2) a
    · rw [if_neg (by omega)]
      refine sound_spec hv (fun t e => by rw [hs] at e; cases e) fun d e a => ?_
      rw [hs] at e; cases e
      exact fin _ _ (Gr.refl h1) a
theorem dat_blL {h : MH} {r i : Nat} {ns : List Bool} (e : rd h r i = some (.lst (ns.map .bl))) : dat h deep (.ref r i) = some (.lst (ns.map .bl)) := dat_bls e
theorem eqvs_bls : ∀ a b : List Bool, PD.eqvs (a.map .bl) (b.map .bl) = decide (a = b)
  | [], [] => by simp
  | [], b :: bs => by simp
  | a :: as, [] => by simp
  | a :: as, b :: bs => by
    rw [List.map_cons, List.map_cons, eqvs_cc, eqv_bl, eqvs_bls as bs]
    by_cases c : a = b <;> simp [c]
theorem turns_spec {h : MH} {i n : Nat} {Q : QV} {E : QX} (wl : WellAt h i) (n2 : 2 ≤ n) (n8 : n ≤ 8) (q : ∀ h', Gr h h' → Q (.bl true) h') : F_law_turns_refused [.ref 1 i, .int n] h Q E := by
  ((try simp [-sSeq, -dat_ref, sSeqK, small, lim, big, F_law_turns_refused_eq]); (repeat (first | (with_reducible refine kont_go ?_; try simp [-sSeq, -dat_ref, sSeqK, small, lim, big, F_law_turns_refused_eq]) | (with_reducible refine And.intro ?_ ?_; · omega))))
  refine far_gr wl fun far h1 f0 f1 G1 => ?_
  have wl := G1.w wl
  ((try simp [-sSeq, -dat_ref, sSeqK, small, lim, big]); (repeat (first | (with_reducible refine kont_go ?_; try simp [-sSeq, -dat_ref, sSeqK, small, lim, big]) | (with_reducible refine And.intro ?_ ?_; · omega))))
  refine pickI_gr (P := fun m => m < 2 ∨ 8 < m) (ns := [1, 9, 1 - far, 8 + far]) wl (by decide) rfl rfl (by omega) (by omega) (by simp; omega) fun bs h2 pb G2 => ?_
  have wl := G2.w wl
  ((try simp [-sSeq, -dat_ref, sSeqK, small, lim, big]); (repeat (first | (with_reducible refine kont_go ?_; try simp [-sSeq, -dat_ref, sSeqK, small, lim, big]) | (with_reducible refine And.intro ?_ ?_; · omega))))
  refine pickI_gr (P := fun m => m < 0 ∨ 2 * (n : Int) ≤ m) (ns := [-1, 2 * n, -far, 2 * n - 1 + far]) wl (by decide) rfl rfl (by omega) (by omega) (by simp; omega) fun bt h3 pt G3 => ?_
  have wl := G3.w wl
  ((try simp [-sSeq, -dat_ref, sSeqK, small, lim, big]); (repeat (first | (with_reducible refine kont_go ?_; try simp [-sSeq, -dat_ref, sSeqK, small, lim, big]) | (with_reducible refine And.intro ?_ ?_; · omega))))
  refine take_gr wl (by omega) (le_dmax (by omega)) fun t h4 t0 t1 G4 => ?_
  have wl := G4.w wl
  ((try simp [-sSeq, -dat_ref, sSeqK, small, lim, big]); (repeat (first | (with_reducible refine kont_go ?_; try simp [-sSeq, -dat_ref, sSeqK, small, lim, big]) | (with_reducible refine And.intro ?_ ?_; · omega))))
  refine take_gr wl (by omega) (le_dmax (by omega)) fun e h5 e0 e1 G5 => ?_
  ((try simp [-sSeq, -dat_ref, sSeqK, small, lim, big]); (repeat (first | (with_reducible refine kont_go ?_; try simp [-sSeq, -dat_ref, sSeqK, small, lim, big]) | (with_reducible refine And.intro ?_ ?_; · omega))))
  obtain ⟨g, hg⟩ : ∃ g, g = (t + n + 1 + e) % (2 * n) := ⟨_, rfl⟩
  rw [← hg]
  have g0 : 0 ≤ g := by rw [hg]; exact Int.emod_nonneg _ (by omega)
  have g1 : g < 2 * n := by rw [hg]; exact Int.emod_lt_of_pos _ (by omega)
  have gz : n < (g - t) % (2 * n) := by
    rw [hg, Int.emod_sub_emod, show t + n + 1 + e - t = n + 1 + e by omega, Int.emod_eq_of_lt (by omega) (by omega)]; omega
  have G05 := (((G1.trans G2).trans G3).trans G4).trans G5
  have zz : rd (put h5 185 (h5 185 ++ [.lst [.tup [.int bs, .int t, .int g], .tup [.int bs, .int bt, .int g], .tup [.int bs, .int t, .int bt]]])) 185 (h5 185).length = some (.lst [.tup [.int bs, .int t, .int g], .tup [.int bs, .int bt, .int g], .tup [.int bs, .int t, .int bt]]) := by simp
  (try dsimp only); generalize hh : put h5 185 _ = h6 at *; obtain ⟨G6, z6⟩ := new_of hh (by decide); clear hh
  clear zz
  have tt : TurnR n t none := .ok (by omega) (by omega) t0 t1
  have tg : TurnR n g none := .ok (by omega) (by omega) g0 g1
  have tb : TurnR n bt (some "NoTurn") := .turn (by omega) (by omega) pt
  have ts : ∀ x, TurnR bs x (some "BadSize") := fun x => .size pb
  have k0 : kindsO (some "BadSize") = onlyF 0 := by decide
  have k1 : kindsO (some "NoTurn") = onlyF 1 := by decide
  have k3 : kindsO (some "Crooked") = onlyF 3 := by decide
  refine forL_inv (fun _ σ h' => Gr h6 h' ∧ ∃ x, σ = [some (.ref 1 i), some (.int n), some (.int far), some (.int bs), some (.int bt), some (.int t), some (.int g), x]) _ 0 _ _ ⟨Gr.refl h6, _, rfl⟩ (fun _ _ _ ⟨G, _⟩ => G.rd z6) ?_ ?_
  · rintro j x σ h7 N hj ⟨G7, y, rfl⟩ hN
    have hx : ∃ t' g', x = .tup [.int bs, .int t', .int g'] := by
      have := List.mem_of_getElem? hj
      simp only [List.mem_cons, List.not_mem_nil, or_false] at this
      rcases this with rfl | rfl | rfl <;> exact ⟨_, _, rfl⟩
    obtain ⟨t', g', rfl⟩ := hx
    ((try simp [-sSeq, -dat_ref, sSeqK, small, lim, big]); (repeat (first | (with_reducible refine kont_go ?_; try simp [-sSeq, -dat_ref, sSeqK, small, lim, big]) | (with_reducible refine And.intro ?_ ?_; · omega))))
    refine made_spec (.one _ (ts t')) fun r8 i8 h8 hr8 z8 G8 => ?_
    refine only_spec (k := 0) fun i9 h9 z9 G9 => ?_
    rw [k0] at z8
    ((try simp [-sSeq, -dat_ref, sSeqK, small, lim, big, dat_bls (G9.rd z8 hr8), dat_bls z9, eqvs_bls]); (repeat (first | (with_reducible refine kont_go ?_; try simp [-sSeq, -dat_ref, sSeqK, small, lim, big, dat_bls (G9.rd z8 hr8), dat_bls z9, eqvs_bls]) | (with_reducible refine And.intro ?_ ?_; · omega))))
    exact hN _ _ ⟨(G7.trans G8).trans G9, _, rfl⟩
  · rintro σ h7 ⟨G7, y, rfl⟩
    ((try simp [-sSeq, -dat_ref, sSeqK, small, lim, big]); (repeat (first | (with_reducible refine kont_go ?_; try simp [-sSeq, -dat_ref, sSeqK, small, lim, big]) | (with_reducible refine And.intro ?_ ?_; · omega))))
    (try dsimp only); generalize hh : put h7 187 _ = h8 at *; obtain ⟨G8, z8⟩ := new_of hh (by decide); clear hh
    refine forL_inv (fun _ σ h' => Gr h8 h' ∧ ∃ x, σ = [some (.ref 1 i), some (.int n), some (.int far), some (.int bs), some (.int bt), some (.int t), some (.int g), x]) _ 0 _ _ ⟨Gr.refl h8, _, rfl⟩ (fun _ _ _ ⟨G, _⟩ => G.rd z8) ?_ ?_
    · rintro j x σ h9 N hj ⟨G9, y, rfl⟩ hN
      have hx : ∃ t' g', x = .tup [.int t', .int g'] ∧ MadeR n t' g' (some "NoTurn") := by
        have := List.mem_of_getElem? hj
        simp only [List.mem_cons, List.not_mem_nil, or_false] at this
        rcases this with rfl | rfl | rfl
        · exact ⟨_, _, rfl, .one _ tb⟩
        · exact ⟨_, _, rfl, .two _ tt tb⟩
        · exact ⟨_, _, rfl, .one _ tb⟩
      obtain ⟨t', g', rfl, mr⟩ := hx
      ((try simp [-sSeq, -dat_ref, sSeqK, small, lim, big]); (repeat (first | (with_reducible refine kont_go ?_; try simp [-sSeq, -dat_ref, sSeqK, small, lim, big]) | (with_reducible refine And.intro ?_ ?_; · omega))))
      refine made_spec mr fun r8 i8 h10 hr8 z10 G10 => ?_
      refine only_spec (k := 1) fun i9 h11 z11 G11 => ?_
      rw [k1] at z10
      ((try simp [-sSeq, -dat_ref, sSeqK, small, lim, big, dat_bls (G11.rd z10 hr8), dat_bls z11, eqvs_bls]); (repeat (first | (with_reducible refine kont_go ?_; try simp [-sSeq, -dat_ref, sSeqK, small, lim, big, dat_bls (G11.rd z10 hr8), dat_bls z11, eqvs_bls]) | (with_reducible refine And.intro ?_ ?_; · omega))))
      exact hN _ _ ⟨(G9.trans G10).trans G11, _, rfl⟩
    · rintro σ h9 ⟨G9, y, rfl⟩
      ((try simp [-sSeq, -dat_ref, sSeqK, small, lim, big]); (repeat (first | (with_reducible refine kont_go ?_; try simp [-sSeq, -dat_ref, sSeqK, small, lim, big]) | (with_reducible refine And.intro ?_ ?_; · omega))))
      refine made_spec (.far tt tg gz) fun r8 i8 h10 hr8 z10 G10 => ?_
      refine only_spec (k := 3) fun i9 h11 z11 G11 => ?_
      rw [k3] at z10
      ((try simp [-sSeq, -dat_ref, sSeqK, small, lim, big, dat_bls (G11.rd z10 hr8), dat_bls z11, eqvs_bls]); (repeat (first | (with_reducible refine kont_go ?_; try simp [-sSeq, -dat_ref, sSeqK, small, lim, big, dat_bls (G11.rd z10 hr8), dat_bls z11, eqvs_bls]) | (with_reducible refine And.intro ?_ ?_; · omega))))
      refine made_spec (.ok tt tt (by rw [Int.sub_self]; simp)) fun r8 i8 h12 hr8 z12 G12 => ?_
      have z12 : rd h12 r8 i8 = some (.lst []) := z12
      (try dsimp only); generalize hh : put h12 188 _ = h13 at *; obtain ⟨G13, z13⟩ := new_of hh (by decide); clear hh
      ((try simp [-sSeq, -dat_ref, sSeqK, small, lim, big, dat_bls (ns := []) (G13.rd z12 hr8), dat_bls (ns := []) z13, eqvs_bls]); (repeat (first | (with_reducible refine kont_go ?_; try simp [-sSeq, -dat_ref, sSeqK, small, lim, big, dat_bls (ns := []) (G13.rd z12 hr8), dat_bls (ns := []) z13, eqvs_bls]) | (with_reducible refine And.intro ?_ ?_; · omega))))
      exact q _ ((((((((G05.trans G6).trans G7).trans G8).trans G9).trans G10).trans G11).trans G12).trans G13)
theorem law_true_v5 (ns : List Int) (hn : ns.length ≤ 63) (h : MH) (E : QX) : F_law_v5 [.cst (ns.map .int)] h (fun v _ => v = .bl true) E := by
  ((try simp [-sSeq, -dat_ref, sSeqK, small, lim, big, F_law_v5_eq]); (repeat (first | (with_reducible refine kont_go ?_; try simp [-sSeq, -dat_ref, sSeqK, small, lim, big, F_law_v5_eq]) | (with_reducible refine And.intro ?_ ?_; · omega))))
  refine forL_inv (fun _ σ h => ∃ a b c d e f g i j k, σ = [some (.cst (ns.map .int)), a, b, c, d, e, f, g, i, j, k]) _ 0 _ _ ⟨_, _, _, _, _, _, _, _, _, _, rfl⟩ (fun _ _ _ _ => trivial) ?_ ?_
  · rintro j x σ h0 N hj ⟨y1, y2, y3, y4, y5, y6, y7, y8, y9, y10, rfl⟩ hN
    obtain ⟨hj2, rfl⟩ := rng_at hj
    ((try simp [-sSeq, -dat_ref, sSeqK, small, lim, big]); (repeat (first | (with_reducible refine kont_go ?_; try simp [-sSeq, -dat_ref, sSeqK, small, lim, big]) | (with_reducible refine And.intro ?_ ?_; · omega))))
    refine well_gr (k := j) (by simp) (by omega) fun h1 w1 G1 => ?_
    ((try simp [-sSeq, -dat_ref, sSeqK, small, lim, big]); (repeat (first | (with_reducible refine kont_go ?_; try simp [-sSeq, -dat_ref, sSeqK, small, lim, big]) | (with_reducible refine And.intro ?_ ?_; · omega))))
    refine take_gr w1 (by omega) (le_dmax (by omega)) fun g1 h2 a1 b1 G2 => ?_
    have w1 := G2.w w1
    obtain ⟨n, hn⟩ : ∃ n : Nat, (n : Int) = 2 + g1 := ⟨(2 + g1).toNat, by omega⟩
    ((try simp [-sSeq, -dat_ref, sSeqK, small, lim, big]); (repeat (first | (with_reducible refine kont_go ?_; try simp [-sSeq, -dat_ref, sSeqK, small, lim, big]) | (with_reducible refine And.intro ?_ ?_; · omega))))
    rw [← hn]
    have n2 : 2 ≤ n := by omega
    have n8 : n ≤ 8 := by omega
    refine take_gr w1 (by omega) (le_dmax (by omega)) fun f h3 a2 b2 G3 => ?_
    have w1 := G3.w w1
    ((try simp [-sSeq, -dat_ref, sSeqK, small, lim, big]); (repeat (first | (with_reducible refine kont_go ?_; try simp [-sSeq, -dat_ref, sSeqK, small, lim, big]) | (with_reducible refine And.intro ?_ ?_; · omega))))
    refine take_gr w1 (by omega) (le_dmax (by omega)) fun d h4 a3 b3 G4 => ?_
    have w1 := G4.w w1
    ((try simp [-sSeq, -dat_ref, sSeqK, small, lim, big]); (repeat (first | (with_reducible refine kont_go ?_; try simp [-sSeq, -dat_ref, sSeqK, small, lim, big]) | (with_reducible refine And.intro ?_ ?_; · omega))))
    refine lawmarks_spec n2 n8 fun i5 h5 z5 g5 k5 => ?_
    have G5 := gr_of g5 k5
    have w1 := G5.w w1
    try dsimp only
    refine kont_go ?_
    refine seq_cut (fun σ h => WellAt h (h0 1).length ∧ ∃ (r i : Nat) (L : List Int), (r = 151 ∨ r = 170) ∧ rd h r i = some (.lst (L.map .int)) ∧ L.length = n ∧ ∃ a b c d e, σ = [some (.cst (ns.map .int)), some (.int j), some (.ref 1 (h0 1).length), some (.int n), some (.int f), some (.ref r i), a, b, c, d, e]) (fun N hN => ?_) ?_
    · ((try simp [-sSeq, -dat_ref, sSeqK, small, lim, big]); (repeat (first | (with_reducible refine kont_go ?_; try simp [-sSeq, -dat_ref, sSeqK, small, lim, big]) | (with_reducible refine And.intro ?_ ?_; · omega))))
      refine take_gr w1 (by omega) (le_dmax (by omega)) fun c h6 a4 b4 G6 => ?_
      have w1 := G6.w w1; have z5 := G6.rd z5
      ((try simp [-sSeq, -dat_ref, sSeqK, small, lim, big]); (repeat (first | (with_reducible refine kont_go ?_; try simp [-sSeq, -dat_ref, sSeqK, small, lim, big]) | (with_reducible refine And.intro ?_ ?_; · omega))))
      split
      · ((try simp [-sSeq, -dat_ref, sSeqK, small, lim, big]); (repeat (first | (with_reducible refine kont_go ?_; try simp [-sSeq, -dat_ref, sSeqK, small, lim, big]) | (with_reducible refine And.intro ?_ ?_; · omega))))
        refine comp_inv (fun k acc h' => WellAt h' (h0 1).length ∧ ∃ row : List Int, acc = row.map .int ∧ row.length = k ∧ k ≤ n) _ 0 [] _ ⟨w1, [], rfl, rfl, by omega⟩ (fun k acc h => ?_) ?_ ?_
        · rintro ⟨_, row, rfl, e1, e2⟩
          exact ⟨trivial, by rw [List.length_map]; unfold lim; omega⟩
        · rintro j x acc h' N hj ⟨w, row, rfl, e1, e2⟩ hN
          obtain ⟨hj2, rfl⟩ := rng_at hj
          ((try simp [-sSeq, -dat_ref, sSeqK, small, lim, big]); (repeat (first | (with_reducible refine kont_go ?_; try simp [-sSeq, -dat_ref, sSeqK, small, lim, big]) | (with_reducible refine And.intro ?_ ?_; · omega))))
          refine take_gr w (by omega) (le_dmax (by omega)) fun g3 h3 a3 b3 G3 => ?_
          exact hN _ _ ⟨G3.w w, row ++ [g3], by simp, by simp; omega, by omega⟩
        · rintro acc h7 ⟨w7, row, rfl, e1, e2⟩
          (try dsimp only); generalize hh : put h7 170 _ = h8 at *; obtain ⟨G8, z8⟩ := new_of hh (by decide); clear hh
          ((try simp [-sSeq, -dat_ref, sSeqK, small, lim, big]); (repeat (first | (with_reducible refine kont_go ?_; try simp [-sSeq, -dat_ref, sSeqK, small, lim, big]) | (with_reducible refine And.intro ?_ ?_; · omega))))
          rw [rng_size] at e1
          exact hN _ _ ⟨G8.w w7, 170, _, row, Or.inr rfl, z8, by omega, _, _, _, _, _, rfl⟩
      · exact hN _ _ ⟨w1, 151, _, _, Or.inl rfl, z5, lmarks_len _ _ _, _, _, _, _, _, rfl⟩
    · clear z5 w1 y1 y2 y3 y4 y5 y6 y7 y8 y9 y10
      rintro σ h6 ⟨w1, r, i, L, hr, z6, hL, y1, y2, y3, y4, y5, rfl⟩
      have hr1 : r ≠ 1 := by omega
      ((try simp [-sSeq, -dat_ref, sSeqK, small, lim, big]); (repeat (first | (with_reducible refine kont_go ?_; try simp [-sSeq, -dat_ref, sSeqK, small, lim, big]) | (with_reducible refine And.intro ?_ ?_; · omega))))
      refine far_gr w1 fun far h7 f0 f1 G7 => ?_
      have w1 := G7.w w1
      ((try simp [-sSeq, -dat_ref, sSeqK, small, lim, big]); (repeat (first | (with_reducible refine kont_go ?_; try simp [-sSeq, -dat_ref, sSeqK, small, lim, big]) | (with_reducible refine And.intro ?_ ?_; · omega))))
      refine far_gr w1 fun far2 h8 f2 f3 G8 => ?_
      have w1 := G8.w w1
      ((try simp [-sSeq, -dat_ref, sSeqK, small, lim, big]); (repeat (first | (with_reducible refine kont_go ?_; try simp [-sSeq, -dat_ref, sSeqK, small, lim, big]) | (with_reducible refine And.intro ?_ ?_; · omega))))
      refine pickI_gr (P := fun m => m < 0 ∨ 3 < m) (ns := [-1, 4, -far, 3 + far2]) w1 (by decide) rfl rfl (by omega) (by omega) (by simp; omega) fun bad h9 pb G9 => ?_
      have w1 := G9.w w1
      ((try simp [-sSeq, -dat_ref, sSeqK, small, lim, big]); (repeat (first | (with_reducible refine kont_go ?_; try simp [-sSeq, -dat_ref, sSeqK, small, lim, big]) | (with_reducible refine And.intro ?_ ?_; · omega))))
      refine take_gr w1 (by omega) (le_dmax (by omega)) fun p h10 p0 p1 G10 => ?_
      have w1 := G10.w w1
      have z10 := (((G7.trans G8).trans G9).trans G10).rd z6 hr1
      obtain ⟨p, rfl⟩ : ∃ q : Nat, p = q := ⟨p.toNat, by omega⟩
      have hp : p < L.length := by omega
      simp [-sSeq, -dat_ref, sSeqK, small, lim, z10, ixN_nat, hp]
      rw [show (L.map MV.int).set p (.int bad) = (L.set p bad).map .int by rw [List.map_set]]
      generalize hh : put h10 r _ = h11
      obtain ⟨K11, z11⟩ := set_of hh z10 hr1
      clear hh
      have w1 := K11.w w1
      have oB : marksO (L.set p bad) = some "BadMark" := by
        unfold marksO
        rw [List.length_set, if_neg (by omega), if_pos]
        refine List.any_eq_true.mpr ⟨bad, List.mem_set hp _, ?_⟩
        unfold badMark
        rcases pb with c | c <;> simp [c]
      have lB : (L.set p bad).length = n := by rw [List.length_set, hL]
      generalize L.set p bad = B at *
      ((try simp [-sSeq, -dat_ref, sSeqK, small, lim, big, z11]); (repeat (first | (with_reducible refine kont_go ?_; try simp [-sSeq, -dat_ref, sSeqK, small, lim, big, z11]) | (with_reducible refine And.intro ?_ ?_; · omega))))
      rw [rep_map]
      have lR := rep_len B 20
      generalize (List.replicate 20 B).flatten = R at *
      (try dsimp only); generalize hh : put h11 0 _ = h12 at *; obtain ⟨G12, z12⟩ := new_of hh (by decide); clear hh
      have w1 := G12.w w1
      have z11 := G12.rd z11 hr1
      refine take_gr w1 (by omega) (le_dmax (by omega)) fun s h13 s0 s1 G13 => ?_
      have w1 := G13.w w1; have z12 := G13.rd z12
      have z11 := G13.rd z11 hr1
      ((try simp [-sSeq, -dat_ref, sSeqK, small, lim, big]); (repeat (first | (with_reducible refine kont_go ?_; try simp [-sSeq, -dat_ref, sSeqK, small, lim, big]) | (with_reducible refine And.intro ?_ ?_; · omega))))
      refine pickI_gr (P := fun m => 0 ≤ m ∧ m < 30 ∧ (m < 2 ∨ 8 < m)) (ns := [0, 1, 9, 10 + s]) w1 (by decide) rfl rfl (by omega) (by omega) (by simp; omega) fun q h14 pq G14 => ?_
      have w1 := G14.w w1; have z12 := G14.rd z12
      have z11 := G14.rd z11 hr1
      simp [-sSeq, -dat_ref, sSeqK, small, lim, z12]
      rw [cut_to _ pq.1, ← List.map_take]
      have l1 : (R.take q.toNat).length = q.toNat := by
        rw [List.length_take, lR]; omega
      generalize R.take q.toNat = A at *
      (try dsimp only); generalize hh : put h14 173 _ = h15 at *; obtain ⟨G15, z15⟩ := new_of hh (by decide); clear hh
      have w1 := G15.w w1
      have z11 := G15.rd z11 hr1
      refine kont_go ?_
      simp [-sSeq, -dat_ref, sSeqK, small, lim, z15]
      have e2 : cut (rep [MV.int 2] 40) none (some (A.length : Int)) = (List.replicate A.length (2 : Int)).map .int := by
        rw [cut_to _ (by omega), rep_one, List.map_replicate, Int.toNat_natCast, List.take_replicate, Nat.min_eq_left (by omega)]
      rw [e2]
      have lC : (List.replicate A.length (2 : Int)).length = A.length := List.length_replicate
      generalize List.replicate A.length (2 : Int) = C at *
      have G16 : Gr h15 (put (put (put h15 174 (h15 174 ++ [.lst [.int 2]])) 0 (h15 0 ++ [.lst (rep [.int 2] 40)])) 175 (h15 175 ++ [.lst (C.map .int)])) := by (repeat (refine gr_app ?_ (by decide) _)); exact Gr.refl _
      have s16 : rd (put (put (put h15 174 (h15 174 ++ [.lst [.int 2]])) 0 (h15 0 ++ [.lst (rep [.int 2] 40)])) 175 (h15 175 ++ [.lst (C.map .int)])) 175 (h15 175).length = some (.lst (C.map .int)) := by simp
      generalize put (put (put h15 174 (h15 174 ++ [.lst [.int 2]])) 0 (h15 0 ++ [.lst (rep [.int 2] 40)])) 175 (h15 175 ++ [.lst (C.map .int)]) = h16 at *
      have w1 := G16.w w1; have z15 := G16.rd z15
      have z11 := G16.rd z11 hr1
      have oA : marksO A = some "BadSize" := by unfold marksO; rw [if_pos (by omega)]
      have oC : marksO C = some "BadSize" := by unfold marksO; rw [if_pos (by omega)]
      have f0 : flagsF "BadSize" = onlyF 0 := by decide
      have f2 : flagsF "BadMark" = onlyF 2 := by decide
      refine kont_go ?_
      refine seq_cut (fun σ h => WellAt h (h0 1).length ∧ ∃ a b c d e, σ = [some (.cst (ns.map .int)), some (.int j), some (.ref 1 (h0 1).length), some (.int n), some (.int f), a, b, c, d, e, y5]) (fun N hN => ?_) ?_
      · ((try simp [-sSeq, -dat_ref, sSeqK, small, lim, big]); (repeat (first | (with_reducible refine kont_go ?_; try simp [-sSeq, -dat_ref, sSeqK, small, lim, big]) | (with_reducible refine And.intro ?_ ?_; · omega))))
        refine forL_inv (fun _ σ h' => Gr h16 h' ∧ ∃ x y, σ = [some (.cst (ns.map .int)), some (.int j), some (.ref 1 (h0 1).length), some (.int n), some (.int f), some (.ref r i), some (.ref 173 (h14 173).length), some (.ref 175 (h15 175).length), x, y, y5]) _ 0 _ _ ⟨Gr.refl _, _, _, rfl⟩ (fun _ _ _ _ => trivial) ?_ ?_
        · rintro way x σ h17 N' hk ⟨G17, x1, x2, rfl⟩ hN'
          obtain ⟨hw, rfl⟩ := rng_at hk
          have hw : way < 3 := hw
          have z17 := G17.rd z11 hr1
          simp [-sSeq, -dat_ref, sSeqK, small, lim, z17]
          (try dsimp only); generalize hh : put h17 176 _ = h18 at *; obtain ⟨G18, z18⟩ := new_of hh (by decide); clear hh
          have z11 := G18.rd z17 hr1
          ((try simp [-sSeq, -dat_ref, sSeqK, small, lim, big]); (repeat (first | (with_reducible refine kont_go ?_; try simp [-sSeq, -dat_ref, sSeqK, small, lim, big]) | (with_reducible refine And.intro ?_ ?_; · omega))))
          refine asked5_spec ⟨176, _, by decide, rfl, z18⟩ hw oB fun i19 h19 z19 G19 => ?_
          refine only_spec (k := 2) fun i20 h20 z20 G20 => ?_
          rw [f2] at z19
          ((try simp [-sSeq, -dat_ref, sSeqK, small, lim, big, dat_bls (G20.rd z19), dat_bls z20, eqvs_bls, dat_ints ((G19.trans G20).rd z18), dat_ints ((G19.trans G20).rd z11 hr1), eqvs_ints]); (repeat (first | (with_reducible refine kont_go ?_; try simp [-sSeq, -dat_ref, sSeqK, small, lim, big, dat_bls (G20.rd z19), dat_bls z20, eqvs_bls, dat_ints ((G19.trans G20).rd z18), dat_ints ((G19.trans G20).rd z11 hr1), eqvs_ints]) | (with_reducible refine And.intro ?_ ?_; · omega))))
          have G21 := ((G17.trans G18).trans G19).trans G20
          refine asked5_spec ⟨173, _, by decide, rfl, G21.rd z15⟩ hw oA fun i22 h22 z22 G22 => ?_
          refine only_spec (k := 0) fun i23 h23 z23 G23 => ?_
          rw [f0] at z22
          ((try simp [-sSeq, -dat_ref, sSeqK, small, lim, big, dat_bls (G23.rd z22), dat_bls z23, eqvs_bls]); (repeat (first | (with_reducible refine kont_go ?_; try simp [-sSeq, -dat_ref, sSeqK, small, lim, big, dat_bls (G23.rd z22), dat_bls z23, eqvs_bls]) | (with_reducible refine And.intro ?_ ?_; · omega))))
          refine asked5_spec ⟨175, _, by decide, rfl, ((G21.trans G22).trans G23).rd s16⟩ hw oC fun i24 h24 z24 G24 => ?_
          refine only_spec (k := 0) fun i25 h25 z25 G25 => ?_
          rw [f0] at z24
          ((try simp [-sSeq, -dat_ref, sSeqK, small, lim, big, dat_bls (G25.rd z24), dat_bls z25, eqvs_bls]); (repeat (first | (with_reducible refine kont_go ?_; try simp [-sSeq, -dat_ref, sSeqK, small, lim, big, dat_bls (G25.rd z24), dat_bls z25, eqvs_bls]) | (with_reducible refine And.intro ?_ ?_; · omega))))
          exact hN' _ _ ⟨(((G21.trans G22).trans G23).trans G24).trans G25, _, _, rfl⟩
        · rintro σ h17 ⟨G17, x1, x2, rfl⟩
          exact hN _ _ ⟨G17.w w1, _, _, _, _, _, rfl⟩
      · rintro σ h17 ⟨w17, x1, x2, x3, x4, x5, rfl⟩
        ((try simp [-sSeq, -dat_ref, sSeqK, small, lim, big]); (repeat (first | (with_reducible refine kont_go ?_; try simp [-sSeq, -dat_ref, sSeqK, small, lim, big]) | (with_reducible refine And.intro ?_ ?_; · omega))))
        refine turns_spec w17 n2 n8 fun h18 G18 => ?_
        ((try simp [-sSeq, -dat_ref, sSeqK, small, lim, big]); (repeat (first | (with_reducible refine kont_go ?_; try simp [-sSeq, -dat_ref, sSeqK, small, lim, big]) | (with_reducible refine And.intro ?_ ?_; · omega))))
        exact hN _ _ ⟨_, _, _, _, _, _, _, _, _, _, rfl⟩
  · rintro σ h ⟨y1, y2, y3, y4, y5, y6, y7, y8, y9, y10, rfl⟩
    ((try simp [-sSeq, -dat_ref, sSeqK, small, lim, big]); (repeat (first | (with_reducible refine kont_go ?_; try simp [-sSeq, -dat_ref, sSeqK, small, lim, big]) | (with_reducible refine And.intro ?_ ?_; · omega))))
end Mi
end TxK26

section TxDerk26
set_option Elab.async false
set_option linter.all false
set_option autoImplicit false
set_option maxRecDepth 100000
set_option maxHeartbeats 4000000
namespace Mi
open PySem PySem.Spec PyProof.Rows L2
def top (i : Nat) : Stmt := PySem.Challenge.pw_slipring_k26_rows_of_marks_refused.main.body.getD i (.Pass ⟨0, 0, 0, 0⟩)
def IsDs : List String := ["BadCells", "BadMark", "BadOrder", "BadSize", "BadStand", "Crooked", "NoCell", "NoHand", "NoName", "NoRow", "NoText", "NoTurn", "NoWaiting", "NotSound", "TooMany"]
def Er : List String := ["BadMark", "BadSize", "Crooked", "NoTurn"]
abbrev TT (K : PySem.W.Frag) : Tx := ⟨K, [], [], Er⟩
section
variable {K : PySem.W.Frag} {P : Program} {w : World} {mg : Str → Option Value} {base : Heap}
abbrev s_law_well : Stmt := top 38
abbrev N_law_well : List Str := ["script", "k", "cell", "primes", "seed"]
theorem sc_law_well : FnScope N_law_well ["script", "k"] (defScope s_law_well) := ⟨rfl, rfl, rfl, by decide +kernel, rfl, by decide +kernel, by decide +kernel⟩
theorem ok_law_well (m_len : mg (st "len") = none) (D : ∃ fd, FunD K (st "_law_well") (st "_law_well") (defArgs s_law_well) (defBody s_law_well) (defScope s_law_well) [] [] (He.ga K (st "_law_well")) fd) (at_ : mg (st "_law_well") = some (.ref (He.ga K (st "_law_well")))) :
    FnM (TT K) P w mg base 2 "_law_well" ["script", "k"] F_law_well := by
  rw [F_law_well_eq]
  refine fnM_mk (T := TT K) D at_ sc_law_well rfl rfl (fun _ _ _ _ _ _ us hl => match us, hl with | [_, _], _ => rfl) fun cdv A outer s H E hr => ?_
  have tk := takes_of (X := cxOf (L2.CX P w) P w K mg base N_law_well (st "_law_well") (defScope s_law_well) (He.ga K (st "_law_well")) cdv A outer s H E) rfl rfl rfl rfl
  have po : PassesOwn _ (cxOf (L2.CX P w) P w K mg base N_law_well (st "_law_well") (defScope s_law_well) (He.ga K (st "_law_well")) cdv A outer s H E).A _ (cxOf (L2.CX P w) P w K mg base N_law_well (st "_law_well") (defScope s_law_well) (He.ga K (st "_law_well")) cdv A outer s H E).xe := passes_of rfl
  have nd := sc_law_well.nd
  have hu64 := hr.units
  have hu1 := Nat.lt_of_le_of_lt (Nat.add_le_add_left (by decide : 1 ≤ 64) _) hu64
  exact (ss_cons (s_set (i := 2) (fun _ h => ps_set (i := 2) nd rfl (by first | exact Or.inl rfl | exact Or.inr rfl) h) e_int)
  (ss_cons (s_if (t_cmp o_lt (e_var (pv 1)) (e_b (b_len rfl) rfl m_len (by decide +kernel) (a_cons (e_var (pv 0)) a_nil) (by decide) (by decide)) (nomark _)) (ss_one (s_set (i := 2) (fun _ h => ps_set (i := 2) nd rfl (by first | exact Or.inl rfl | exact Or.inr rfl) h) (e_ix rfl hu1 (e_var (pv 0)) (e_var (pv 1)) (fun _ _ => rfl)))) ss_nil)
  (ss_cons (s_set (i := 3) (fun _ h => ps_set (i := 3) nd rfl (by first | exact Or.inl rfl | exact Or.inr rfl) h) (e_lst (a_cons e_int (a_cons e_int (a_cons e_int (a_cons e_int (a_cons e_int (a_cons e_int (a_cons e_int (a_cons e_int a_nil))))))))))
  (ss_cons (s_set (i := 4) (fun _ h => ps_set (i := 4) nd rfl (by first | exact Or.inl rfl | exact Or.inr rfl) h) (e_op o_mod (e_op o_mul (e_op (o_add rfl) (e_op o_mod (e_var (pv 2)) e_int) e_int) (e_op (o_add rfl) e_int (e_op o_mul e_int (e_var (pv 1))))) e_int))
  (ss_cons (s_set (i := 4) (fun _ h => ps_set (i := 4) nd rfl (by first | exact Or.inl rfl | exact Or.inr rfl) h) (e_op (o_add rfl) (e_op (o_add rfl) (e_op o_mod (e_op o_mul (e_var (pv 4)) (e_var (pv 4))) e_int) (e_var (pv 1))) e_int))
  (ss_cons (s_if (t_cmp o_ge (e_var (pv 2)) (e_op o_pow e_int e_int) (nomark _)) (ss_one (s_ret (e_lst (a_cons (e_var (pv 2)) (a_cons (e_var (pv 4)) (a_cons (e_ix rfl hu1 (e_var (pv 3)) (e_op o_mod (e_var (pv 1)) e_int) (fun _ _ => rfl)) a_nil)))))) ss_nil)
  (ss_one (s_ret (e_lst (a_cons e_int (a_cons (e_var (pv 4)) (a_cons (e_ix rfl hu1 (e_var (pv 3)) (e_op o_mod (e_var (pv 1)) e_int) (fun _ _ => rfl)) a_nil))))))))))))
abbrev s_law_take : Stmt := top 39
abbrev N_law_take : List Str := ["well", "many", "got"]
theorem sc_law_take : FnScope N_law_take ["well", "many"] (defScope s_law_take) := ⟨rfl, rfl, rfl, by decide +kernel, rfl, by decide +kernel, by decide +kernel⟩
theorem ok_law_take  (D : ∃ fd, FunD K (st "_law_take") (st "_law_take") (defArgs s_law_take) (defBody s_law_take) (defScope s_law_take) [] [] (He.ga K (st "_law_take")) fd) (at_ : mg (st "_law_take") = some (.ref (He.ga K (st "_law_take")))) :
    FnM (TT K) P w mg base 2 "_law_take" ["well", "many"] F_law_take := by
  rw [F_law_take_eq]
  refine fnM_mk (T := TT K) D at_ sc_law_take rfl rfl (fun _ _ _ _ _ _ us hl => match us, hl with | [_, _], _ => rfl) fun cdv A outer s H E hr => ?_
  have tk := takes_of (X := cxOf (L2.CX P w) P w K mg base N_law_take (st "_law_take") (defScope s_law_take) (He.ga K (st "_law_take")) cdv A outer s H E) rfl rfl rfl rfl
  have po : PassesOwn _ (cxOf (L2.CX P w) P w K mg base N_law_take (st "_law_take") (defScope s_law_take) (He.ga K (st "_law_take")) cdv A outer s H E).A _ (cxOf (L2.CX P w) P w K mg base N_law_take (st "_law_take") (defScope s_law_take) (He.ga K (st "_law_take")) cdv A outer s H E).xe := passes_of rfl
  have nd := sc_law_take.nd
  have hu64 := hr.units
  have hu1 := Nat.lt_of_le_of_lt (Nat.add_le_add_left (by decide : 1 ≤ 64) _) hu64
  exact (ss_cons (s_if (t_cmp o_gt (e_ix rfl hu1 (e_var (pv 0)) e_int (fun _ _ => rfl)) e_int (nomark _)) (ss_cons (s_set (i := 2) (fun _ h => ps_set (i := 2) nd rfl (by first | exact Or.inl rfl | exact Or.inr rfl) h) (e_op o_mod (e_ix rfl hu1 (e_var (pv 0)) e_int (fun _ _ => rfl)) (e_var (pv 1))))
  (ss_cons (s_asg (e_op o_div (e_ix rfl hu1 (e_var (pv 0)) e_int (fun _ _ => rfl)) (e_var (pv 1))) (g_ix hu1 (e_var (pv 0)) e_int))
  (ss_one (s_ret (e_var (pv 2)))))) ss_nil)
  (ss_cons (s_asg (e_op (o_add rfl) (e_op o_mod (e_op o_mul (e_ix rfl hu1 (e_var (pv 0)) e_int (fun _ _ => rfl)) e_int) (e_ix rfl hu1 (e_var (pv 0)) e_int (fun _ _ => rfl))) e_int) (g_ix hu1 (e_var (pv 0)) e_int))
  (ss_one (s_ret (e_op o_mod (e_op o_div (e_op o_mod (e_op o_mul (e_ix rfl hu1 (e_var (pv 0)) e_int (fun _ _ => rfl)) (e_ix rfl hu1 (e_var (pv 0)) e_int (fun _ _ => rfl))) e_int) e_int) (e_var (pv 1)))))))
abbrev s_law_marks : Stmt := top 41
abbrev N_law_marks : List Str := ["size", "freed", "given", "marks", "place", "many", "last"]
theorem sc_law_marks : FnScope N_law_marks ["size", "freed", "given"] (defScope s_law_marks) := ⟨rfl, rfl, rfl, by decide +kernel, rfl, by decide +kernel, by decide +kernel⟩
theorem ok_law_marks (m_range : mg (st "range") = none) (m_int : mg (st "int") = none) (D : ∃ fd, FunD K (st "_law_marks") (st "_law_marks") (defArgs s_law_marks) (defBody s_law_marks) (defScope s_law_marks) [] [] (He.ga K (st "_law_marks")) fd) (at_ : mg (st "_law_marks") = some (.ref (He.ga K (st "_law_marks")))) :
    FnM (TT K) P w mg base 2 "_law_marks" ["size", "freed", "given"] F_law_marks := by
  rw [F_law_marks_eq]
  refine fnM_mk (T := TT K) D at_ sc_law_marks rfl rfl (fun _ _ _ _ _ _ us hl => match us, hl with | [_, _, _], _ => rfl) fun cdv A outer s H E hr => ?_
  have tk := takes_of (X := cxOf (L2.CX P w) P w K mg base N_law_marks (st "_law_marks") (defScope s_law_marks) (He.ga K (st "_law_marks")) cdv A outer s H E) rfl rfl rfl rfl
  have po : PassesOwn _ (cxOf (L2.CX P w) P w K mg base N_law_marks (st "_law_marks") (defScope s_law_marks) (He.ga K (st "_law_marks")) cdv A outer s H E).A _ (cxOf (L2.CX P w) P w K mg base N_law_marks (st "_law_marks") (defScope s_law_marks) (He.ga K (st "_law_marks")) cdv A outer s H E).xe := passes_of rfl
  have nd := sc_law_marks.nd
  have hu64 := hr.units
  have hu1 := Nat.lt_of_le_of_lt (Nat.add_le_add_left (by decide : 1 ≤ 64) _) hu64
  exact (ss_cons (s_set (i := 3) (fun _ h => ps_set (i := 3) nd rfl (by first | exact Or.inl rfl | exact Or.inr rfl) h) (e_lst a_nil))
  (ss_cons (s_for po rfl (i_rng1 rfl m_range (e_var (pv 0))) (g_name (pg_name (i := 4) nd rfl (by first | exact Or.inl rfl | exact Or.inr rfl))) (ss_cons (s_set (i := 5) (fun _ h => ps_set (i := 5) nd rfl (by first | exact Or.inl rfl | exact Or.inr rfl) h) (e_op o_div (e_op o_sub (e_op (o_add rfl) (e_op o_sub (e_var (pv 2)) (e_var (pv 4))) (e_var (pv 0))) e_int) (e_var (pv 0))))
  (ss_cons (s_set (i := 6) (fun _ h => ps_set (i := 6) nd rfl (by first | exact Or.inl rfl | exact Or.inr rfl) h) (e_op (o_add rfl) (e_var (pv 4)) (e_op o_mul (e_var (pv 0)) (e_op o_sub (e_var (pv 5)) e_int))))
  (ss_one (s_if (t_cmp (o_eq rfl hu64) (e_var (pv 5)) e_int (nomark _)) (ss_one (s_ex (e_bm rfl PySem.F.plainAttrs_list PySem.F.slot_list_append PySem.F.type_list_append m_append (e_var (pv 3)) (a_cons e_int a_nil)))) (ss_one (s_ex (e_bm rfl PySem.F.plainAttrs_list PySem.F.slot_list_append PySem.F.type_list_append m_append (e_var (pv 3)) (a_cons (e_op (o_add rfl) (e_op o_mul e_int (e_op o_mod (e_op o_sub (e_var (pv 5)) e_int) e_int)) (e_bt b_int rfl m_int (by decide +kernel) (a_cons (e_cmp o_ge (e_var (pv 6)) (e_var (pv 1)) (nomark _)) a_nil) (by decide) (by decide))) a_nil)))))))))
  (ss_one (s_ret (e_var (pv 3))))))
abbrev s_law_far : Stmt := top 40
abbrev N_law_far : List Str := ["well"]
theorem sc_law_far : FnScope N_law_far ["well"] (defScope s_law_far) := ⟨rfl, rfl, rfl, by decide +kernel, rfl, by decide +kernel, by decide +kernel⟩
theorem ok_law_far (f__law_take : FnM (TT K) P w mg base 2 "_law_take" ["well", "many"] F_law_take) (D : ∃ fd, FunD K (st "_law_far") (st "_law_far") (defArgs s_law_far) (defBody s_law_far) (defScope s_law_far) [] [] (He.ga K (st "_law_far")) fd) (at_ : mg (st "_law_far") = some (.ref (He.ga K (st "_law_far")))) :
    FnM (TT K) P w mg base 3 "_law_far" ["well"] F_law_far := by
  rw [F_law_far_eq]
  refine fnM_mk (T := TT K) D at_ sc_law_far rfl rfl (fun _ _ _ _ _ _ us hl => match us, hl with | [_], _ => rfl) fun cdv A outer s H E hr => ?_
  have tk := takes_of (X := cxOf (L2.CX P w) P w K mg base N_law_far (st "_law_far") (defScope s_law_far) (He.ga K (st "_law_far")) cdv A outer s H E) rfl rfl rfl rfl
  have po : PassesOwn _ (cxOf (L2.CX P w) P w K mg base N_law_far (st "_law_far") (defScope s_law_far) (He.ga K (st "_law_far")) cdv A outer s H E).A _ (cxOf (L2.CX P w) P w K mg base N_law_far (st "_law_far") (defScope s_law_far) (He.ga K (st "_law_far")) cdv A outer s H E).xe := passes_of rfl
  have nd := sc_law_far.nd
  have hu64 := hr.units
  have hu1 := Nat.lt_of_le_of_lt (Nat.add_le_add_left (by decide : 1 ≤ 64) _) hu64
  exact (ss_one (s_ret (e_ix rfl hu1 (e_lst (a_cons (e_op (o_add rfl) e_int (e_call rfl tk f__law_take (by decide) hr rfl (a_cons (e_var (pv 0)) (a_cons e_int a_nil)) (by decide))) (a_cons (e_op (o_add rfl) e_int (e_call rfl tk f__law_take (by decide) hr rfl (a_cons (e_var (pv 0)) (a_cons (e_op o_pow e_int e_int) a_nil)) (by decide))) a_nil))) (e_call rfl tk f__law_take (by decide) hr rfl (a_cons (e_var (pv 0)) (a_cons e_int a_nil)) (by decide)) (fun _ _ => rfl))))
abbrev s_look_at_size : Stmt := top 20
abbrev N_look_at_size : List Str := ["size"]
theorem sc_look_at_size : FnScope N_look_at_size ["size"] (defScope s_look_at_size) := ⟨rfl, rfl, rfl, by decide +kernel, rfl, by decide +kernel, by decide +kernel⟩
theorem ok_look_at_size (c_LEAST_SIZE : ∃ t, mg (st "LEAST_SIZE") = some (.int 2 t)) (c_MOST_SIZE : ∃ t, mg (st "MOST_SIZE") = some (.int 8 t)) (ex_BadSize : ExF (TT K) mg "BadSize") (D : ∃ fd, FunD K (st "look_at_size") (st "look_at_size") (defArgs s_look_at_size) (defBody s_look_at_size) (defScope s_look_at_size) [] [] (He.ga K (st "look_at_size")) fd) (at_ : mg (st "look_at_size") = some (.ref (He.ga K (st "look_at_size")))) :
    FnM (TT K) P w mg base 2 "look_at_size" ["size"] F_look_at_size := by
  rw [F_look_at_size_eq]
  refine fnM_mk (T := TT K) D at_ sc_look_at_size rfl rfl (fun _ _ _ _ _ _ us hl => match us, hl with | [_], _ => rfl) fun cdv A outer s H E hr => ?_
  have tk := takes_of (X := cxOf (L2.CX P w) P w K mg base N_look_at_size (st "look_at_size") (defScope s_look_at_size) (He.ga K (st "look_at_size")) cdv A outer s H E) rfl rfl rfl rfl
  have po : PassesOwn _ (cxOf (L2.CX P w) P w K mg base N_look_at_size (st "look_at_size") (defScope s_look_at_size) (He.ga K (st "look_at_size")) cdv A outer s H E).A _ (cxOf (L2.CX P w) P w K mg base N_look_at_size (st "look_at_size") (defScope s_look_at_size) (He.ga K (st "look_at_size")) cdv A outer s H E).xe := passes_of rfl
  have nd := sc_look_at_size.nd
  have hu64 := hr.units
  have hu1 := Nat.lt_of_le_of_lt (Nat.add_le_add_left (by decide : 1 ≤ 64) _) hu64
  exact (ss_one (s_if (PW.pt (t_or (t_cmp o_lt (e_var (pv 0)) (e_gint c_LEAST_SIZE rfl (by decide)) (nomark _)) (t_or1 (t_cmp o_gt (e_var (pv 0)) (e_gint c_MOST_SIZE rfl (by decide)) (nomark _))))) (ss_one (s_raise' ex_BadSize rfl rfl tk rfl (by decide))) ss_nil))
abbrev s_look_at_mark : Stmt := top 26
abbrev N_look_at_mark : List Str := ["mark"]
theorem sc_look_at_mark : FnScope N_look_at_mark ["mark"] (defScope s_look_at_mark) := ⟨rfl, rfl, rfl, by decide +kernel, rfl, by decide +kernel, by decide +kernel⟩
theorem ok_look_at_mark (ex_BadMark : ExF (TT K) mg "BadMark") (D : ∃ fd, FunD K (st "look_at_mark") (st "look_at_mark") (defArgs s_look_at_mark) (defBody s_look_at_mark) (defScope s_look_at_mark) [] [] (He.ga K (st "look_at_mark")) fd) (at_ : mg (st "look_at_mark") = some (.ref (He.ga K (st "look_at_mark")))) :
    FnM (TT K) P w mg base 2 "look_at_mark" ["mark"] F_look_at_mark := by
  rw [F_look_at_mark_eq]
  refine fnM_mk (T := TT K) D at_ sc_look_at_mark rfl rfl (fun _ _ _ _ _ _ us hl => match us, hl with | [_], _ => rfl) fun cdv A outer s H E hr => ?_
  have tk := takes_of (X := cxOf (L2.CX P w) P w K mg base N_look_at_mark (st "look_at_mark") (defScope s_look_at_mark) (He.ga K (st "look_at_mark")) cdv A outer s H E) rfl rfl rfl rfl
  have po : PassesOwn _ (cxOf (L2.CX P w) P w K mg base N_look_at_mark (st "look_at_mark") (defScope s_look_at_mark) (He.ga K (st "look_at_mark")) cdv A outer s H E).A _ (cxOf (L2.CX P w) P w K mg base N_look_at_mark (st "look_at_mark") (defScope s_look_at_mark) (He.ga K (st "look_at_mark")) cdv A outer s H E).xe := passes_of rfl
  have nd := sc_look_at_mark.nd
  have hu64 := hr.units
  have hu1 := Nat.lt_of_le_of_lt (Nat.add_le_add_left (by decide : 1 ≤ 64) _) hu64
  exact (ss_one (s_if (PW.pt (t_or (t_cmp o_lt (e_var (pv 0)) e_int (nomark _)) (t_or1 (t_cmp o_gt (e_var (pv 0)) e_int (nomark _))))) (ss_one (s_raise' ex_BadMark rfl rfl tk rfl (by decide))) ss_nil))
abbrev s_look_at_marks : Stmt := top 29
abbrev N_look_at_marks : List Str := ["marks", "mark"]
theorem sc_look_at_marks : FnScope N_look_at_marks ["marks"] (defScope s_look_at_marks) := ⟨rfl, rfl, rfl, by decide +kernel, rfl, by decide +kernel, by decide +kernel⟩
theorem ok_look_at_marks (f_look_at_size : FnM (TT K) P w mg base 2 "look_at_size" ["size"] F_look_at_size) (m_len : mg (st "len") = none) (f_look_at_mark : FnM (TT K) P w mg base 2 "look_at_mark" ["mark"] F_look_at_mark) (D : ∃ fd, FunD K (st "look_at_marks") (st "look_at_marks") (defArgs s_look_at_marks) (defBody s_look_at_marks) (defScope s_look_at_marks) [] [] (He.ga K (st "look_at_marks")) fd) (at_ : mg (st "look_at_marks") = some (.ref (He.ga K (st "look_at_marks")))) :
    FnM (TT K) P w mg base 3 "look_at_marks" ["marks"] F_look_at_marks := by
  rw [F_look_at_marks_eq]
  refine fnM_mk (T := TT K) D at_ sc_look_at_marks rfl rfl (fun _ _ _ _ _ _ us hl => match us, hl with | [_], _ => rfl) fun cdv A outer s H E hr => ?_
  have tk := takes_of (X := cxOf (L2.CX P w) P w K mg base N_look_at_marks (st "look_at_marks") (defScope s_look_at_marks) (He.ga K (st "look_at_marks")) cdv A outer s H E) rfl rfl rfl rfl
  have po : PassesOwn _ (cxOf (L2.CX P w) P w K mg base N_look_at_marks (st "look_at_marks") (defScope s_look_at_marks) (He.ga K (st "look_at_marks")) cdv A outer s H E).A _ (cxOf (L2.CX P w) P w K mg base N_look_at_marks (st "look_at_marks") (defScope s_look_at_marks) (He.ga K (st "look_at_marks")) cdv A outer s H E).xe := passes_of rfl
  have nd := sc_look_at_marks.nd
  have hu64 := hr.units
  have hu1 := Nat.lt_of_le_of_lt (Nat.add_le_add_left (by decide : 1 ≤ 64) _) hu64
  exact (ss_cons (s_ex (e_call rfl tk f_look_at_size (by decide) hr rfl (a_cons (e_b (b_len rfl) rfl m_len (by decide +kernel) (a_cons (e_var (pv 0)) a_nil) (by decide) (by decide)) a_nil) (by decide)))
  (ss_one (s_for po rfl (i_seq rfl (e_var (pv 0))) (g_name (pg_name (i := 1) nd rfl (by first | exact Or.inl rfl | exact Or.inr rfl))) (ss_one (s_ex (e_call rfl tk f_look_at_mark (by decide) hr rfl (a_cons (e_var (pv 1)) a_nil) (by decide)))))))
abbrev s_front : Stmt := top 28
abbrev N_front : List Str := ["bits", "bit", "first", "at"]
theorem sc_front : FnScope N_front ["bits"] (defScope s_front) := ⟨rfl, rfl, rfl, by decide +kernel, rfl, by decide +kernel, by decide +kernel⟩
theorem ok_front (f_look_at_size : FnM (TT K) P w mg base 2 "look_at_size" ["size"] F_look_at_size) (m_len : mg (st "len") = none) (ex_BadMark : ExF (TT K) mg "BadMark") (ex_Crooked : ExF (TT K) mg "Crooked") (D : ∃ fd, FunD K (st "front") (st "front") (defArgs s_front) (defBody s_front) (defScope s_front) [] [] (He.ga K (st "front")) fd) (at_ : mg (st "front") = some (.ref (He.ga K (st "front")))) :
    FnM (TT K) P w mg base 3 "front" ["bits"] F_front := by
  rw [F_front_eq]
  refine fnM_mk (T := TT K) D at_ sc_front rfl rfl (fun _ _ _ _ _ _ us hl => match us, hl with | [_], _ => rfl) fun cdv A outer s H E hr => ?_
  have tk := takes_of (X := cxOf (L2.CX P w) P w K mg base N_front (st "front") (defScope s_front) (He.ga K (st "front")) cdv A outer s H E) rfl rfl rfl rfl
  have po : PassesOwn _ (cxOf (L2.CX P w) P w K mg base N_front (st "front") (defScope s_front) (He.ga K (st "front")) cdv A outer s H E).A _ (cxOf (L2.CX P w) P w K mg base N_front (st "front") (defScope s_front) (He.ga K (st "front")) cdv A outer s H E).xe := passes_of rfl
  have nd := sc_front.nd
  have hu64 := hr.units
  have hu1 := Nat.lt_of_le_of_lt (Nat.add_le_add_left (by decide : 1 ≤ 64) _) hu64
  exact (ss_cons (s_ex (e_call rfl tk f_look_at_size (by decide) hr rfl (a_cons (e_b (b_len rfl) rfl m_len (by decide +kernel) (a_cons (e_var (pv 0)) a_nil) (by decide) (by decide)) a_nil) (by decide)))
  (ss_cons (s_for po rfl (i_seq rfl (e_var (pv 0))) (g_name (pg_name (i := 1) nd rfl (by first | exact Or.inl rfl | exact Or.inr rfl))) (ss_one (s_if (PW.pt (t_or (t_cmp o_lt (e_var (pv 1)) e_int (nomark _)) (t_or1 (t_cmp o_gt (e_var (pv 1)) e_int (nomark _))))) (ss_one (s_raise' ex_BadMark rfl rfl tk rfl (by decide))) ss_nil)))
  (ss_cons (s_set (i := 2) (fun _ h => ps_set (i := 2) nd rfl (by first | exact Or.inl rfl | exact Or.inr rfl) h) (e_ix rfl hu1 (e_var (pv 0)) e_int (fun _ _ => rfl)))
  (ss_cons (s_set (i := 3) (fun _ h => ps_set (i := 3) nd rfl (by first | exact Or.inl rfl | exact Or.inr rfl) h) e_int)
  (ss_cons (s_while po (PW.pt (t_and (t_cmp o_lt (e_var (pv 3)) (e_b (b_len rfl) rfl m_len (by decide +kernel) (a_cons (e_var (pv 0)) a_nil) (by decide) (by decide)) (nomark _)) (t_and1 (t_cmp (o_eq rfl hu64) (e_ix rfl hu1 (e_var (pv 0)) (e_var (pv 3)) (fun _ _ => rfl)) (e_var (pv 2)) (nomark _))))) (ss_one (s_set (i := 3) (fun _ h => ps_set (i := 3) nd rfl (by first | exact Or.inl rfl | exact Or.inr rfl) h) (e_op (o_add rfl) (e_var (pv 3)) e_int))))
  (ss_cons (s_if (t_cmp (o_eq rfl hu64) (e_var (pv 3)) (e_b (b_len rfl) rfl m_len (by decide +kernel) (a_cons (e_var (pv 0)) a_nil) (by decide) (by decide)) (nomark _)) (ss_one (s_ret (e_op o_mul (e_b (b_len rfl) rfl m_len (by decide +kernel) (a_cons (e_var (pv 0)) a_nil) (by decide) (by decide)) (e_op o_sub e_int (e_var (pv 2)))))) ss_nil)
  (ss_cons (s_if (t_cmp (o_in rfl hu1) (e_var (pv 2)) (e_sl rfl (e_var (pv 0)) (p_some (e_var (pv 3))) p_none) (by rfl)) (ss_one (s_raise' ex_Crooked rfl rfl tk rfl (by decide))) ss_nil)
  (ss_one (s_ret (e_op (o_add rfl) (e_op o_mul (e_b (b_len rfl) rfl m_len (by decide +kernel) (a_cons (e_var (pv 0)) a_nil) (by decide) (by decide)) (e_var (pv 2))) (e_var (pv 3))))))))))))
abbrev s_lap_bits : Stmt := top 30
abbrev N_lap_bits : List Str := ["marks", "mark"]
theorem sc_lap_bits : FnScope N_lap_bits ["marks"] (defScope s_lap_bits) := ⟨rfl, rfl, rfl, by decide +kernel, rfl, by decide +kernel, by decide +kernel⟩
theorem ok_lap_bits  (D : ∃ fd, FunD K (st "lap_bits") (st "lap_bits") (defArgs s_lap_bits) (defBody s_lap_bits) (defScope s_lap_bits) [] [] (He.ga K (st "lap_bits")) fd) (at_ : mg (st "lap_bits") = some (.ref (He.ga K (st "lap_bits")))) :
    FnM (TT K) P w mg base 2 "lap_bits" ["marks"] F_lap_bits := by
  rw [F_lap_bits_eq]
  refine fnM_mk (T := TT K) D at_ sc_lap_bits rfl rfl (fun _ _ _ _ _ _ us hl => match us, hl with | [_], _ => rfl) fun cdv A outer s H E hr => ?_
  have tk := takes_of (X := cxOf (L2.CX P w) P w K mg base N_lap_bits (st "lap_bits") (defScope s_lap_bits) (He.ga K (st "lap_bits")) cdv A outer s H E) rfl rfl rfl rfl
  have po : PassesOwn _ (cxOf (L2.CX P w) P w K mg base N_lap_bits (st "lap_bits") (defScope s_lap_bits) (He.ga K (st "lap_bits")) cdv A outer s H E).A _ (cxOf (L2.CX P w) P w K mg base N_lap_bits (st "lap_bits") (defScope s_lap_bits) (He.ga K (st "lap_bits")) cdv A outer s H E).xe := passes_of rfl
  have nd := sc_lap_bits.nd
  have hu64 := hr.units
  have hu1 := Nat.lt_of_le_of_lt (Nat.add_le_add_left (by decide : 1 ≤ 64) _) hu64
  exact (ss_one (s_ret (e_comp rfl nd (i_seq rfl (e_var (pv 0))) (blkOk_by (own := [(st "mark", 1)]) (N := N_lap_bits) (sc := defScope s_lap_bits) (by decide +kernel)) (fun _ _ _ _ _ => pg_name (i := 1) nd rfl (by first | exact Or.inl rfl | exact Or.inr rfl)) (fun _ _ _ _ _ => tst_nil) (fun _ _ _ _ _ => (e_op o_div (e_var (pv 1)) e_int)))))
abbrev s_giver_turn : Stmt := top 32
abbrev N_giver_turn : List Str := ["marks"]
theorem sc_giver_turn : FnScope N_giver_turn ["marks"] (defScope s_giver_turn) := ⟨rfl, rfl, rfl, by decide +kernel, rfl, by decide +kernel, by decide +kernel⟩
theorem ok_giver_turn (f_look_at_marks : FnM (TT K) P w mg base 3 "look_at_marks" ["marks"] F_look_at_marks) (f_front : FnM (TT K) P w mg base 3 "front" ["bits"] F_front) (f_lap_bits : FnM (TT K) P w mg base 2 "lap_bits" ["marks"] F_lap_bits) (D : ∃ fd, FunD K (st "giver_turn") (st "giver_turn") (defArgs s_giver_turn) (defBody s_giver_turn) (defScope s_giver_turn) [] [] (He.ga K (st "giver_turn")) fd) (at_ : mg (st "giver_turn") = some (.ref (He.ga K (st "giver_turn")))) :
    FnM (TT K) P w mg base 4 "giver_turn" ["marks"] F_giver_turn := by
  rw [F_giver_turn_eq]
  refine fnM_mk (T := TT K) D at_ sc_giver_turn rfl rfl (fun _ _ _ _ _ _ us hl => match us, hl with | [_], _ => rfl) fun cdv A outer s H E hr => ?_
  have tk := takes_of (X := cxOf (L2.CX P w) P w K mg base N_giver_turn (st "giver_turn") (defScope s_giver_turn) (He.ga K (st "giver_turn")) cdv A outer s H E) rfl rfl rfl rfl
  have po : PassesOwn _ (cxOf (L2.CX P w) P w K mg base N_giver_turn (st "giver_turn") (defScope s_giver_turn) (He.ga K (st "giver_turn")) cdv A outer s H E).A _ (cxOf (L2.CX P w) P w K mg base N_giver_turn (st "giver_turn") (defScope s_giver_turn) (He.ga K (st "giver_turn")) cdv A outer s H E).xe := passes_of rfl
  have nd := sc_giver_turn.nd
  have hu64 := hr.units
  have hu1 := Nat.lt_of_le_of_lt (Nat.add_le_add_left (by decide : 1 ≤ 64) _) hu64
  exact (ss_cons (s_ex (e_call rfl tk f_look_at_marks (by decide) hr rfl (a_cons (e_var (pv 0)) a_nil) (by decide)))
  (ss_one (s_ret (e_call rfl tk f_front (by decide) hr rfl (a_cons (e_call rfl tk f_lap_bits (by decide) hr rfl (a_cons (e_var (pv 0)) a_nil) (by decide)) a_nil) (by decide)))))
abbrev s_odd_bits : Stmt := top 31
abbrev N_odd_bits : List Str := ["marks", "mark"]
theorem sc_odd_bits : FnScope N_odd_bits ["marks"] (defScope s_odd_bits) := ⟨rfl, rfl, rfl, by decide +kernel, rfl, by decide +kernel, by decide +kernel⟩
theorem ok_odd_bits  (D : ∃ fd, FunD K (st "odd_bits") (st "odd_bits") (defArgs s_odd_bits) (defBody s_odd_bits) (defScope s_odd_bits) [] [] (He.ga K (st "odd_bits")) fd) (at_ : mg (st "odd_bits") = some (.ref (He.ga K (st "odd_bits")))) :
    FnM (TT K) P w mg base 2 "odd_bits" ["marks"] F_odd_bits := by
  rw [F_odd_bits_eq]
  refine fnM_mk (T := TT K) D at_ sc_odd_bits rfl rfl (fun _ _ _ _ _ _ us hl => match us, hl with | [_], _ => rfl) fun cdv A outer s H E hr => ?_
  have tk := takes_of (X := cxOf (L2.CX P w) P w K mg base N_odd_bits (st "odd_bits") (defScope s_odd_bits) (He.ga K (st "odd_bits")) cdv A outer s H E) rfl rfl rfl rfl
  have po : PassesOwn _ (cxOf (L2.CX P w) P w K mg base N_odd_bits (st "odd_bits") (defScope s_odd_bits) (He.ga K (st "odd_bits")) cdv A outer s H E).A _ (cxOf (L2.CX P w) P w K mg base N_odd_bits (st "odd_bits") (defScope s_odd_bits) (He.ga K (st "odd_bits")) cdv A outer s H E).xe := passes_of rfl
  have nd := sc_odd_bits.nd
  have hu64 := hr.units
  have hu1 := Nat.lt_of_le_of_lt (Nat.add_le_add_left (by decide : 1 ≤ 64) _) hu64
  exact (ss_one (s_ret (e_comp rfl nd (i_seq rfl (e_var (pv 0))) (blkOk_by (own := [(st "mark", 1)]) (N := N_odd_bits) (sc := defScope s_odd_bits) (by decide +kernel)) (fun _ _ _ _ _ => pg_name (i := 1) nd rfl (by first | exact Or.inl rfl | exact Or.inr rfl)) (fun _ _ _ _ _ => tst_nil) (fun _ _ _ _ _ => (e_op o_mod (e_op (o_add rfl) (e_op o_div (e_var (pv 1)) e_int) (e_var (pv 1))) e_int)))))
abbrev s_taker_turn : Stmt := top 33
abbrev N_taker_turn : List Str := ["marks"]
theorem sc_taker_turn : FnScope N_taker_turn ["marks"] (defScope s_taker_turn) := ⟨rfl, rfl, rfl, by decide +kernel, rfl, by decide +kernel, by decide +kernel⟩
theorem ok_taker_turn (f_look_at_marks : FnM (TT K) P w mg base 3 "look_at_marks" ["marks"] F_look_at_marks) (f_front : FnM (TT K) P w mg base 3 "front" ["bits"] F_front) (f_odd_bits : FnM (TT K) P w mg base 2 "odd_bits" ["marks"] F_odd_bits) (D : ∃ fd, FunD K (st "taker_turn") (st "taker_turn") (defArgs s_taker_turn) (defBody s_taker_turn) (defScope s_taker_turn) [] [] (He.ga K (st "taker_turn")) fd) (at_ : mg (st "taker_turn") = some (.ref (He.ga K (st "taker_turn")))) :
    FnM (TT K) P w mg base 4 "taker_turn" ["marks"] F_taker_turn := by
  rw [F_taker_turn_eq]
  refine fnM_mk (T := TT K) D at_ sc_taker_turn rfl rfl (fun _ _ _ _ _ _ us hl => match us, hl with | [_], _ => rfl) fun cdv A outer s H E hr => ?_
  have tk := takes_of (X := cxOf (L2.CX P w) P w K mg base N_taker_turn (st "taker_turn") (defScope s_taker_turn) (He.ga K (st "taker_turn")) cdv A outer s H E) rfl rfl rfl rfl
  have po : PassesOwn _ (cxOf (L2.CX P w) P w K mg base N_taker_turn (st "taker_turn") (defScope s_taker_turn) (He.ga K (st "taker_turn")) cdv A outer s H E).A _ (cxOf (L2.CX P w) P w K mg base N_taker_turn (st "taker_turn") (defScope s_taker_turn) (He.ga K (st "taker_turn")) cdv A outer s H E).xe := passes_of rfl
  have nd := sc_taker_turn.nd
  have hu64 := hr.units
  have hu1 := Nat.lt_of_le_of_lt (Nat.add_le_add_left (by decide : 1 ≤ 64) _) hu64
  exact (ss_cons (s_ex (e_call rfl tk f_look_at_marks (by decide) hr rfl (a_cons (e_var (pv 0)) a_nil) (by decide)))
  (ss_one (s_ret (e_call rfl tk f_front (by decide) hr rfl (a_cons (e_call rfl tk f_odd_bits (by decide) hr rfl (a_cons (e_var (pv 0)) a_nil) (by decide)) a_nil) (by decide)))))
abbrev s_look_at_turn : Stmt := top 21
abbrev N_look_at_turn : List Str := ["size", "turn"]
theorem sc_look_at_turn : FnScope N_look_at_turn ["size", "turn"] (defScope s_look_at_turn) := ⟨rfl, rfl, rfl, by decide +kernel, rfl, by decide +kernel, by decide +kernel⟩
theorem ok_look_at_turn (f_look_at_size : FnM (TT K) P w mg base 2 "look_at_size" ["size"] F_look_at_size) (ex_NoTurn : ExF (TT K) mg "NoTurn") (D : ∃ fd, FunD K (st "look_at_turn") (st "look_at_turn") (defArgs s_look_at_turn) (defBody s_look_at_turn) (defScope s_look_at_turn) [] [] (He.ga K (st "look_at_turn")) fd) (at_ : mg (st "look_at_turn") = some (.ref (He.ga K (st "look_at_turn")))) :
    FnM (TT K) P w mg base 3 "look_at_turn" ["size", "turn"] F_look_at_turn := by
  rw [F_look_at_turn_eq]
  refine fnM_mk (T := TT K) D at_ sc_look_at_turn rfl rfl (fun _ _ _ _ _ _ us hl => match us, hl with | [_, _], _ => rfl) fun cdv A outer s H E hr => ?_
  have tk := takes_of (X := cxOf (L2.CX P w) P w K mg base N_look_at_turn (st "look_at_turn") (defScope s_look_at_turn) (He.ga K (st "look_at_turn")) cdv A outer s H E) rfl rfl rfl rfl
  have po : PassesOwn _ (cxOf (L2.CX P w) P w K mg base N_look_at_turn (st "look_at_turn") (defScope s_look_at_turn) (He.ga K (st "look_at_turn")) cdv A outer s H E).A _ (cxOf (L2.CX P w) P w K mg base N_look_at_turn (st "look_at_turn") (defScope s_look_at_turn) (He.ga K (st "look_at_turn")) cdv A outer s H E).xe := passes_of rfl
  have nd := sc_look_at_turn.nd
  have hu64 := hr.units
  have hu1 := Nat.lt_of_le_of_lt (Nat.add_le_add_left (by decide : 1 ≤ 64) _) hu64
  exact (ss_cons (s_ex (e_call rfl tk f_look_at_size (by decide) hr rfl (a_cons (e_var (pv 0)) a_nil) (by decide)))
  (ss_one (s_if (PW.pt (t_or (t_cmp o_lt (e_var (pv 1)) e_int (nomark _)) (t_or1 (t_cmp o_ge (e_var (pv 1)) (e_op o_mul e_int (e_var (pv 0))) (nomark _))))) (ss_one (s_raise' ex_NoTurn rfl rfl tk rfl (by decide))) ss_nil)))
abbrev s_distance : Stmt := top 24
abbrev N_distance : List Str := ["size", "one", "other"]
theorem sc_distance : FnScope N_distance ["size", "one", "other"] (defScope s_distance) := ⟨rfl, rfl, rfl, by decide +kernel, rfl, by decide +kernel, by decide +kernel⟩
theorem ok_distance (f_look_at_turn : FnM (TT K) P w mg base 3 "look_at_turn" ["size", "turn"] F_look_at_turn) (D : ∃ fd, FunD K (st "distance") (st "distance") (defArgs s_distance) (defBody s_distance) (defScope s_distance) [] [] (He.ga K (st "distance")) fd) (at_ : mg (st "distance") = some (.ref (He.ga K (st "distance")))) :
    FnM (TT K) P w mg base 4 "distance" ["size", "one", "other"] F_distance := by
  rw [F_distance_eq]
  refine fnM_mk (T := TT K) D at_ sc_distance rfl rfl (fun _ _ _ _ _ _ us hl => match us, hl with | [_, _, _], _ => rfl) fun cdv A outer s H E hr => ?_
  have tk := takes_of (X := cxOf (L2.CX P w) P w K mg base N_distance (st "distance") (defScope s_distance) (He.ga K (st "distance")) cdv A outer s H E) rfl rfl rfl rfl
  have po : PassesOwn _ (cxOf (L2.CX P w) P w K mg base N_distance (st "distance") (defScope s_distance) (He.ga K (st "distance")) cdv A outer s H E).A _ (cxOf (L2.CX P w) P w K mg base N_distance (st "distance") (defScope s_distance) (He.ga K (st "distance")) cdv A outer s H E).xe := passes_of rfl
  have nd := sc_distance.nd
  have hu64 := hr.units
  have hu1 := Nat.lt_of_le_of_lt (Nat.add_le_add_left (by decide : 1 ≤ 64) _) hu64
  exact (ss_cons (s_ex (e_call rfl tk f_look_at_turn (by decide) hr rfl (a_cons (e_var (pv 0)) (a_cons (e_var (pv 1)) a_nil)) (by decide)))
  (ss_cons (s_ex (e_call rfl tk f_look_at_turn (by decide) hr rfl (a_cons (e_var (pv 0)) (a_cons (e_var (pv 2)) a_nil)) (by decide)))
  (ss_one (s_ret (e_op o_mod (e_op o_sub (e_var (pv 2)) (e_var (pv 1))) (e_op o_mul e_int (e_var (pv 0))))))))
abbrev s_sound_marks : Stmt := top 36
abbrev N_sound_marks : List Str := ["marks", "giver", "taker"]
theorem sc_sound_marks : FnScope N_sound_marks ["marks"] (defScope s_sound_marks) := ⟨rfl, rfl, rfl, by decide +kernel, rfl, by decide +kernel, by decide +kernel⟩
theorem ok_sound_marks (f_look_at_marks : FnM (TT K) P w mg base 3 "look_at_marks" ["marks"] F_look_at_marks) (tr_Crooked : TrF (TT K) mg "Crooked") (f_giver_turn : FnM (TT K) P w mg base 4 "giver_turn" ["marks"] F_giver_turn) (f_taker_turn : FnM (TT K) P w mg base 4 "taker_turn" ["marks"] F_taker_turn) (f_distance : FnM (TT K) P w mg base 4 "distance" ["size", "one", "other"] F_distance) (m_len : mg (st "len") = none) (D : ∃ fd, FunD K (st "sound_marks") (st "sound_marks") (defArgs s_sound_marks) (defBody s_sound_marks) (defScope s_sound_marks) [] [] (He.ga K (st "sound_marks")) fd) (at_ : mg (st "sound_marks") = some (.ref (He.ga K (st "sound_marks")))) :
    FnM (TT K) P w mg base 5 "sound_marks" ["marks"] F_sound_marks := by
  rw [F_sound_marks_eq]
  refine fnM_mk (T := TT K) D at_ sc_sound_marks rfl rfl (fun _ _ _ _ _ _ us hl => match us, hl with | [_], _ => rfl) fun cdv A outer s H E hr => ?_
  have tk := takes_of (X := cxOf (L2.CX P w) P w K mg base N_sound_marks (st "sound_marks") (defScope s_sound_marks) (He.ga K (st "sound_marks")) cdv A outer s H E) rfl rfl rfl rfl
  have po : PassesOwn _ (cxOf (L2.CX P w) P w K mg base N_sound_marks (st "sound_marks") (defScope s_sound_marks) (He.ga K (st "sound_marks")) cdv A outer s H E).A _ (cxOf (L2.CX P w) P w K mg base N_sound_marks (st "sound_marks") (defScope s_sound_marks) (He.ga K (st "sound_marks")) cdv A outer s H E).xe := passes_of rfl
  have nd := sc_sound_marks.nd
  have hu64 := hr.units
  have hu1 := Nat.lt_of_le_of_lt (Nat.add_le_add_left (by decide : 1 ≤ 64) _) hu64
  exact (ss_cons (s_ex (e_call rfl tk f_look_at_marks (by decide) hr rfl (a_cons (e_var (pv 0)) a_nil) (by decide)))
  (ss_cons (s_try rfl rfl rfl (TrF.names tr_Crooked rfl (by decide)) tk tr_Crooked.ex
  (fun _ _ _ tk' po' => (ss_cons (s_set (i := 1) (fun _ h => ps_set (i := 1) nd rfl (by first | exact Or.inl rfl | exact Or.inr rfl) h) (e_call rfl tk' f_giver_turn (by decide) hr rfl (a_cons (e_var (pv 0)) a_nil) (by decide)))
  (ss_one (s_set (i := 2) (fun _ h => ps_set (i := 2) nd rfl (by first | exact Or.inl rfl | exact Or.inr rfl) h) (e_call rfl tk' f_taker_turn (by decide) hr rfl (a_cons (e_var (pv 0)) a_nil) (by decide))))))
  (fun c hc hsub a oe pn hz hv => (ss_one (s_ret e_bl))))
  (ss_one (s_ret (e_cmp o_le (e_call rfl tk f_distance (by decide) hr rfl (a_cons (e_b (b_len rfl) rfl m_len (by decide +kernel) (a_cons (e_var (pv 0)) a_nil) (by decide) (by decide)) (a_cons (e_var (pv 2)) (a_cons (e_var (pv 1)) a_nil))) (by decide)) (e_b (b_len rfl) rfl m_len (by decide +kernel) (a_cons (e_var (pv 0)) a_nil) (by decide) (by decide)) (nomark _))))))
abbrev s_law_flags : Stmt := top 42
abbrev N_law_flags : List Str := ["e", "kinds", "some"]
theorem sc_law_flags : FnScope N_law_flags ["e"] (defScope s_law_flags) := ⟨rfl, rfl, rfl, by decide +kernel, rfl, by decide +kernel, by decide +kernel⟩
theorem ok_law_flags (m_isinstance : mg (st "isinstance") = none) (isf : IsF (TT K) mg IsDs) (m_ValueError : mg (st "ValueError") = none) (D : ∃ fd, FunD K (st "_law_flags") (st "_law_flags") (defArgs s_law_flags) (defBody s_law_flags) (defScope s_law_flags) [] [] (He.ga K (st "_law_flags")) fd) (at_ : mg (st "_law_flags") = some (.ref (He.ga K (st "_law_flags")))) :
    FnE (TT K) P w mg base 2 "_law_flags" ["e"] F_law_flags := by
  rw [F_law_flags_eq]
  refine fnE_mk (T := TT K) D at_ sc_law_flags rfl rfl (fun _ _ _ _ _ _ us hl => match us, hl with | [_], _ => rfl) fun c p hc hz hv cdv A fr s H E hr => ?_
  have nd := sc_law_flags.nd
  have hu64 := roomH_u hr
  have hu1 := Nat.lt_of_le_of_lt (Nat.add_le_add_left (by decide : 1 ≤ 64) _) hu64
  exact (ss_cons (s_set (i := 1) (fun _ h => ps_set (i := 1) nd rfl (by first | exact Or.inl rfl | exact Or.inr rfl) h) (e_lst (a_cons (e_isPE (a := p.1) (oe := p.2) (d := "BadSize") rfl isf (List.mem_cons_self ..) hc (by decide) hz hv rfl m_isinstance (pv 0) rfl (by decide)) (a_cons (e_isPE (a := p.1) (oe := p.2) (d := "NoTurn") rfl isf (List.mem_cons_self ..) hc (by decide) hz hv rfl m_isinstance (pv 0) rfl (by decide)) (a_cons (e_isPE (a := p.1) (oe := p.2) (d := "BadMark") rfl isf (List.mem_cons_self ..) hc (by decide) hz hv rfl m_isinstance (pv 0) rfl (by decide)) (a_cons (e_isPE (a := p.1) (oe := p.2) (d := "Crooked") rfl isf (List.mem_cons_self ..) hc (by decide) hz hv rfl m_isinstance (pv 0) rfl (by decide)) a_nil))))))
  (ss_cons (s_set (i := 1) (fun _ h => ps_set (i := 1) nd rfl (by first | exact Or.inl rfl | exact Or.inr rfl) h) (e_op (o_add rfl) (e_var (pv 1)) (e_lst (a_cons (e_isPV (a := p.1) (oe := p.2) rfl isf (List.mem_cons_self ..) hc hz hv rfl m_isinstance (pv 0) rfl m_ValueError) a_nil))))
  (ss_cons (s_set (i := 2) (fun _ h => ps_set (i := 2) nd rfl (by first | exact Or.inl rfl | exact Or.inr rfl) h) (e_isPT (a := p.1) (oe := p.2) (es := ["BadStand", "NoName", "TooMany"]) rfl isf (List.mem_cons_self ..) hc (by decide) (by decide) hz hv rfl m_isinstance (pv 0) (pa_cons (pe_glob (v := .ref _) rfl (isf.at_ "BadStand" (by decide)) rfl) (pa_cons (pe_glob (v := .ref _) rfl (isf.at_ "NoName" (by decide)) rfl) (pa_cons (pe_glob (v := .ref _) rfl (isf.at_ "TooMany" (by decide)) rfl) pa_nil))) (fun _ _ _ h => h)))
  (ss_one (s_ret (e_op (o_add rfl) (e_var (pv 1)) (e_lst (a_cons (e_or (e_var (pv 2)) (e_one (e_isPT (a := p.1) (oe := p.2) (es := ["BadCells", "BadOrder", "NoCell", "NoHand", "NoRow", "NoText", "NotSound", "NoWaiting"]) rfl isf (List.mem_cons_self ..) hc (by decide) (by decide) hz hv rfl m_isinstance (pv 0) (pa_cons (pe_glob (v := .ref _) rfl (isf.at_ "BadCells" (by decide)) rfl) (pa_cons (pe_glob (v := .ref _) rfl (isf.at_ "BadOrder" (by decide)) rfl) (pa_cons (pe_glob (v := .ref _) rfl (isf.at_ "NoCell" (by decide)) rfl) (pa_cons (pe_glob (v := .ref _) rfl (isf.at_ "NoHand" (by decide)) rfl) (pa_cons (pe_glob (v := .ref _) rfl (isf.at_ "NoRow" (by decide)) rfl) (pa_cons (pe_glob (v := .ref _) rfl (isf.at_ "NoText" (by decide)) rfl) (pa_cons (pe_glob (v := .ref _) rfl (isf.at_ "NotSound" (by decide)) rfl) (pa_cons (pe_glob (v := .ref _) rfl (isf.at_ "NoWaiting" (by decide)) rfl) pa_nil)))))))) (fun _ _ _ h => h)))) a_nil))))))))
abbrev s_law_asked_v1 : Stmt := top 43
abbrev N_law_asked_v1 : List Str := ["way", "marks", "kinds", "e"]
theorem sc_law_asked_v1 : FnScope N_law_asked_v1 ["way", "marks"] (defScope s_law_asked_v1) := ⟨rfl, rfl, rfl, by decide +kernel, rfl, by decide +kernel, by decide +kernel⟩
theorem ok_law_asked_v1 (tr_RingError : TrF (TT K) mg "RingError") (f_giver_turn : FnM (TT K) P w mg base 4 "giver_turn" ["marks"] F_giver_turn) (f_taker_turn : FnM (TT K) P w mg base 4 "taker_turn" ["marks"] F_taker_turn) (f_sound_marks : FnM (TT K) P w mg base 5 "sound_marks" ["marks"] F_sound_marks) (fe__law_flags : FnE (TT K) P w mg base 2 "_law_flags" ["e"] F_law_flags) (D : ∃ fd, FunD K (st "_law_asked") (st "_law_asked") (defArgs s_law_asked_v1) (defBody s_law_asked_v1) (defScope s_law_asked_v1) [] [] (He.ga K (st "_law_asked")) fd) (at_ : mg (st "_law_asked") = some (.ref (He.ga K (st "_law_asked")))) :
    FnM (TT K) P w mg base 6 "_law_asked" ["way", "marks"] F_law_asked_v1 := by
  rw [F_law_asked_v1_eq]
  refine fnM_mk (T := TT K) D at_ sc_law_asked_v1 rfl rfl (fun _ _ _ _ _ _ us hl => match us, hl with | [_, _], _ => rfl) fun cdv A outer s H E hr => ?_
  have tk := takes_of (X := cxOf (L2.CX P w) P w K mg base N_law_asked_v1 (st "_law_asked") (defScope s_law_asked_v1) (He.ga K (st "_law_asked")) cdv A outer s H E) rfl rfl rfl rfl
  have po : PassesOwn _ (cxOf (L2.CX P w) P w K mg base N_law_asked_v1 (st "_law_asked") (defScope s_law_asked_v1) (He.ga K (st "_law_asked")) cdv A outer s H E).A _ (cxOf (L2.CX P w) P w K mg base N_law_asked_v1 (st "_law_asked") (defScope s_law_asked_v1) (He.ga K (st "_law_asked")) cdv A outer s H E).xe := passes_of rfl
  have nd := sc_law_asked_v1.nd
  have hu64 := hr.units
  have hu1 := Nat.lt_of_le_of_lt (Nat.add_le_add_left (by decide : 1 ≤ 64) _) hu64
  exact (ss_cons (s_set (i := 2) (fun _ h => ps_set (i := 2) nd rfl (by first | exact Or.inl rfl | exact Or.inr rfl) h) (e_lst a_nil))
  (ss_cons (s_try_as (i := 3) rfl rfl nd rfl rfl rfl (TrF.names tr_RingError rfl (by decide)) tk tr_RingError.ex
  (fun _ _ _ tk' po' => (ss_one (s_if (t_cmp (o_eq rfl hu64) (e_var (pv 0)) e_int (nomark _)) (ss_one (s_ex (e_call rfl tk' f_giver_turn (by decide) hr rfl (a_cons (e_var (pv 1)) a_nil) (by decide)))) (ss_one (s_if (t_cmp (o_eq rfl hu64) (e_var (pv 0)) e_int (nomark _)) (ss_one (s_ex (e_call rfl tk' f_taker_turn (by decide) hr rfl (a_cons (e_var (pv 1)) a_nil) (by decide)))) (ss_one (s_ex (e_call rfl tk' f_sound_marks (by decide) hr rfl (a_cons (e_var (pv 1)) a_nil) (by decide)))))))))
  (fun c hc hsub a oe pn hz hv => (ss_one (s_set (i := 2) (fun _ h => ps_set (i := 2) nd rfl (by first | exact Or.inl rfl | exact Or.inr rfl) h) (e_callX rfl takes0 (List.mem_cons_self ..) hc hz hv fe__law_flags (by decide) (roomS hr) rfl (a_cons (e_var (pv 3)) a_nil) (by decide))))))
  (ss_one (s_ret (e_var (pv 2))))))
abbrev s_law_only : Stmt := top 45
abbrev N_law_only : List Str := ["at", "k"]
theorem sc_law_only : FnScope N_law_only ["at"] (defScope s_law_only) := ⟨rfl, rfl, rfl, by decide +kernel, rfl, by decide +kernel, by decide +kernel⟩
theorem ok_law_only (m_range : mg (st "range") = none) (D : ∃ fd, FunD K (st "_law_only") (st "_law_only") (defArgs s_law_only) (defBody s_law_only) (defScope s_law_only) [] [] (He.ga K (st "_law_only")) fd) (at_ : mg (st "_law_only") = some (.ref (He.ga K (st "_law_only")))) :
    FnM (TT K) P w mg base 2 "_law_only" ["at"] F_law_only := by
  rw [F_law_only_eq]
  refine fnM_mk (T := TT K) D at_ sc_law_only rfl rfl (fun _ _ _ _ _ _ us hl => match us, hl with | [_], _ => rfl) fun cdv A outer s H E hr => ?_
  have tk := takes_of (X := cxOf (L2.CX P w) P w K mg base N_law_only (st "_law_only") (defScope s_law_only) (He.ga K (st "_law_only")) cdv A outer s H E) rfl rfl rfl rfl
  have po : PassesOwn _ (cxOf (L2.CX P w) P w K mg base N_law_only (st "_law_only") (defScope s_law_only) (He.ga K (st "_law_only")) cdv A outer s H E).A _ (cxOf (L2.CX P w) P w K mg base N_law_only (st "_law_only") (defScope s_law_only) (He.ga K (st "_law_only")) cdv A outer s H E).xe := passes_of rfl
  have nd := sc_law_only.nd
  have hu64 := hr.units
  have hu1 := Nat.lt_of_le_of_lt (Nat.add_le_add_left (by decide : 1 ≤ 64) _) hu64
  exact (ss_one (s_ret (e_op (o_add rfl) (e_comp rfl nd (i_rng1 rfl m_range e_int) (blkOk_by (own := [(st "k", 1)]) (N := N_law_only) (sc := defScope s_law_only) (by decide +kernel)) (fun _ _ _ _ _ => pg_name (i := 1) nd rfl (by first | exact Or.inl rfl | exact Or.inr rfl)) (fun _ _ _ _ _ => tst_nil) (fun _ _ _ _ _ => (e_cmp (o_eq rfl hu64) (e_var (pv 1)) (e_var (pv 0)) (nomark _)))) (e_lst (a_cons e_bl (a_cons e_bl a_nil))))))
abbrev s_lap_of : Stmt := top 23
abbrev N_lap_of : List Str := ["size", "turn"]
theorem sc_lap_of : FnScope N_lap_of ["size", "turn"] (defScope s_lap_of) := ⟨rfl, rfl, rfl, by decide +kernel, rfl, by decide +kernel, by decide +kernel⟩
theorem ok_lap_of (f_look_at_turn : FnM (TT K) P w mg base 3 "look_at_turn" ["size", "turn"] F_look_at_turn) (D : ∃ fd, FunD K (st "lap_of") (st "lap_of") (defArgs s_lap_of) (defBody s_lap_of) (defScope s_lap_of) [] [] (He.ga K (st "lap_of")) fd) (at_ : mg (st "lap_of") = some (.ref (He.ga K (st "lap_of")))) :
    FnM (TT K) P w mg base 4 "lap_of" ["size", "turn"] F_lap_of := by
  rw [F_lap_of_eq]
  refine fnM_mk (T := TT K) D at_ sc_lap_of rfl rfl (fun _ _ _ _ _ _ us hl => match us, hl with | [_, _], _ => rfl) fun cdv A outer s H E hr => ?_
  have tk := takes_of (X := cxOf (L2.CX P w) P w K mg base N_lap_of (st "lap_of") (defScope s_lap_of) (He.ga K (st "lap_of")) cdv A outer s H E) rfl rfl rfl rfl
  have po : PassesOwn _ (cxOf (L2.CX P w) P w K mg base N_lap_of (st "lap_of") (defScope s_lap_of) (He.ga K (st "lap_of")) cdv A outer s H E).A _ (cxOf (L2.CX P w) P w K mg base N_lap_of (st "lap_of") (defScope s_lap_of) (He.ga K (st "lap_of")) cdv A outer s H E).xe := passes_of rfl
  have nd := sc_lap_of.nd
  have hu64 := hr.units
  have hu1 := Nat.lt_of_le_of_lt (Nat.add_le_add_left (by decide : 1 ≤ 64) _) hu64
  exact (ss_cons (s_ex (e_call rfl tk f_look_at_turn (by decide) hr rfl (a_cons (e_var (pv 0)) (a_cons (e_var (pv 1)) a_nil)) (by decide)))
  (ss_one (s_ret (e_op o_div (e_var (pv 1)) (e_var (pv 0))))))
abbrev s_place_of : Stmt := top 22
abbrev N_place_of : List Str := ["size", "turn"]
theorem sc_place_of : FnScope N_place_of ["size", "turn"] (defScope s_place_of) := ⟨rfl, rfl, rfl, by decide +kernel, rfl, by decide +kernel, by decide +kernel⟩
theorem ok_place_of (f_look_at_turn : FnM (TT K) P w mg base 3 "look_at_turn" ["size", "turn"] F_look_at_turn) (D : ∃ fd, FunD K (st "place_of") (st "place_of") (defArgs s_place_of) (defBody s_place_of) (defScope s_place_of) [] [] (He.ga K (st "place_of")) fd) (at_ : mg (st "place_of") = some (.ref (He.ga K (st "place_of")))) :
    FnM (TT K) P w mg base 4 "place_of" ["size", "turn"] F_place_of := by
  rw [F_place_of_eq]
  refine fnM_mk (T := TT K) D at_ sc_place_of rfl rfl (fun _ _ _ _ _ _ us hl => match us, hl with | [_, _], _ => rfl) fun cdv A outer s H E hr => ?_
  have tk := takes_of (X := cxOf (L2.CX P w) P w K mg base N_place_of (st "place_of") (defScope s_place_of) (He.ga K (st "place_of")) cdv A outer s H E) rfl rfl rfl rfl
  have po : PassesOwn _ (cxOf (L2.CX P w) P w K mg base N_place_of (st "place_of") (defScope s_place_of) (He.ga K (st "place_of")) cdv A outer s H E).A _ (cxOf (L2.CX P w) P w K mg base N_place_of (st "place_of") (defScope s_place_of) (He.ga K (st "place_of")) cdv A outer s H E).xe := passes_of rfl
  have nd := sc_place_of.nd
  have hu64 := hr.units
  have hu1 := Nat.lt_of_le_of_lt (Nat.add_le_add_left (by decide : 1 ≤ 64) _) hu64
  exact (ss_cons (s_ex (e_call rfl tk f_look_at_turn (by decide) hr rfl (a_cons (e_var (pv 0)) (a_cons (e_var (pv 1)) a_nil)) (by decide)))
  (ss_one (s_ret (e_op o_mod (e_var (pv 1)) (e_var (pv 0))))))
abbrev s_bits_of : Stmt := top 34
abbrev N_bits_of : List Str := ["size", "turn", "lap", "place"]
theorem sc_bits_of : FnScope N_bits_of ["size", "turn"] (defScope s_bits_of) := ⟨rfl, rfl, rfl, by decide +kernel, rfl, by decide +kernel, by decide +kernel⟩
theorem ok_bits_of (f_lap_of : FnM (TT K) P w mg base 4 "lap_of" ["size", "turn"] F_lap_of) (f_place_of : FnM (TT K) P w mg base 4 "place_of" ["size", "turn"] F_place_of) (D : ∃ fd, FunD K (st "bits_of") (st "bits_of") (defArgs s_bits_of) (defBody s_bits_of) (defScope s_bits_of) [] [] (He.ga K (st "bits_of")) fd) (at_ : mg (st "bits_of") = some (.ref (He.ga K (st "bits_of")))) :
    FnM (TT K) P w mg base 5 "bits_of" ["size", "turn"] F_bits_of := by
  rw [F_bits_of_eq]
  refine fnM_mk (T := TT K) D at_ sc_bits_of rfl rfl (fun _ _ _ _ _ _ us hl => match us, hl with | [_, _], _ => rfl) fun cdv A outer s H E hr => ?_
  have tk := takes_of (X := cxOf (L2.CX P w) P w K mg base N_bits_of (st "bits_of") (defScope s_bits_of) (He.ga K (st "bits_of")) cdv A outer s H E) rfl rfl rfl rfl
  have po : PassesOwn _ (cxOf (L2.CX P w) P w K mg base N_bits_of (st "bits_of") (defScope s_bits_of) (He.ga K (st "bits_of")) cdv A outer s H E).A _ (cxOf (L2.CX P w) P w K mg base N_bits_of (st "bits_of") (defScope s_bits_of) (He.ga K (st "bits_of")) cdv A outer s H E).xe := passes_of rfl
  have nd := sc_bits_of.nd
  have hu64 := hr.units
  have hu1 := Nat.lt_of_le_of_lt (Nat.add_le_add_left (by decide : 1 ≤ 64) _) hu64
  exact (ss_cons (s_set (i := 2) (fun _ h => ps_set (i := 2) nd rfl (by first | exact Or.inl rfl | exact Or.inr rfl) h) (e_call rfl tk f_lap_of (by decide) hr rfl (a_cons (e_var (pv 0)) (a_cons (e_var (pv 1)) a_nil)) (by decide)))
  (ss_cons (s_set (i := 3) (fun _ h => ps_set (i := 3) nd rfl (by first | exact Or.inl rfl | exact Or.inr rfl) h) (e_call rfl tk f_place_of (by decide) hr rfl (a_cons (e_var (pv 0)) (a_cons (e_var (pv 1)) a_nil)) (by decide)))
  (ss_one (s_ret (e_op (o_add rfl) (e_op o_mul (e_lst (a_cons (e_var (pv 2)) a_nil)) (e_var (pv 3))) (e_op o_mul (e_lst (a_cons (e_op o_sub e_int (e_var (pv 2))) a_nil)) (e_op o_sub (e_var (pv 0)) (e_var (pv 3)))))))))
abbrev s_marks_of : Stmt := top 35
abbrev N_marks_of : List Str := ["size", "taker", "giver", "marks", "lap", "odd"]
theorem sc_marks_of : FnScope N_marks_of ["size", "taker", "giver"] (defScope s_marks_of) := ⟨rfl, rfl, rfl, by decide +kernel, rfl, by decide +kernel, by decide +kernel⟩
theorem ok_marks_of (f_look_at_turn : FnM (TT K) P w mg base 3 "look_at_turn" ["size", "turn"] F_look_at_turn) (f_distance : FnM (TT K) P w mg base 4 "distance" ["size", "one", "other"] F_distance) (ex_Crooked : ExF (TT K) mg "Crooked") (m_zip : mg (st "zip") = none) (f_bits_of : FnM (TT K) P w mg base 5 "bits_of" ["size", "turn"] F_bits_of) (D : ∃ fd, FunD K (st "marks_of") (st "marks_of") (defArgs s_marks_of) (defBody s_marks_of) (defScope s_marks_of) [] [] (He.ga K (st "marks_of")) fd) (at_ : mg (st "marks_of") = some (.ref (He.ga K (st "marks_of")))) :
    FnM (TT K) P w mg base 6 "marks_of" ["size", "taker", "giver"] F_marks_of := by
  rw [F_marks_of_eq]
  refine fnM_mk (T := TT K) D at_ sc_marks_of rfl rfl (fun _ _ _ _ _ _ us hl => match us, hl with | [_, _, _], _ => rfl) fun cdv A outer s H E hr => ?_
  have tk := takes_of (X := cxOf (L2.CX P w) P w K mg base N_marks_of (st "marks_of") (defScope s_marks_of) (He.ga K (st "marks_of")) cdv A outer s H E) rfl rfl rfl rfl
  have po : PassesOwn _ (cxOf (L2.CX P w) P w K mg base N_marks_of (st "marks_of") (defScope s_marks_of) (He.ga K (st "marks_of")) cdv A outer s H E).A _ (cxOf (L2.CX P w) P w K mg base N_marks_of (st "marks_of") (defScope s_marks_of) (He.ga K (st "marks_of")) cdv A outer s H E).xe := passes_of rfl
  have nd := sc_marks_of.nd
  have hu64 := hr.units
  have hu1 := Nat.lt_of_le_of_lt (Nat.add_le_add_left (by decide : 1 ≤ 64) _) hu64
  exact (ss_cons (s_ex (e_call rfl tk f_look_at_turn (by decide) hr rfl (a_cons (e_var (pv 0)) (a_cons (e_var (pv 1)) a_nil)) (by decide)))
  (ss_cons (s_ex (e_call rfl tk f_look_at_turn (by decide) hr rfl (a_cons (e_var (pv 0)) (a_cons (e_var (pv 2)) a_nil)) (by decide)))
  (ss_cons (s_if (t_cmp o_gt (e_call rfl tk f_distance (by decide) hr rfl (a_cons (e_var (pv 0)) (a_cons (e_var (pv 1)) (a_cons (e_var (pv 2)) a_nil))) (by decide)) (e_var (pv 0)) (nomark _)) (ss_one (s_raise' ex_Crooked rfl rfl tk rfl (by decide))) ss_nil)
  (ss_cons (s_set (i := 3) (fun _ h => ps_set (i := 3) nd rfl (by first | exact Or.inl rfl | exact Or.inr rfl) h) (e_lst a_nil))
  (ss_cons (s_for po rfl (i_zip rfl rfl m_zip (e_call rfl tk f_bits_of (by decide) hr rfl (a_cons (e_var (pv 0)) (a_cons (e_var (pv 2)) a_nil)) (by decide)) (e_call rfl tk f_bits_of (by decide) hr rfl (a_cons (e_var (pv 0)) (a_cons (e_var (pv 1)) a_nil)) (by decide))) (g_tup rfl rfl (gs_cons (g_name (pg_name (i := 4) nd rfl (by first | exact Or.inl rfl | exact Or.inr rfl))) (gs_cons (g_name (pg_name (i := 5) nd rfl (by first | exact Or.inl rfl | exact Or.inr rfl))) gs_nil))) (ss_one (s_ex (e_bm rfl PySem.F.plainAttrs_list PySem.F.slot_list_append PySem.F.type_list_append m_append (e_var (pv 3)) (a_cons (e_op (o_add rfl) (e_op o_mul e_int (e_var (pv 4))) (e_op o_mod (e_op (o_add rfl) (e_var (pv 4)) (e_var (pv 5))) e_int)) a_nil)))))
  (ss_one (s_ret (e_var (pv 3)))))))))
abbrev s_law_made : Stmt := top 44
abbrev N_law_made : List Str := ["size", "taker", "giver", "kinds", "e"]
theorem sc_law_made : FnScope N_law_made ["size", "taker", "giver"] (defScope s_law_made) := ⟨rfl, rfl, rfl, by decide +kernel, rfl, by decide +kernel, by decide +kernel⟩
theorem ok_law_made (tr_RingError : TrF (TT K) mg "RingError") (f_marks_of : FnM (TT K) P w mg base 6 "marks_of" ["size", "taker", "giver"] F_marks_of) (fe__law_flags : FnE (TT K) P w mg base 2 "_law_flags" ["e"] F_law_flags) (D : ∃ fd, FunD K (st "_law_made") (st "_law_made") (defArgs s_law_made) (defBody s_law_made) (defScope s_law_made) [] [] (He.ga K (st "_law_made")) fd) (at_ : mg (st "_law_made") = some (.ref (He.ga K (st "_law_made")))) :
    FnM (TT K) P w mg base 7 "_law_made" ["size", "taker", "giver"] F_law_made := by
  rw [F_law_made_eq]
  refine fnM_mk (T := TT K) D at_ sc_law_made rfl rfl (fun _ _ _ _ _ _ us hl => match us, hl with | [_, _, _], _ => rfl) fun cdv A outer s H E hr => ?_
  have tk := takes_of (X := cxOf (L2.CX P w) P w K mg base N_law_made (st "_law_made") (defScope s_law_made) (He.ga K (st "_law_made")) cdv A outer s H E) rfl rfl rfl rfl
  have po : PassesOwn _ (cxOf (L2.CX P w) P w K mg base N_law_made (st "_law_made") (defScope s_law_made) (He.ga K (st "_law_made")) cdv A outer s H E).A _ (cxOf (L2.CX P w) P w K mg base N_law_made (st "_law_made") (defScope s_law_made) (He.ga K (st "_law_made")) cdv A outer s H E).xe := passes_of rfl
  have nd := sc_law_made.nd
  have hu64 := hr.units
  have hu1 := Nat.lt_of_le_of_lt (Nat.add_le_add_left (by decide : 1 ≤ 64) _) hu64
  exact (ss_cons (s_set (i := 3) (fun _ h => ps_set (i := 3) nd rfl (by first | exact Or.inl rfl | exact Or.inr rfl) h) (e_lst a_nil))
  (ss_cons (s_try_as (i := 4) rfl rfl nd rfl rfl rfl (TrF.names tr_RingError rfl (by decide)) tk tr_RingError.ex
  (fun _ _ _ tk' po' => (ss_one (s_ex (e_call rfl tk' f_marks_of (by decide) hr rfl (a_cons (e_var (pv 0)) (a_cons (e_var (pv 1)) (a_cons (e_var (pv 2)) a_nil))) (by decide)))))
  (fun c hc hsub a oe pn hz hv => (ss_one (s_set (i := 3) (fun _ h => ps_set (i := 3) nd rfl (by first | exact Or.inl rfl | exact Or.inr rfl) h) (e_callX rfl takes0 (List.mem_cons_self ..) hc hz hv fe__law_flags (by decide) (roomS hr) rfl (a_cons (e_var (pv 4)) a_nil) (by decide))))))
  (ss_one (s_ret (e_var (pv 3))))))
abbrev s_law_turns_refused : Stmt := top 46
abbrev N_law_turns_refused : List Str := ["well", "size", "far", "bad_size", "bad_turn", "taker", "giver", "some"]
theorem sc_law_turns_refused : FnScope N_law_turns_refused ["well", "size"] (defScope s_law_turns_refused) := ⟨rfl, rfl, rfl, by decide +kernel, rfl, by decide +kernel, by decide +kernel⟩
theorem ok_law_turns_refused (f__law_far : FnM (TT K) P w mg base 3 "_law_far" ["well"] F_law_far) (f__law_take : FnM (TT K) P w mg base 2 "_law_take" ["well", "many"] F_law_take) (f__law_made : FnM (TT K) P w mg base 7 "_law_made" ["size", "taker", "giver"] F_law_made) (f__law_only : FnM (TT K) P w mg base 2 "_law_only" ["at"] F_law_only) (D : ∃ fd, FunD K (st "_law_turns_refused") (st "_law_turns_refused") (defArgs s_law_turns_refused) (defBody s_law_turns_refused) (defScope s_law_turns_refused) [] [] (He.ga K (st "_law_turns_refused")) fd) (at_ : mg (st "_law_turns_refused") = some (.ref (He.ga K (st "_law_turns_refused")))) :
    FnM (TT K) P w mg base 8 "_law_turns_refused" ["well", "size"] F_law_turns_refused := by
  rw [F_law_turns_refused_eq]
  refine fnM_mk (T := TT K) D at_ sc_law_turns_refused rfl rfl (fun _ _ _ _ _ _ us hl => match us, hl with | [_, _], _ => rfl) fun cdv A outer s H E hr => ?_
  have tk := takes_of (X := cxOf (L2.CX P w) P w K mg base N_law_turns_refused (st "_law_turns_refused") (defScope s_law_turns_refused) (He.ga K (st "_law_turns_refused")) cdv A outer s H E) rfl rfl rfl rfl
  have po : PassesOwn _ (cxOf (L2.CX P w) P w K mg base N_law_turns_refused (st "_law_turns_refused") (defScope s_law_turns_refused) (He.ga K (st "_law_turns_refused")) cdv A outer s H E).A _ (cxOf (L2.CX P w) P w K mg base N_law_turns_refused (st "_law_turns_refused") (defScope s_law_turns_refused) (He.ga K (st "_law_turns_refused")) cdv A outer s H E).xe := passes_of rfl
  have nd := sc_law_turns_refused.nd
  have hu64 := hr.units
  have hu1 := Nat.lt_of_le_of_lt (Nat.add_le_add_left (by decide : 1 ≤ 64) _) hu64
  exact (ss_cons (s_set (i := 2) (fun _ h => ps_set (i := 2) nd rfl (by first | exact Or.inl rfl | exact Or.inr rfl) h) (e_call rfl tk f__law_far (by decide) hr rfl (a_cons (e_var (pv 0)) a_nil) (by decide)))
  (ss_cons (s_set (i := 3) (fun _ h => ps_set (i := 3) nd rfl (by first | exact Or.inl rfl | exact Or.inr rfl) h) (e_ix rfl hu1 (e_lst (a_cons e_int (a_cons e_int (a_cons (e_op o_sub e_int (e_var (pv 2))) (a_cons (e_op (o_add rfl) e_int (e_var (pv 2))) a_nil))))) (e_call rfl tk f__law_take (by decide) hr rfl (a_cons (e_var (pv 0)) (a_cons e_int a_nil)) (by decide)) (fun _ _ => rfl)))
  (ss_cons (s_set (i := 4) (fun _ h => ps_set (i := 4) nd rfl (by first | exact Or.inl rfl | exact Or.inr rfl) h) (e_ix rfl hu1 (e_lst (a_cons (e_un u_neg e_int) (a_cons (e_op o_mul e_int (e_var (pv 1))) (a_cons (e_op o_sub e_int (e_var (pv 2))) (a_cons (e_op (o_add rfl) (e_op o_sub (e_op o_mul e_int (e_var (pv 1))) e_int) (e_var (pv 2))) a_nil))))) (e_call rfl tk f__law_take (by decide) hr rfl (a_cons (e_var (pv 0)) (a_cons e_int a_nil)) (by decide)) (fun _ _ => rfl)))
  (ss_cons (s_set (i := 5) (fun _ h => ps_set (i := 5) nd rfl (by first | exact Or.inl rfl | exact Or.inr rfl) h) (e_call rfl tk f__law_take (by decide) hr rfl (a_cons (e_var (pv 0)) (a_cons (e_op o_mul e_int (e_var (pv 1))) a_nil)) (by decide)))
  (ss_cons (s_set (i := 6) (fun _ h => ps_set (i := 6) nd rfl (by first | exact Or.inl rfl | exact Or.inr rfl) h) (e_op o_mod (e_op (o_add rfl) (e_op (o_add rfl) (e_op (o_add rfl) (e_var (pv 5)) (e_var (pv 1))) e_int) (e_call rfl tk f__law_take (by decide) hr rfl (a_cons (e_var (pv 0)) (a_cons (e_op o_sub (e_var (pv 1)) e_int) a_nil)) (by decide))) (e_op o_mul e_int (e_var (pv 1)))))
  (ss_cons (s_for po rfl (i_seq rfl (e_lst (a_cons (e_tup (a_cons (e_var (pv 3)) (a_cons (e_var (pv 5)) (a_cons (e_var (pv 6)) a_nil)))) (a_cons (e_tup (a_cons (e_var (pv 3)) (a_cons (e_var (pv 4)) (a_cons (e_var (pv 6)) a_nil)))) (a_cons (e_tup (a_cons (e_var (pv 3)) (a_cons (e_var (pv 5)) (a_cons (e_var (pv 4)) a_nil)))) a_nil))))) (g_name (pg_name (i := 7) nd rfl (by first | exact Or.inl rfl | exact Or.inr rfl))) (ss_one (s_if (t_cmp (o_ne rfl hu64) (e_call rfl tk f__law_made (by decide) hr rfl (a_cons (e_ix rfl hu1 (e_var (pv 7)) e_int (fun _ _ => rfl)) (a_cons (e_ix rfl hu1 (e_var (pv 7)) e_int (fun _ _ => rfl)) (a_cons (e_ix rfl hu1 (e_var (pv 7)) e_int (fun _ _ => rfl)) a_nil))) (by decide)) (e_call rfl tk f__law_only (by decide) hr rfl (a_cons e_int a_nil) (by decide)) (nomark _)) (ss_one (s_ret e_bl)) ss_nil)))
  (ss_cons (s_for po rfl (i_seq rfl (e_lst (a_cons (e_tup (a_cons (e_var (pv 4)) (a_cons (e_var (pv 6)) a_nil))) (a_cons (e_tup (a_cons (e_var (pv 5)) (a_cons (e_var (pv 4)) a_nil))) (a_cons (e_tup (a_cons (e_var (pv 4)) (a_cons (e_var (pv 4)) a_nil))) a_nil))))) (g_name (pg_name (i := 7) nd rfl (by first | exact Or.inl rfl | exact Or.inr rfl))) (ss_one (s_if (t_cmp (o_ne rfl hu64) (e_call rfl tk f__law_made (by decide) hr rfl (a_cons (e_var (pv 1)) (a_cons (e_ix rfl hu1 (e_var (pv 7)) e_int (fun _ _ => rfl)) (a_cons (e_ix rfl hu1 (e_var (pv 7)) e_int (fun _ _ => rfl)) a_nil))) (by decide)) (e_call rfl tk f__law_only (by decide) hr rfl (a_cons e_int a_nil) (by decide)) (nomark _)) (ss_one (s_ret e_bl)) ss_nil)))
  (ss_one (s_ret (e_and (e_cmp (o_eq rfl hu64) (e_call rfl tk f__law_made (by decide) hr rfl (a_cons (e_var (pv 1)) (a_cons (e_var (pv 5)) (a_cons (e_var (pv 6)) a_nil))) (by decide)) (e_call rfl tk f__law_only (by decide) hr rfl (a_cons e_int a_nil) (by decide)) (nomark _)) (e_one (e_cmp (o_eq rfl hu64) (e_call rfl tk f__law_made (by decide) hr rfl (a_cons (e_var (pv 1)) (a_cons (e_var (pv 5)) (a_cons (e_var (pv 5)) a_nil))) (by decide)) (e_lst a_nil) (nomark _)))))))))))))
abbrev s_law_v5 : Stmt := top 47
abbrev N_law_v5 : List Str := ["script", "k", "well", "size", "freed", "marks", "few", "good", "way", "handed", "place"]
theorem sc_law_v5 : FnScope N_law_v5 ["script"] (defScope s_law_v5) := ⟨rfl, rfl, rfl, by decide +kernel, rfl, by decide +kernel, by decide +kernel⟩
theorem ok_law_v5 (m_range : mg (st "range") = none) (m_max : mg (st "max") = none) (m_min : mg (st "min") = none) (m_len : mg (st "len") = none) (f__law_well : FnM (TT K) P w mg base 2 "_law_well" ["script", "k"] F_law_well) (f__law_take : FnM (TT K) P w mg base 2 "_law_take" ["well", "many"] F_law_take) (f__law_marks : FnM (TT K) P w mg base 2 "_law_marks" ["size", "freed", "given"] F_law_marks) (f__law_far : FnM (TT K) P w mg base 3 "_law_far" ["well"] F_law_far) (m_list : mg (st "list") = none) (f__law_asked : FnM (TT K) P w mg base 6 "_law_asked" ["way", "marks"] F_law_asked_v1) (f__law_only : FnM (TT K) P w mg base 2 "_law_only" ["at"] F_law_only) (f__law_turns_refused : FnM (TT K) P w mg base 8 "_law_turns_refused" ["well", "size"] F_law_turns_refused) (D : ∃ fd, FunD K (st "law") (st "law") (defArgs s_law_v5) (defBody s_law_v5) (defScope s_law_v5) [] [] (He.ga K (st "law")) fd) (at_ : mg (st "law") = some (.ref (He.ga K (st "law")))) :
    FnM (TT K) P w mg base 9 "law" ["script"] F_law_v5 := by
  rw [F_law_v5_eq]
  refine fnM_mk (T := TT K) D at_ sc_law_v5 rfl rfl (fun _ _ _ _ _ _ us hl => match us, hl with | [_], _ => rfl) fun cdv A outer s H E hr => ?_
  have tk := takes_of (X := cxOf (L2.CX P w) P w K mg base N_law_v5 (st "law") (defScope s_law_v5) (He.ga K (st "law")) cdv A outer s H E) rfl rfl rfl rfl
  have po : PassesOwn _ (cxOf (L2.CX P w) P w K mg base N_law_v5 (st "law") (defScope s_law_v5) (He.ga K (st "law")) cdv A outer s H E).A _ (cxOf (L2.CX P w) P w K mg base N_law_v5 (st "law") (defScope s_law_v5) (He.ga K (st "law")) cdv A outer s H E).xe := passes_of rfl
  have nd := sc_law_v5.nd
  have hu64 := hr.units
  have hu1 := Nat.lt_of_le_of_lt (Nat.add_le_add_left (by decide : 1 ≤ 64) _) hu64
  exact (ss_cons (s_for po rfl (i_rng1 rfl m_range (e_b (b_max rfl) rfl m_max (by decide +kernel) (a_cons e_int (a_cons (e_b (b_min rfl) rfl m_min (by decide +kernel) (a_cons e_int (a_cons (e_b (b_len rfl) rfl m_len (by decide +kernel) (a_cons (e_var (pv 0)) a_nil) (by decide) (by decide)) a_nil)) (by decide) (by decide)) a_nil)) (by decide) (by decide))) (g_name (pg_name (i := 1) nd rfl (by first | exact Or.inl rfl | exact Or.inr rfl))) (ss_cons (s_set (i := 2) (fun _ h => ps_set (i := 2) nd rfl (by first | exact Or.inl rfl | exact Or.inr rfl) h) (e_call rfl tk f__law_well (by decide) hr rfl (a_cons (e_var (pv 0)) (a_cons (e_var (pv 1)) a_nil)) (by decide)))
  (ss_cons (s_set (i := 3) (fun _ h => ps_set (i := 3) nd rfl (by first | exact Or.inl rfl | exact Or.inr rfl) h) (e_op (o_add rfl) e_int (e_call rfl tk f__law_take (by decide) hr rfl (a_cons (e_var (pv 2)) (a_cons e_int a_nil)) (by decide))))
  (ss_cons (s_set (i := 4) (fun _ h => ps_set (i := 4) nd rfl (by first | exact Or.inl rfl | exact Or.inr rfl) h) (e_call rfl tk f__law_take (by decide) hr rfl (a_cons (e_var (pv 2)) (a_cons e_int a_nil)) (by decide)))
  (ss_cons (s_set (i := 5) (fun _ h => ps_set (i := 5) nd rfl (by first | exact Or.inl rfl | exact Or.inr rfl) h) (e_call rfl tk f__law_marks (by decide) hr rfl (a_cons (e_var (pv 3)) (a_cons (e_var (pv 4)) (a_cons (e_op (o_add rfl) (e_var (pv 4)) (e_call rfl tk f__law_take (by decide) hr rfl (a_cons (e_var (pv 2)) (a_cons (e_op (o_add rfl) (e_var (pv 3)) e_int) a_nil)) (by decide))) a_nil))) (by decide)))
  (ss_cons (s_if (t_cmp (o_eq rfl hu64) (e_call rfl tk f__law_take (by decide) hr rfl (a_cons (e_var (pv 2)) (a_cons e_int a_nil)) (by decide)) e_int (nomark _)) (ss_one (s_setLc (j := 5) rfl nd rfl rfl (sw_true rfl rfl rfl (by decide +kernel)) (i_rng1 rfl m_range (e_var (pv 3))) (blkOk_by (own := [(st "place", 10)]) (N := N_law_v5) (sc := defScope s_law_v5) (by decide +kernel)) (fun _ _ _ _ _ => pg_name (i := 10) nd rfl (by first | exact Or.inl rfl | exact Or.inr rfl)) (fun _ _ _ _ _ => tst_nil) (fun _ _ _ _ _ => (e_call rfl takes0 f__law_take (by decide) hr rfl (a_cons (e_var (pv 2)) (a_cons e_int a_nil)) (by decide))))) ss_nil)
  (ss_cons (s_asg (e_ix rfl hu1 (e_lst (a_cons (e_un u_neg e_int) (a_cons e_int (a_cons (e_op o_sub e_int (e_call rfl tk f__law_far (by decide) hr rfl (a_cons (e_var (pv 2)) a_nil) (by decide))) (a_cons (e_op (o_add rfl) e_int (e_call rfl tk f__law_far (by decide) hr rfl (a_cons (e_var (pv 2)) a_nil) (by decide))) a_nil))))) (e_call rfl tk f__law_take (by decide) hr rfl (a_cons (e_var (pv 2)) (a_cons e_int a_nil)) (by decide)) (fun _ _ => rfl)) (g_ix hu1 (e_var (pv 5)) (e_call rfl tk f__law_take (by decide) hr rfl (a_cons (e_var (pv 2)) (a_cons (e_var (pv 3)) a_nil)) (by decide))))
  (ss_cons (s_set (i := 6) (fun _ h => ps_set (i := 6) nd rfl (by first | exact Or.inl rfl | exact Or.inr rfl) h) (e_sl rfl (e_op o_mul (e_var (pv 5)) e_int) p_none (p_some (e_ix rfl hu1 (e_lst (a_cons e_int (a_cons e_int (a_cons e_int (a_cons (e_op (o_add rfl) e_int (e_call rfl tk f__law_take (by decide) hr rfl (a_cons (e_var (pv 2)) (a_cons e_int a_nil)) (by decide))) a_nil))))) (e_call rfl tk f__law_take (by decide) hr rfl (a_cons (e_var (pv 2)) (a_cons e_int a_nil)) (by decide)) (fun _ _ => rfl)))))
  (ss_cons (s_set (i := 7) (fun _ h => ps_set (i := 7) nd rfl (by first | exact Or.inl rfl | exact Or.inr rfl) h) (e_sl rfl (e_op o_mul (e_lst (a_cons e_int a_nil)) e_int) p_none (p_some (e_b (b_len rfl) rfl m_len (by decide +kernel) (a_cons (e_var (pv 6)) a_nil) (by decide) (by decide)))))
  (ss_cons (s_for po rfl (i_rng1 rfl m_range e_int) (g_name (pg_name (i := 8) nd rfl (by first | exact Or.inl rfl | exact Or.inr rfl))) (ss_cons (s_set (i := 9) (fun _ h => ps_set (i := 9) nd rfl (by first | exact Or.inl rfl | exact Or.inr rfl) h) (e_bt (b_list rfl) rfl m_list (by decide +kernel) (a_cons (e_var (pv 5)) a_nil) (by decide) (by decide)))
  (ss_cons (s_if (PW.pt (t_or (t_cmp (o_ne rfl hu64) (e_call rfl tk f__law_asked (by decide) hr rfl (a_cons (e_var (pv 8)) (a_cons (e_var (pv 9)) a_nil)) (by decide)) (e_call rfl tk f__law_only (by decide) hr rfl (a_cons e_int a_nil) (by decide)) (nomark _)) (t_or1 (t_cmp (o_ne rfl hu64) (e_var (pv 9)) (e_var (pv 5)) (nomark _))))) (ss_one (s_ret e_bl)) ss_nil)
  (ss_one (s_if (PW.pt (t_or (t_cmp (o_ne rfl hu64) (e_call rfl tk f__law_asked (by decide) hr rfl (a_cons (e_var (pv 8)) (a_cons (e_var (pv 6)) a_nil)) (by decide)) (e_call rfl tk f__law_only (by decide) hr rfl (a_cons e_int a_nil) (by decide)) (nomark _)) (t_or1 (t_cmp (o_ne rfl hu64) (e_call rfl tk f__law_asked (by decide) hr rfl (a_cons (e_var (pv 8)) (a_cons (e_var (pv 7)) a_nil)) (by decide)) (e_call rfl tk f__law_only (by decide) hr rfl (a_cons e_int a_nil) (by decide)) (nomark _))))) (ss_one (s_ret e_bl)) ss_nil)))))
  (ss_one (s_if (t_not (t_tru rfl (e_call rfl tk f__law_turns_refused (by decide) hr rfl (a_cons (e_var (pv 2)) (a_cons (e_var (pv 3)) a_nil)) (by decide)) (by intro _; rfl))) (ss_one (s_ret e_bl)) ss_nil))))))))))))
  (ss_one (s_ret e_bl)))
end
def fn : List He.DefD := [⟨(st "_law_well", none), st "_law_well", st "_law_well", defArgs s_law_well, defBody s_law_well, defScope s_law_well, [], []⟩, ⟨(st "_law_take", none), st "_law_take", st "_law_take", defArgs s_law_take, defBody s_law_take, defScope s_law_take, [], []⟩, ⟨(st "_law_marks", none), st "_law_marks", st "_law_marks", defArgs s_law_marks, defBody s_law_marks, defScope s_law_marks, [], []⟩, ⟨(st "_law_far", none), st "_law_far", st "_law_far", defArgs s_law_far, defBody s_law_far, defScope s_law_far, [], []⟩, ⟨(st "look_at_size", none), st "look_at_size", st "look_at_size", defArgs s_look_at_size, defBody s_look_at_size, defScope s_look_at_size, [], []⟩, ⟨(st "look_at_mark", none), st "look_at_mark", st "look_at_mark", defArgs s_look_at_mark, defBody s_look_at_mark, defScope s_look_at_mark, [], []⟩, ⟨(st "look_at_marks", none), st "look_at_marks", st "look_at_marks", defArgs s_look_at_marks, defBody s_look_at_marks, defScope s_look_at_marks, [], []⟩, ⟨(st "front", none), st "front", st "front", defArgs s_front, defBody s_front, defScope s_front, [], []⟩, ⟨(st "lap_bits", none), st "lap_bits", st "lap_bits", defArgs s_lap_bits, defBody s_lap_bits, defScope s_lap_bits, [], []⟩, ⟨(st "giver_turn", none), st "giver_turn", st "giver_turn", defArgs s_giver_turn, defBody s_giver_turn, defScope s_giver_turn, [], []⟩, ⟨(st "odd_bits", none), st "odd_bits", st "odd_bits", defArgs s_odd_bits, defBody s_odd_bits, defScope s_odd_bits, [], []⟩, ⟨(st "taker_turn", none), st "taker_turn", st "taker_turn", defArgs s_taker_turn, defBody s_taker_turn, defScope s_taker_turn, [], []⟩, ⟨(st "look_at_turn", none), st "look_at_turn", st "look_at_turn", defArgs s_look_at_turn, defBody s_look_at_turn, defScope s_look_at_turn, [], []⟩, ⟨(st "distance", none), st "distance", st "distance", defArgs s_distance, defBody s_distance, defScope s_distance, [], []⟩, ⟨(st "sound_marks", none), st "sound_marks", st "sound_marks", defArgs s_sound_marks, defBody s_sound_marks, defScope s_sound_marks, [], []⟩, ⟨(st "_law_flags", none), st "_law_flags", st "_law_flags", defArgs s_law_flags, defBody s_law_flags, defScope s_law_flags, [], []⟩, ⟨(st "_law_asked", none), st "_law_asked", st "_law_asked", defArgs s_law_asked_v1, defBody s_law_asked_v1, defScope s_law_asked_v1, [], []⟩, ⟨(st "_law_only", none), st "_law_only", st "_law_only", defArgs s_law_only, defBody s_law_only, defScope s_law_only, [], []⟩, ⟨(st "lap_of", none), st "lap_of", st "lap_of", defArgs s_lap_of, defBody s_lap_of, defScope s_lap_of, [], []⟩, ⟨(st "place_of", none), st "place_of", st "place_of", defArgs s_place_of, defBody s_place_of, defScope s_place_of, [], []⟩, ⟨(st "bits_of", none), st "bits_of", st "bits_of", defArgs s_bits_of, defBody s_bits_of, defScope s_bits_of, [], []⟩, ⟨(st "marks_of", none), st "marks_of", st "marks_of", defArgs s_marks_of, defBody s_marks_of, defScope s_marks_of, [], []⟩, ⟨(st "_law_made", none), st "_law_made", st "_law_made", defArgs s_law_made, defBody s_law_made, defScope s_law_made, [], []⟩, ⟨(st "_law_turns_refused", none), st "_law_turns_refused", st "_law_turns_refused", defArgs s_law_turns_refused, defBody s_law_turns_refused, defScope s_law_turns_refused, [], []⟩, ⟨(st "law", none), st "law", st "law", defArgs s_law_v5, defBody s_law_v5, defScope s_law_v5, [], []⟩]
def fa : List He.Fa := [.glo (st "_law_well"), .glo (st "_law_take"), .glo (st "_law_marks"), .glo (st "_law_far"), .glo (st "look_at_size"), .glo (st "look_at_mark"), .glo (st "look_at_marks"), .glo (st "front"), .glo (st "lap_bits"), .glo (st "giver_turn"), .glo (st "odd_bits"), .glo (st "taker_turn"), .glo (st "look_at_turn"), .glo (st "distance"), .glo (st "sound_marks"), .glo (st "_law_flags"), .glo (st "_law_asked"), .glo (st "_law_only"), .glo (st "lap_of"), .glo (st "place_of"), .glo (st "bits_of"), .glo (st "marks_of"), .glo (st "_law_made"), .glo (st "_law_turns_refused"), .glo (st "law"), .free (st "len"), .free (st "range"), .free (st "int"), .int (st "LEAST_SIZE") 2, .int (st "MOST_SIZE") 8, .exc (st "BadSize"), .glo (st "BadSize"), .exc (st "BadMark"), .glo (st "BadMark"), .exc (st "Crooked"), .glo (st "Crooked"), .exc (st "NoTurn"), .glo (st "NoTurn"), .free (st "isinstance"), .glo (st "BadCells"), .glo (st "BadOrder"), .glo (st "BadStand"), .glo (st "NoCell"), .glo (st "NoHand"), .glo (st "NoName"), .glo (st "NoRow"), .glo (st "NoText"), .glo (st "NoWaiting"), .glo (st "NotSound"), .glo (st "TooMany"), .free (st "ValueError"), .glo (st "RingError"), .free (st "zip"), .free (st "max"), .free (st "min"), .free (st "list")]
def exs (K : PySem.W.Frag) : Bool := (trChk Er "Crooked" K && (isChk Er IsDs K && trChk Er "RingError" K))
abbrev Rw : PySem.W.OpenRow := PySem.W.OpenLaw.row PySem.Challenge.rw_slipring_k26_rows_of_marks_refused
abbrev hk : PySem.W.Hook := hookM 6 fa fn exs
def ob (s : PySem.W.SharedT) : AlM := obsMG 6 fa fn exs (HandSHeadRun.getT s)
theorem ob_eq (s : PySem.W.SharedT) : ob s = hk.obs s.abs := obsMG_eq (HandSHeadRun.getT_eq s)
def loose0 : List PySem.Str := ["RingError", "BadSize", "NoTurn", "BadMark", "Crooked", "NoCell", "BadCells", "BadOrder", "NoHand", "NoWaiting", "NotSound", "BadStand", "TooMany", "NoName", "NoText", "NoRow", "LEAST_SIZE", "MOST_SIZE", "look_at_size", "look_at_turn", "place_of", "lap_of", "distance", "look_at_mark", "front", "look_at_marks", "lap_bits", "odd_bits", "giver_turn", "taker_turn"]
def loose1 : List PySem.Str := ["bits_of", "marks_of", "sound_marks", "_law_well", "_law_take", "_law_far", "_law_marks", "_law_flags", "_law_asked", "_law_made", "_law_only", "_law_turns_refused"]
def loose : List PySem.Str := loose0 ++ loose1
theorem run (w : World) : HandSHeadRun.RunEq Rw (PySem.W.view Rw.prog [47]) hk ob 60000 loose w := by
  intro os
  kernel_rfl
theorem facts {P : Program} {w : World} {K : PySem.W.Frag} {h base : Heap} {mg : Str → Option Value} (X : K.In h) (G : h.Ns mainGlobals mg) (c : SaysM fa fn exs K) : FnM (TT K) P w mg base 9 "law" ["script"] F_law_v5 := by
  have m_len : mg (st "len") = none := He.free_ok X G (c.fact 25 rfl)
  have m_range : mg (st "range") = none := He.free_ok X G (c.fact 26 rfl)
  have m_int : mg (st "int") = none := He.free_ok X G (c.fact 27 rfl)
  have c_LEAST_SIZE : ∃ t, mg (st "LEAST_SIZE") = some (.int 2 t) := He.int_ok X G (c.fact 28 rfl)
  have c_MOST_SIZE : ∃ t, mg (st "MOST_SIZE") = some (.int 8 t) := He.int_ok X G (c.fact 29 rfl)
  have ex_BadSize : ExF (TT K) mg "BadSize" := exF_of (T := TT K) (show _ ∈ Er by decide) (c.fact 30 rfl) (He.glo_ok X G (c.fact 31 rfl))
  have ex_BadMark : ExF (TT K) mg "BadMark" := exF_of (T := TT K) (show _ ∈ Er by decide) (c.fact 32 rfl) (He.glo_ok X G (c.fact 33 rfl))
  have ex_Crooked : ExF (TT K) mg "Crooked" := exF_of (T := TT K) (show _ ∈ Er by decide) (c.fact 34 rfl) (He.glo_ok X G (c.fact 35 rfl))
  have ex_NoTurn : ExF (TT K) mg "NoTurn" := exF_of (T := TT K) (show _ ∈ Er by decide) (c.fact 36 rfl) (He.glo_ok X G (c.fact 37 rfl))
  have tr_Crooked : TrF (TT K) mg "Crooked" := trF_of (T := TT K) ((He.ba c.x).1) (He.glo_ok X G (c.fact 35 rfl))
  have m_isinstance : mg (st "isinstance") = none := He.free_ok X G (c.fact 38 rfl)
  have isf : IsF (TT K) mg IsDs := isF_of (T := TT K) ((He.ba (He.ba c.x).2).1) (fun d hd => He.glo_ok X G (c.facts (by revert d; simp [IsDs, fa])))
  have m_ValueError : mg (st "ValueError") = none := He.free_ok X G (c.fact 50 rfl)
  have tr_RingError : TrF (TT K) mg "RingError" := trF_of (T := TT K) ((He.ba (He.ba c.x).2).2) (He.glo_ok X G (c.fact 51 rfl))
  have m_zip : mg (st "zip") = none := He.free_ok X G (c.fact 52 rfl)
  have m_max : mg (st "max") = none := He.free_ok X G (c.fact 53 rfl)
  have m_min : mg (st "min") = none := He.free_ok X G (c.fact 54 rfl)
  have m_list : mg (st "list") = none := He.free_ok X G (c.fact 55 rfl)
  have f__law_well := ok_law_well (P := P) (w := w) (base := base) m_len (c.d.def_ 0 (d := fn[0]) rfl) (He.glo_ok X G (c.fact 0 rfl))
  have f__law_take := ok_law_take (P := P) (w := w) (base := base)  (c.d.def_ 1 (d := fn[1]) rfl) (He.glo_ok X G (c.fact 1 rfl))
  have f__law_marks := ok_law_marks (P := P) (w := w) (base := base) m_range m_int (c.d.def_ 2 (d := fn[2]) rfl) (He.glo_ok X G (c.fact 2 rfl))
  have f__law_far := ok_law_far (P := P) (w := w) (base := base) f__law_take (c.d.def_ 3 (d := fn[3]) rfl) (He.glo_ok X G (c.fact 3 rfl))
  have f_look_at_size := ok_look_at_size (P := P) (w := w) (base := base) c_LEAST_SIZE c_MOST_SIZE ex_BadSize (c.d.def_ 4 (d := fn[4]) rfl) (He.glo_ok X G (c.fact 4 rfl))
  have f_look_at_mark := ok_look_at_mark (P := P) (w := w) (base := base) ex_BadMark (c.d.def_ 5 (d := fn[5]) rfl) (He.glo_ok X G (c.fact 5 rfl))
  have f_look_at_marks := ok_look_at_marks (P := P) (w := w) (base := base) f_look_at_size m_len f_look_at_mark (c.d.def_ 6 (d := fn[6]) rfl) (He.glo_ok X G (c.fact 6 rfl))
  have f_front := ok_front (P := P) (w := w) (base := base) f_look_at_size m_len ex_BadMark ex_Crooked (c.d.def_ 7 (d := fn[7]) rfl) (He.glo_ok X G (c.fact 7 rfl))
  have f_lap_bits := ok_lap_bits (P := P) (w := w) (base := base)  (c.d.def_ 8 (d := fn[8]) rfl) (He.glo_ok X G (c.fact 8 rfl))
  have f_giver_turn := ok_giver_turn (P := P) (w := w) (base := base) f_look_at_marks f_front f_lap_bits (c.d.def_ 9 (d := fn[9]) rfl) (He.glo_ok X G (c.fact 9 rfl))
  have f_odd_bits := ok_odd_bits (P := P) (w := w) (base := base)  (c.d.def_ 10 (d := fn[10]) rfl) (He.glo_ok X G (c.fact 10 rfl))
  have f_taker_turn := ok_taker_turn (P := P) (w := w) (base := base) f_look_at_marks f_front f_odd_bits (c.d.def_ 11 (d := fn[11]) rfl) (He.glo_ok X G (c.fact 11 rfl))
  have f_look_at_turn := ok_look_at_turn (P := P) (w := w) (base := base) f_look_at_size ex_NoTurn (c.d.def_ 12 (d := fn[12]) rfl) (He.glo_ok X G (c.fact 12 rfl))
  have f_distance := ok_distance (P := P) (w := w) (base := base) f_look_at_turn (c.d.def_ 13 (d := fn[13]) rfl) (He.glo_ok X G (c.fact 13 rfl))
  have f_sound_marks := ok_sound_marks (P := P) (w := w) (base := base) f_look_at_marks tr_Crooked f_giver_turn f_taker_turn f_distance m_len (c.d.def_ 14 (d := fn[14]) rfl) (He.glo_ok X G (c.fact 14 rfl))
  have fe__law_flags := ok_law_flags (P := P) (w := w) (base := base) m_isinstance isf m_ValueError (c.d.def_ 15 (d := fn[15]) rfl) (He.glo_ok X G (c.fact 15 rfl))
  have f__law_asked := ok_law_asked_v1 (P := P) (w := w) (base := base) tr_RingError f_giver_turn f_taker_turn f_sound_marks fe__law_flags (c.d.def_ 16 (d := fn[16]) rfl) (He.glo_ok X G (c.fact 16 rfl))
  have f__law_only := ok_law_only (P := P) (w := w) (base := base) m_range (c.d.def_ 17 (d := fn[17]) rfl) (He.glo_ok X G (c.fact 17 rfl))
  have f_lap_of := ok_lap_of (P := P) (w := w) (base := base) f_look_at_turn (c.d.def_ 18 (d := fn[18]) rfl) (He.glo_ok X G (c.fact 18 rfl))
  have f_place_of := ok_place_of (P := P) (w := w) (base := base) f_look_at_turn (c.d.def_ 19 (d := fn[19]) rfl) (He.glo_ok X G (c.fact 19 rfl))
  have f_bits_of := ok_bits_of (P := P) (w := w) (base := base) f_lap_of f_place_of (c.d.def_ 20 (d := fn[20]) rfl) (He.glo_ok X G (c.fact 20 rfl))
  have f_marks_of := ok_marks_of (P := P) (w := w) (base := base) f_look_at_turn f_distance ex_Crooked m_zip f_bits_of (c.d.def_ 21 (d := fn[21]) rfl) (He.glo_ok X G (c.fact 21 rfl))
  have f__law_made := ok_law_made (P := P) (w := w) (base := base) tr_RingError f_marks_of fe__law_flags (c.d.def_ 22 (d := fn[22]) rfl) (He.glo_ok X G (c.fact 22 rfl))
  have f__law_turns_refused := ok_law_turns_refused (P := P) (w := w) (base := base) f__law_far f__law_take f__law_made f__law_only (c.d.def_ 23 (d := fn[23]) rfl) (He.glo_ok X G (c.fact 23 rfl))
  have f_law := ok_law_v5 (P := P) (w := w) (base := base) m_range m_max m_min m_len f__law_well f__law_take f__law_marks f__law_far m_list f__law_asked f__law_only f__law_turns_refused (c.d.def_ 24 (d := fn[24]) rfl) (He.glo_ok X G (c.fact 24 rfl))
  exact f_law
theorem law_facts {P : Program} {w : World} {K : PySem.W.Frag} {h : Heap} {mg : Str → Option Value} {f : Addr} (X : K.In h) (G : h.Ns mainGlobals mg) (hfa : mg ("law" : Str) = some (.ref f)) (c : SaysM fa fn exs K) :
    ∃ fd : FuncData, (∀ (s : Shared) (v : Value), BindsTo s fd ⟨[v], []⟩ [("script", v)]) ∧ ∀ base : Heap, FnOk P w K mg base L2.CX0 9 f fd ["script"] fun vs H Q _ => spM (TT K) F_law_v5 vs H Q fun _ _ _ => False := by
  have g := facts (P := P) (w := w) (base := h) X G c
  have e := hfa.symm.trans g.at_
  cases e
  obtain ⟨fd, F⟩ := c.d.def_ 24 (d := fn[24]) rfl
  refine ⟨fd, fun s v => ?_, fun base => ?_⟩
  · exact FunD.bindsA (ps := ["script"]) F (fun _ _ _ _ _ _ us hl => match us, hl with | [_], _ => rfl) s [v] rfl
  · obtain ⟨fd2, g1, _, a2⟩ := (facts (P := P) (w := w) (base := base) X G c).ok
    have a1 : FdAt K (He.ga K (st "law")) fd := let ⟨oc, od, _, _, _, _, _, _, _, osl, _, l, _⟩ := F.ex; ⟨oc, od, osl, l⟩
    rw [FdAt.inj a1 a2]
    exact nox_ok (T := TT K) g1
end Mi
end TxDerk26

section TxFink26
set_option Elab.async false
set_option linter.all false
set_option maxRecDepth 100000
set_option maxHeartbeats 0
open PySem PySem.W PySem.Calls PyProof.Rows
theorem PySem.Challenge.cw_slipring_k26_rows_of_marks_refused_holds : PySem.Challenge.rw_slipring_k26_rows_of_marks_refused.Holds := by
  w_on; o_law
  refine HandSHeadRun.head_any (r := OpenLaw.row PySem.Challenge.rw_slipring_k26_rows_of_marks_refused) (q := view (OpenLaw.row PySem.Challenge.rw_slipring_k26_rows_of_marks_refused).prog [47]) (H := Mi.hk) (ob := Mi.ob) (M := 60000) (loose := Mi.loose) (d := HandSHeadRun.topDef (OpenLaw.row PySem.Challenge.rw_slipring_k26_rows_of_marks_refused).prog 47) (kwd := []) Mi.ob_eq
    (by kernel_rfl) (fun s => by kernel_rfl) Mi.run (by kernel_rfl) (by kernel_rfl) (by kernel_rfl) (by rfl) (by first | assumption | decide +kernel) (by decide +kernel) ⟨rfl, rfl, rfl, rfl, rfl, by decide +kernel⟩ ?hw ?hc
  case hw => w_witness2
  case hc =>
    refine L2.walk_ofE (l := PySem.Challenge.rw_slipring_k26_rows_of_marks_refused) (n := 63) (k := 9) (x := "script") (CX := L2.CX0) rfl (by decide) (by kernel_rfl) ⟨rfl, by decide, by decide⟩ ?F (fun _ _ _ _ z => z)
    intro w mg fa h Y G hmg0
    obtain ⟨K, KX, c⟩ := Y
    have hmg : mg ("law" : PySem.Str) = some (.ref fa) := by
      have e : (HandSHeadRun.topDef (OpenLaw.row PySem.Challenge.rw_slipring_k26_rows_of_marks_refused).prog 47).name = ("law" : PySem.Str) := by kernel_rfl
      rw [← e]
      exact hmg0
    obtain ⟨fd, hb, hF⟩ := Mi.law_facts (P := (PySem.Challenge.rw_slipring_k26_rows_of_marks_refused).prog) (w := w) KX G hmg c
    exact ⟨K, fd, fun vs H Q _ => Mi.spM (Mi.TT K) Mi.F_law_v5 vs H Q fun _ _ _ => False, KX, hb, fun H a ns hl hO hS => Mi.law_sp hO hS (Mi.law_true_v5 ns hl Mi.h0 _), fun base _ _ => hF base⟩
end TxFink26
