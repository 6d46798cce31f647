import PyProof.Rows.All
import Wide.All
import OpenK.AllK
import Wide.FinOn
import HandS.ForMost
import HandS.ForExc
import HandS.ExcIs
import HandS.IsInst
import HandS.Strs
import HandS.Wide
import HandS.More
import HandS.Flow
import HandS.TupAny
import HandS.TryMany
import HandS.SuiteRaise
import HandS.Head0
import HandS.Head1
import HandS.Head2
import HandS.HeadEnd
import HandS.HeadHook1
import HandS.HeadHook2
import PyProof.SeqIndex
import HandS.HotCalls
import PySem.Challenge.RW_slipring_k06_boards_touched
import KE.KStateDown
section TxMini
/-! Mini: a small deterministic reading of the Python used here, by weakest preconditions.
Own work. Values: tuples are plain values; lists, dicts, instances lie in a heap of regions (one arena a region). -/
set_option autoImplicit false
set_option linter.all false
namespace Mi

inductive MV where
  | non | bl (b : Bool) | int (i : Int) | str (s : String) | tup (xs : List MV) | cst (xs : List MV) | ref (r i : Nat) | exc (a : Nat)

inductive MO where
  | lst (xs : List MV) | dic (kvs : List (MV × MV)) | ins (c : String) (fs : List (String × MV))

abbrev MH := Nat → List MO
abbrev MS := List (Option MV)
abbrev QV := MV → MH → Prop
abbrev QX := String → MH → Prop
abbrev WE := MS → MH → QV → QX → Prop
abbrev WA := MS → MH → (List MV → MH → Prop) → QX → Prop
abbrev WT := MS → MH → (Bool → MH → Prop) → QX → Prop
abbrev WG := MV → MS → MH → (MS → MH → Prop) → QX → Prop
abbrev WF := List MV → MH → QV → QX → Prop
structure En where
  nx : MS → MH → Prop
  rt : QV
  bk : MS → MH → Prop
  ct : MS → MH → Prop
  ex : String → MS → MH → Prop
abbrev WS := En → MS → MH → Prop
/-- what a loop walks: the items, and what has to stay meanwhile -/
structure Src where
  xs : List MV
  chk : MH → Prop
abbrev WI := MS → MH → (Src → MH → Prop) → QX → Prop

def lim : Nat := 1000000
/-! ### the heap -/
def rd (h : MH) (r i : Nat) : Option MO := (h r)[i]?
def put (h : MH) (r : Nat) (l : List MO) : MH := fun q => if q = r then l else h q
def wr (h : MH) (r i : Nat) (o : MO) : MH := put h r ((h r).set i o)
def al (h : MH) (r : Nat) (o : MO) : MH := put h r (h r ++ [o])
theorem put_same (h : MH) (r : Nat) (l : List MO) : put h r l r = l := if_pos rfl
theorem put_ne (h : MH) {r q : Nat} (l : List MO) (e : q ≠ r) : put h r l q = h q := if_neg e
theorem put_put (h : MH) (r : Nat) (l m : List MO) : put (put h r l) r m = put h r m := by
  funext q; unfold put; split <;> rfl
theorem put_self (h : MH) (r : Nat) : put h r (h r) = h := by
  funext q; unfold put; split
  · rename_i e; rw [e]
  · rfl
theorem put_comm (h : MH) {r q : Nat} (l m : List MO) (e : r ≠ q) : put (put h r l) q m = put (put h q m) r l := by
  funext p; unfold put
  by_cases e1 : p = q
  · subst e1; rw [if_pos rfl, if_neg (fun z => e z.symm), if_pos rfl]
  · rw [if_neg e1]
    by_cases e2 : p = r
    · rw [if_pos e2, if_pos e2]
    · rw [if_neg e2, if_neg e2, if_neg e1]

/-! ### plain data, for == -/
inductive PD where
  | non | bl (b : Bool) | int (i : Int) | str (s : String) | tup (xs : List PD) | lst (xs : List PD)
mutual
def PD.eqv : PD → PD → Bool
  | .non, .non => true
  | .bl a, .bl b => a == b
  | .bl a, .int j => (if a then 1 else 0) == j
  | .int i, .bl b => i == (if b then 1 else 0)
  | .int i, .int j => decide (i = j)
  | .str x, .str y => decide (x = y)
  | .tup xs, .tup ys => PD.eqvs xs ys
  | .lst xs, .lst ys => PD.eqvs xs ys
  | _, _ => false
def PD.eqvs : List PD → List PD → Bool
  | [], [] => true
  | x :: xs, y :: ys => PD.eqv x y && PD.eqvs xs ys
  | _, _ => false
end
/-- the data of a value, lists read in the heap to the depth n -/
def dat (h : MH) : Nat → MV → Option PD
  | _, .non => some .non
  | _, .bl b => some (.bl b)
  | _, .int i => some (.int i)
  | _, .str s => some (.str s)
  | 0, _ => none
  | n + 1, .tup xs => (xs.mapM (dat h n)).map .tup
  | n + 1, .cst xs => (xs.mapM (dat h n)).map .lst
  | n + 1, .ref r i => match rd h r i with
    | some (.lst xs) => (xs.mapM (dat h n)).map .lst
    | _ => none
  | _, .exc _ => none
def deep : Nat := 8

/-- == of flat values -/
@[simp] def flat : MV → Bool
  | .non => true | .bl _ => true | .int _ => true | .str _ => true | _ => false
@[simp] def eqF : MV → MV → Bool
  | .non, .non => true
  | .bl a, .bl b => a == b
  | .bl a, .int b => (if a then 1 else 0) == b
  | .int a, .bl b => a == (if b then 1 else 0)
  | .int a, .int b => decide (a = b)
  | .str a, .str b => decide (a = b)
  | _, _ => false

/-! ### operations by values -/
abbrev Op2 := MV → MV → MH → QV → Prop
abbrev Op1 := MV → MH → QV → Prop
def small (i : Int) : Prop := -(2 ^ 63) < i ∧ i < 2 ^ 63
@[simp ↓] def oAdd (r : Nat) : Op2
  | .int i, .int j, h, Q => Q (.int (i + j)) h
  | .str a, .str b, h, Q => a.length + b.length ≤ lim ∧ Q (.str (a ++ b)) h
  | .tup a, .tup b, h, Q => a.length + b.length ≤ lim ∧ Q (.tup (a ++ b)) h
  | .ref p i, .ref q j, h, Q => match rd h p i, rd h q j with
    | some (.lst a), some (.lst b) => a.length + b.length ≤ lim ∧ Q (.ref r (h r).length) (al h r (.lst (a ++ b)))
    | _, _ => False
  | _, _, _, _ => False
@[simp ↓] def oSub : Op2
  | .int i, .int j, h, Q => Q (.int (i - j)) h
  | _, _, _, _ => False
def rep (xs : List MV) (n : Nat) : List MV := (List.replicate n xs).flatten
@[simp ↓] def oMul (r : Nat) : Op2
  | .int i, .int j, h, Q => (small i ∨ small j) ∧ Q (.int (i * j)) h
  | .ref p i, .int k, h, Q => match rd h p i with
    | some (.lst a) => small k ∧ k ≤ lim ∧ a.length * k.toNat ≤ lim ∧ Q (.ref r (h r).length) (al h r (.lst (rep a k.toNat)))
    | _ => False
  | _, _, _, _ => False
/-- the greatest divisor of a floor division -/
def dmax : Int := 10 ^ 60
@[simp ↓] def oDiv : Op2
  | .int i, .int j, h, Q => 0 < j ∧ j ≤ dmax ∧ Q (.int (i / j)) h
  | _, _, _, _ => False
@[simp ↓] def oMod : Op2
  | .int i, .int j, h, Q => 0 < j ∧ Q (.int (i % j)) h
  | _, _, _, _ => False
@[simp ↓] def oPow : Op2
  | .int i, .int j, h, Q => 0 ≤ j ∧ j ≤ 1000 ∧ small i ∧ Q (.int (i ^ j.toNat)) h
  | _, _, _, _ => False
@[simp ↓] def oLt : Op2
  | .int i, .int j, h, Q => Q (.bl (decide (i < j))) h
  | _, _, _, _ => False
@[simp ↓] def oLe : Op2
  | .int i, .int j, h, Q => Q (.bl (decide (i ≤ j))) h
  | _, _, _, _ => False
@[simp ↓] def oGt : Op2
  | .int i, .int j, h, Q => Q (.bl (decide (j < i))) h
  | _, _, _, _ => False
@[simp ↓] def oGe : Op2
  | .int i, .int j, h, Q => Q (.bl (decide (j ≤ i))) h
  | _, _, _, _ => False
@[simp] def oEq : Op2 := fun x y h Q => match dat h deep x, dat h deep y with
  | some d, some e => Q (.bl (PD.eqv d e)) h
  | _, _ => False
@[simp] def oNe : Op2 := fun x y h Q => match dat h deep x, dat h deep y with
  | some d, some e => Q (.bl (!PD.eqv d e)) h
  | _, _ => False
@[simp] def isN : MV → Bool
  | .non => true | _ => false
@[simp] def oIsN : Op2 := fun x y h Q => match y with
  | .non => Q (.bl (isN x)) h
  | _ => False
/-- is True, is not True, of truths -/
@[simp] def oIsB : Op2 := fun x y h Q => match x, y with
  | .bl a, .bl b => Q (.bl (a == b)) h
  | _, _ => False
@[simp] def oNotB : Op2 := fun x y h Q => match x, y with
  | .bl a, .bl b => Q (.bl (!(a == b))) h
  | _, _ => False
@[simp] def oNotN : Op2 := fun x y h Q => match y with
  | .non => Q (.bl (!isN x)) h
  | _ => False
def hasKey (k : MV) (kvs : List (MV × MV)) : Bool := kvs.any fun p => eqF p.1 k
def atKey (k : MV) (kvs : List (MV × MV)) : Option MV := (kvs.find? fun p => eqF p.1 k).map (·.2)
def putKey (k v : MV) (kvs : List (MV × MV)) : List (MV × MV) := if hasKey k kvs then kvs.map fun p => if eqF p.1 k then (p.1, v) else p else kvs ++ [(k, v)]
@[simp] def isKey : MV → Bool
  | .int _ => true | .str _ => true | _ => false
def inB (x y : MV) (h : MH) : Option Bool := match y with
  | .tup ys => if flat x && ys.all flat then some (ys.any fun y => eqF y x) else none
  | .cst ys => if flat x && ys.all flat then some (ys.any fun y => eqF y x) else none
  | .ref r i => match rd h r i with
    | some (.lst ys) => if flat x && ys.all flat then some (ys.any fun y => eqF y x) else none
    | some (.dic kvs) => if isKey x then some (hasKey x kvs) else none
    | _ => none
  | .str z => match x with
    | .str c => match c.toList with
      | [c] => some (z.toList.any fun d => decide (d = c))
      | _ => none
    | _ => none
  | _ => none
@[simp] def oIn : Op2 := fun x y h Q => match inB x y h with
  | some b => Q (.bl b) h
  | none => False
@[simp] def oNotIn : Op2 := fun x y h Q => match inB x y h with
  | some b => Q (.bl (!b)) h
  | none => False
/-- the place that an index means -/
def ixN (n : Nat) (i : Int) : Option Nat := if 0 ≤ i then (if i < n then some i.toNat else none) else if -(n : Int) ≤ i then some (i + n).toNat else none
def atI {α : Type} (xs : List α) (i : Int) : Option α := (ixN xs.length i).bind fun j => xs[j]?
@[simp] def getIx (x k : MV) (h : MH) : Option MV := match x, k with
  | .tup xs, .int i => atI xs i
  | .cst xs, .int i => atI xs i
  | .str s, .int i => if s.length ≤ lim then (atI s.toList i).map fun c => .str (String.singleton c) else none
  | .ref r j, k => match rd h r j, k with
    | some (.lst xs), .int i => atI xs i
    | some (.dic kvs), k => if isKey k then atKey k kvs else none
    | _, _ => none
  | _, _ => none
@[simp] def oIx : Op2 := fun x k h Q => match getIx x k h with
  | some v => Q v h
  | none => False
@[simp ↓] def uNeg : Op1
  | .int i, h, Q => Q (.int (-i)) h
  | _, _, _ => False
def sIx (n d : Nat) : Option Int → Nat
  | none => d
  | some i => if i < 0 then (i + n).toNat else min i.toNat n
def cut {α : Type} (xs : List α) (lo hi : Option Int) : List α := (xs.drop (sIx xs.length 0 lo)).take (sIx xs.length xs.length hi - sIx xs.length 0 lo)
/-- truth -/
@[simp] def tru (h : MH) : MV → Option Bool
  | .non => some false
  | .bl b => some b
  | .int i => some (decide (i ≠ 0))
  | .str s => if s.length ≤ lim then some (decide (s ≠ "")) else none
  | .tup xs => some (!xs.isEmpty)
  | .cst xs => some (!xs.isEmpty)
  | .ref r i => match rd h r i with
    | some (.lst xs) => some (!xs.isEmpty)
    | some (.dic kvs) => some (!kvs.isEmpty)
    | _ => none
  | .exc _ => none

/-! ### expressions -/
@[simp] def wV (i : Nat) : WE := fun σ h Q _ => match σ[i]? with
  | some (some v) => Q v h
  | _ => False
@[simp] def wC (v : MV) : WE := fun _ h Q _ => Q v h
@[simp] def wOp (o : Op2) (a b : WE) : WE := fun σ h Q E => a σ h (fun x h1 => b σ h1 (fun y h2 => o x y h2 Q) E) E
@[simp] def wUn (o : Op1) (a : WE) : WE := fun σ h Q E => a σ h (fun x h1 => o x h1 Q) E
@[simp] def wChain (o o' : Op2) (a b c : WE) : WE := fun σ h Q E => a σ h (fun x h1 => b σ h1 (fun y h2 => o x y h2 fun z h3 => match z with
  | .bl k => if k = true then c σ h3 (fun w h4 => o' y w h4 Q) E else Q (.bl false) h3
  | _ => False) E) E
@[simp] def wIf (t : WT) (a b : WE) : WE := fun σ h Q E => t σ h (fun k h1 => if k = true then a σ h1 Q E else b σ h1 Q E) E
@[simp] def wAndV (a b : WE) : WE := fun σ h Q E => a σ h (fun x h1 => match x with
  | .bl k => if k = true then b σ h1 Q E else Q (.bl false) h1
  | _ => False) E
@[simp] def wOrV (a b : WE) : WE := fun σ h Q E => a σ h (fun x h1 => match x with
  | .bl k => if k = true then Q (.bl true) h1 else b σ h1 Q E
  | _ => False) E
@[simp] def wNot (t : WT) : WE := fun σ h Q E => t σ h (fun k h1 => Q (.bl (!k)) h1) E
/-! tests -/
@[simp] def tV (a : WE) : WT := fun σ h Q E => a σ h (fun x h1 => match x with
  | .bl k => Q k h1
  | _ => False) E
@[simp] def tTru (a : WE) : WT := fun σ h Q E => a σ h (fun x h1 => match tru h1 x with
  | some k => Q k h1
  | none => False) E
@[simp] def tAnd (a b : WT) : WT := fun σ h Q E => a σ h (fun k h1 => if k = true then b σ h1 Q E else Q false h1) E
@[simp] def tOr (a b : WT) : WT := fun σ h Q E => a σ h (fun k h1 => if k = true then Q true h1 else b σ h1 Q E) E
@[simp] def tNot (a : WT) : WT := fun σ h Q E => a σ h (fun k h1 => Q (!k) h1) E
@[simp] def tYes : WT := fun _ h Q _ => Q true h
/-! argument lists, displays -/
@[simp] def aNil : WA := fun _ h Q _ => Q [] h
@[simp] def aCons (a : WE) (b : WA) : WA := fun σ h Q E => a σ h (fun x h1 => b σ h1 (fun xs h2 => Q (x :: xs) h2) E) E
@[simp] def wTup (a : WA) : WE := fun σ h Q E => a σ h (fun xs h1 => xs.length ≤ lim ∧ Q (.tup xs) h1) E
@[simp] def wLst (r : Nat) (a : WA) : WE := fun σ h Q E => a σ h (fun xs h1 => xs.length ≤ lim ∧ Q (.ref r (h1 r).length) (al h1 r (.lst xs))) E
/-- calls -/
@[simp] def wCall (F : WF) (a : WA) : WE := fun σ h Q E => a σ h (fun vs h1 => F vs h1 Q E) E
@[simp] def wMeth (tb : String → Option WF) (o : WE) (a : WA) : WE := fun σ h Q E => o σ h (fun x h1 => match x with
  | .ref r i => match rd h1 r i with
    | some (.ins c _) => match tb c with
      | some F => a σ h1 (fun vs h2 => F (x :: vs) h2 Q E) E
      | none => False
    | _ => False
  | _ => False) E
@[simp] def wMake (c : String) (r : Nat) (F : WF) (a : WA) : WE := fun σ h Q E => a σ h (fun vs h1 =>
  F (.ref r (h1 r).length :: vs) (al h1 r (.ins c [])) (fun v h2 => match v with
    | .non => Q (.ref r (h1 r).length) h2
    | _ => False) E) E
@[simp] def wB (b : List MV → MH → QV → Prop) (a : WA) : WE := fun σ h Q E => a σ h (fun vs h1 => b vs h1 Q) E
@[simp] def hasTy (t : String) (h : MH) : MV → Bool
  | .str _ => t == "str"
  | .ref r i => match rd h r i with
    | some (.lst _) => t == "list"
    | some (.dic _) => t == "dict"
    | _ => false
  | _ => false
@[simp] def wBM (t : String) (b : MV → List MV → MH → QV → Prop) (o : WE) (a : WA) : WE := fun σ h Q E => o σ h (fun x h1 => hasTy t h1 x = true ∧ a σ h1 (fun vs h2 => b x vs h2 Q) E) E
@[simp] def wFld (a : WE) (f : String) : WE := fun σ h Q E => a σ h (fun x h1 => match x with
  | .ref r i => match rd h1 r i with
    | some (.ins _ fs) => match fs.lookup f with
      | some v => Q v h1
      | none => False
    | _ => False
  | _ => False) E
/-- slices -/
abbrev WO := MS → MH → (Option Int → MH → Prop) → QX → Prop
@[simp] def pNone : WO := fun _ h Q _ => Q none h
@[simp] def pSome (a : WE) : WO := fun σ h Q E => a σ h (fun x h1 => match x with
  | .int i => Q (some i) h1
  | _ => False) E
@[simp] def wSl (r : Nat) (a : WE) (lo hi : WO) : WE := fun σ h Q E => a σ h (fun x h1 => lo σ h1 (fun l h2 => hi σ h2 (fun u h3 => match x with
  | .tup xs => Q (.tup (cut xs l u)) h3
  | .str s => s.length ≤ lim ∧ Q (.str (String.ofList (cut s.toList l u))) h3
  | .cst xs => Q (.ref r (h3 r).length) (al h3 r (.lst (cut xs l u)))
  | .ref q i => match rd h3 q i with
    | some (.lst xs) => Q (.ref r (h3 r).length) (al h3 r (.lst (cut xs l u)))
    | _ => False
  | _ => False) E) E) E
/-! targets -/
@[simp] def gN (i : Nat) : WG := fun v σ h Q _ => Q (σ.set i (some v)) h
@[simp] def setIx (x k v : MV) (h : MH) : Option MH := match x, k with
  | .ref r j, k => match rd h r j, k with
    | some (.lst xs), .int i => (ixN xs.length i).map fun n => wr h r j (.lst (xs.set n v))
    | some (.dic kvs), k => if isKey k && decide (kvs.length < lim) then some (wr h r j (.dic (putKey k v kvs))) else none
    | _, _ => none
  | _, _ => none
@[simp] def gIx (o k : WE) : WG := fun v σ h Q E => o σ h (fun x h1 => k σ h1 (fun y h2 => match setIx x y v h2 with
  | some h3 => Q σ h3
  | none => False) E) E
def putF (f : String) (v : MV) : List (String × MV) → List (String × MV)
  | [] => [(f, v)]
  | p :: l => if f = p.1 then (p.1, v) :: l else p :: putF f v l
@[simp] def gFld (o : WE) (f : String) : WG := fun v σ h Q E => o σ h (fun x h1 => match x with
  | .ref r i => match rd h1 r i with
    | some (.ins c fs) => fs.length < 1000 ∧ Q σ (wr h1 r i (.ins c (putF f v fs)))
    | _ => False
  | _ => False) E
abbrev WGs := List MV → MS → MH → (MS → MH → Prop) → QX → Prop
@[simp] def gNil : WGs := fun vs σ h Q _ => match vs with
  | [] => Q σ h
  | _ => False
@[simp] def gCons (g : WG) (gs : WGs) : WGs := fun vs σ h Q E => match vs with
  | v :: vs => g v σ h (fun σ1 h1 => gs vs σ1 h1 Q fun _ _ => False) E
  | [] => False
@[simp] def gTup (n : Nat) (gs : WGs) : WG := fun v σ h Q E => match v with
  | .tup xs => xs.length = n ∧ gs xs σ h Q E
  | _ => False
/-! statements -/
@[simp] def sNx : WS := fun D σ h => D.nx σ h
@[simp] def sSeq (a b : WS) : WS := fun D σ h => a { D with nx := b D } σ h
@[simp] def sAsg (e : WE) (g : WG) : WS := fun D σ h => e σ h (fun x h1 => g x σ h1 D.nx fun c h2 => D.ex c σ h2) fun c h1 => D.ex c σ h1
@[simp] def sEx (e : WE) : WS := fun D σ h => e σ h (fun _ h1 => D.nx σ h1) fun c h1 => D.ex c σ h1
@[simp] def sRet (e : WE) : WS := fun D σ h => e σ h D.rt fun c h1 => D.ex c σ h1
@[simp] def sRetN : WS := fun D _ h => D.rt .non h
@[simp] def sIf (t : WT) (a b : WS) : WS := fun D σ h => t σ h (fun k h1 => if k = true then a D σ h1 else b D σ h1) fun c h1 => D.ex c σ h1
@[simp] def sBrk : WS := fun D σ h => D.bk σ h
@[simp] def sCnt : WS := fun D σ h => D.ct σ h
@[simp] def sRaise (c : String) : WS := fun D σ h => D.ex c σ h
def whileN (t : WT) (b : WS) : Nat → WS
  | 0 => fun _ _ _ => False
  | n + 1 => fun D σ h => t σ h (fun k h1 => if k = true then b { D with nx := whileN t b n D, ct := whileN t b n D, bk := D.nx } σ h1 else D.nx σ h1) fun c h1 => D.ex c σ h1
@[simp] def sWhile (t : WT) (b : WS) : WS := fun D σ h => ∃ n, whileN t b n D σ h
def forR (chk : MH → Prop) (g : WG) (b : WS) : List MV → WS
  | [] => fun D σ h => chk h ∧ D.nx σ h
  | x :: xs => fun D σ h => chk h ∧ g x σ h (fun σ1 h1 => b { D with nx := forR chk g b xs D, ct := forR chk g b xs D, bk := D.nx } σ1 h1) fun c h1 => D.ex c σ h1
theorem forL_ex : ∃ f : (MH → Prop) → WG → WS → List MV → WS, f = forR := ⟨_, rfl⟩
noncomputable def forL : (MH → Prop) → WG → WS → List MV → WS := Classical.choose forL_ex
theorem forL_eq : forL = forR := Classical.choose_spec forL_ex
@[simp] noncomputable def sFor (i : WI) (g : WG) (b : WS) : WS := fun D σ h => i σ h (fun s h1 => forL s.chk g b s.xs D σ h1) fun c h1 => D.ex c σ h1
@[simp] def lstOf (h : MH) : MV → Option (List MV)
  | .ref r i => match rd h r i with
    | some (.lst xs) => some xs
    | _ => none
  | .cst xs => some xs
  | _ => none
/-! what is walked -/
@[simp] def iSeq (a : WE) : WI := fun σ h R E => a σ h (fun x h1 => match x with
  | .tup xs => R ⟨xs, fun _ => True⟩ h1
  | .cst xs => R ⟨xs, fun _ => True⟩ h1
  | .ref r i => match rd h1 r i with
    | some (.lst xs) => R ⟨xs, fun h' => rd h' r i = some (.lst xs)⟩ h1
    | _ => False
  | _ => False) E
def rng (lo : Int) (n : Nat) : List MV := (List.range n).map fun (k : Nat) => .int (lo + (k : Int))
def big (i : Int) : Prop := -(2 ^ 62) ≤ i ∧ i < 2 ^ 62
@[simp] def iRng1 (a : WE) : WI := fun σ h R E => a σ h (fun x h1 => match x with
  | .int j => big j ∧ R ⟨rng 0 j.toNat, fun _ => True⟩ h1
  | _ => False) E
@[simp] def iRng2 (a b : WE) : WI := fun σ h R E => a σ h (fun x h1 => b σ h1 (fun y h2 => match x, y with
  | .int i, .int j => big i ∧ big j ∧ R ⟨rng i (j - i).toNat, fun _ => True⟩ h2
  | _, _ => False) E) E
/-- zip of two lists, and enumerate of one -/
@[simp] def iZip (a b : WE) : WI := fun σ h R E => a σ h (fun x h1 => b σ h1 (fun y h2 => match lstOf h2 x, lstOf h2 y with
  | some xs, some ys => R ⟨(xs.zip ys).map fun p => .tup [p.1, p.2], fun h' => lstOf h' x = some xs ∧ lstOf h' y = some ys⟩ h2
  | _, _ => False) E) E
def enumF (n : Nat) : List MV → List MV
  | [] => []
  | x :: xs => .tup [.int n, x] :: enumF (n + 1) xs
@[simp] def iEnum (a : WE) : WI := fun σ h R E => a σ h (fun x h1 => match lstOf h1 x with
  | some xs => R ⟨enumF 0 xs, fun h' => lstOf h' x = some xs⟩ h1
  | none => False) E
/-! comprehensions -/
def compR (r : Nat) (chk : MH → Prop) (i : Nat) (t : WT) (e : WE) (σ : MS) (Q : QV) : List MV → List MV → MH → Prop
  | [], acc, h => chk h ∧ Q (.ref r (h r).length) (al h r (.lst acc))
  | x :: xs, acc, h => chk h ∧ t (σ.set i (some x)) h (fun k h2 => if k = true
      then e (σ.set i (some x)) h2 (fun v h3 => acc.length < lim ∧ compR r chk i t e σ Q xs (acc ++ [v]) h3) (fun _ _ => False)
      else compR r chk i t e σ Q xs acc h2) (fun _ _ => False)
theorem compL_ex : ∃ f : Nat → (MH → Prop) → Nat → WT → WE → MS → QV → List MV → List MV → MH → Prop, f = compR := ⟨_, rfl⟩
noncomputable def compL : Nat → (MH → Prop) → Nat → WT → WE → MS → QV → List MV → List MV → MH → Prop := Classical.choose compL_ex
theorem compL_eq : compL = compR := Classical.choose_spec compL_ex
@[simp] noncomputable def wComp (r : Nat) (w : WI) (i : Nat) (t : WT) (e : WE) : WE := fun σ h Q E => w σ h (fun s h1 => compL r s.chk i t e σ Q s.xs [] h1) E
/-! defs -/
@[simp] def fnM (np nl : Nat) (body : WS) : WF := fun vs h Q E => vs.length = np ∧
  body ⟨fun _ h' => Q .non h', Q, fun _ _ => False, fun _ _ => False, fun c _ h' => E c h'⟩ (vs.map some ++ List.replicate (nl - vs.length) none) h
/-! errors -/
@[simp] def isSub (c d : String) : Bool := c == d || d == "RingError" || d == "ValueError"
@[simp] def unset (i : Option Nat) (σ : MS) : MS := match i with
  | some i => σ.set i none
  | none => σ
@[simp] def bindE (i : Option Nat) (a : Nat) (σ : MS) : MS := match i with
  | some i => σ.set i (some (.exc a))
  | none => σ
@[simp] def suEn (i : Option Nat) (D : En) : En := { D with nx := fun σ2 h2 => D.nx (unset i σ2) h2, bk := fun σ2 h2 => D.bk (unset i σ2) h2, ct := fun σ2 h2 => D.ct (unset i σ2) h2, ex := fun _ _ _ => False }
@[simp] def tryEn (cs : List String) (i : Option Nat) (su : String → Nat → WS) (D : En) : En :=
  { D with ex := fun c σ1 h1 => if cs.any (isSub c) = true then ∀ a : Nat, su c a (suEn i D) (bindE i a σ1) h1 else D.ex c σ1 h1 }
@[simp] def sTry (b : WS) (cs : List String) (i : Option Nat) (su : String → Nat → WS) : WS := fun D σ h => b (tryEn cs i su D) σ h
/-- isinstance(e, ..) of the error of the suite -/
@[simp] def wIsE (i a : Nat) (b : Bool) : WE := fun σ h Q _ => σ[i]? = some (some (.exc a)) ∧ Q (.bl b) h
/-! built-ins -/
@[simp ↓] def bLen : List MV → MH → QV → Prop
  | [.tup xs], h, Q => xs.length ≤ lim ∧ Q (.int xs.length) h
  | [.cst xs], h, Q => Q (.int xs.length) h
  | [.str s], h, Q => s.length ≤ lim ∧ Q (.int s.length) h
  | [.ref r i], h, Q => match rd h r i with
    | some (.lst xs) => Q (.int xs.length) h
    | some (.dic kvs) => Q (.int kvs.length) h
    | _ => False
  | _, _, _ => False
@[simp ↓] def bInt : List MV → MH → QV → Prop
  | [.int i], h, Q => Q (.int i) h
  | [.bl b], h, Q => Q (.int (if b then 1 else 0)) h
  | _, _, _ => False
@[simp ↓] def bMin : List MV → MH → QV → Prop
  | [.int i, .int j], h, Q => Q (.int (if j < i then j else i)) h
  | _, _, _ => False
@[simp ↓] def bMax : List MV → MH → QV → Prop
  | [.int i, .int j], h, Q => Q (.int (if j > i then j else i)) h
  | _, _, _ => False
@[simp ↓] def bAbs : List MV → MH → QV → Prop
  | [.int i], h, Q => Q (.int (if i < 0 then -i else i)) h
  | _, _, _ => False
@[simp] def allB : List MV → Option (List Bool)
  | [] => some []
  | .bl b :: l => (allB l).map (b :: ·)
  | _ => none
@[simp] def allI : List MV → Option (List Int)
  | [] => some []
  | .int i :: l => (allI l).map (i :: ·)
  | _ => none
@[simp] def seqOf (h : MH) : MV → Option (List MV)
  | .tup xs => some xs
  | x => lstOf h x
@[simp ↓] def bAll : List MV → MH → QV → Prop
  | [x], h, Q => match (lstOf h x).bind allB with
    | some bs => Q (.bl (bs.all id)) h
    | none => False
  | _, _, _ => False
@[simp ↓] def bSum : List MV → MH → QV → Prop
  | [x], h, Q => match (lstOf h x).bind allI with
    | some ns => Q (.int ns.sum) h
    | none => False
  | _, _, _ => False
@[simp ↓] def bList (r : Nat) : List MV → MH → QV → Prop
  | [x], h, Q => match seqOf h x with
    | some xs => Q (.ref r (h r).length) (al h r (.lst xs))
    | none => False
  | _, _, _ => False
@[simp ↓] def bTuple : List MV → MH → QV → Prop
  | [x], h, Q => match seqOf h x with
    | some xs => Q (.tup xs) h
    | none => False
  | _, _, _ => False
/-- the type's name -/
@[simp] def tyN (h : MH) : MV → Option String
  | .non => some "NoneType" | .bl _ => some "bool" | .int _ => some "int" | .str _ => some "str" | .tup _ => some "tuple"
  | .ref r i => match rd h r i with
    | some (.lst _) => some "list"
    | _ => none
  | _ => none
@[simp] def tySub (a b : String) : Bool := a == b || (a == "bool" && b == "int")
@[simp] def bIsi (cs : List String) (a : WE) : WE := fun σ h Q E => a σ h (fun x h1 => match tyN h1 x with
  | some t => Q (.bl (cs.any (tySub t))) h1
  | none => False) E
/-! built-in methods -/
@[simp ↓] def mAppend : MV → List MV → MH → QV → Prop
  | .ref r i, [v], h, Q => match rd h r i with
    | some (.lst xs) => xs.length < lim ∧ Q .non (wr h r i (.lst (xs ++ [v])))
    | _ => False
  | _, _, _, _ => False
@[simp ↓] def mClear : MV → List MV → MH → QV → Prop
  | .ref r i, [], h, Q => match rd h r i with
    | some (.lst _) => Q .non (wr h r i (.lst []))
    | _ => False
  | _, _, _, _ => False
def mIndex : MV → List MV → MH → QV → Prop
  | x, [y], h, Q => match lstOf h x with
    | some xs => flat y = true ∧ xs.all flat = true ∧ true ∈ xs.map (fun m => eqF m y) ∧ xs.length ≤ lim ∧ Q (.int ((xs.map fun m => eqF m y).idxOf true)) h
    | none => False
  | _, _, _, _ => False
@[simp ↓] theorem mIndex_ref (r i : Nat) (y : MV) (h : MH) (Q : QV) : mIndex (.ref r i) [y] h Q = match rd h r i with
    | some (.lst xs) => flat y = true ∧ xs.all flat = true ∧ true ∈ xs.map (fun m => eqF m y) ∧ xs.length ≤ lim ∧ Q (.int ((xs.map fun m => eqF m y).idxOf true)) h
    | _ => False := by
  show (match lstOf h (.ref r i) with
    | some xs => flat y = true ∧ xs.all flat = true ∧ true ∈ xs.map (fun m => eqF m y) ∧ xs.length ≤ lim ∧ Q (.int ((xs.map fun m => eqF m y).idxOf true)) h
    | none => False) = _
  simp only [lstOf]
  cases rd h r i with
  | none => rfl
  | some o => cases o <;> rfl
/-- NAMES.index(e), NAMES a tuple of texts of the text -/
def wTupIx (ss : List String) (a : WE) : WE := fun σ h Q E => a σ h (fun x h1 => match x with
  | .str s => match ss.findIdx? fun t => decide (t = s) with
    | some n => Q (.int n) h1
    | none => False
  | _ => False) E
/-! ### simplification -/
@[simp ↓ high] theorem gx_zero {α : Type} (a : α) (l : List α) : (a :: l)[0]? = some a := rfl
@[simp ↓ high] theorem gx_succ {α : Type} (a : α) (l : List α) (n : Nat) : (a :: l)[n + 1]? = l[n]? := rfl
@[simp ↓ high] theorem gx_end {α : Type} (a : α) (l : List α) : (l ++ [a])[l.length]? = some a := by simp
@[simp] theorem put_same' (h : MH) (r : Nat) (l : List MO) : put h r l r = l := put_same h r l
@[simp] theorem put_ne' (h : MH) {r q : Nat} (l : List MO) (e : q ≠ r) : put h r l q = h q := put_ne h l e
@[simp] theorem rd_put (h : MH) (r i : Nat) (l : List MO) : rd (put h r l) r i = l[i]? := by unfold rd; rw [put_same]
@[simp] theorem rd_put_ne (h : MH) {r q i : Nat} (l : List MO) (e : q ≠ r) : rd (put h r l) q i = rd h q i := by unfold rd; rw [put_ne h l e]
@[simp] theorem put_put' (h : MH) (r : Nat) (l m : List MO) : put (put h r l) r m = put h r m := put_put h r l m
@[simp] theorem al_def (h : MH) (r : Nat) (o : MO) : al h r o = put h r (h r ++ [o]) := rfl
@[simp] theorem wr_def (h : MH) (r i : Nat) (o : MO) : wr h r i o = put h r ((h r).set i o) := rfl
@[simp] theorem dat_non (h : MH) (n : Nat) : dat h n .non = some .non := by cases n <;> rfl
@[simp] theorem dat_bl (h : MH) (n : Nat) (b : Bool) : dat h n (.bl b) = some (.bl b) := by cases n <;> rfl
@[simp] theorem dat_int (h : MH) (n : Nat) (i : Int) : dat h n (.int i) = some (.int i) := by cases n <;> rfl
@[simp] theorem dat_str (h : MH) (n : Nat) (s : String) : dat h n (.str s) = some (.str s) := by cases n <;> rfl
def datL (h : MH) (n : Nat) : List MV → Option (List PD)
  | [] => some []
  | x :: xs => match dat h n x, datL h n xs with
    | some d, some ds => some (d :: ds)
    | _, _ => none
theorem datL_eq (h : MH) (n : Nat) : ∀ xs : List MV, xs.mapM (dat h n) = datL h n xs
  | [] => rfl
  | x :: xs => by
    rw [List.mapM_cons, datL_eq h n xs]
    show _ = match dat h n x, datL h n xs with
    | some d, some ds => some (d :: ds)
    | _, _ => none
    generalize datL h n xs = a
    generalize dat h n x = b
    cases b <;> cases a <;> rfl
@[simp] theorem datL_nil (h : MH) (n : Nat) : datL h n [] = some [] := rfl
@[simp] theorem datL_cons (h : MH) (n : Nat) (x : MV) (xs : List MV) : datL h n (x :: xs) = match dat h n x, datL h n xs with
    | some d, some ds => some (d :: ds)
    | _, _ => none := rfl
@[simp] theorem dat_ref (h : MH) (r i : Nat) : dat h deep (.ref r i) = match rd h r i with
    | some (.lst xs) => (datL h 7 xs).map PD.lst
    | _ => none := by
  show (match rd h r i with
    | some (.lst xs) => (xs.mapM (dat h 7)).map PD.lst
    | _ => none) = _
  split
  · rw [datL_eq]
  · rfl
@[simp] theorem dat_tup (h : MH) (xs : List MV) : dat h deep (.tup xs) = (datL h 7 xs).map PD.tup := by rw [← datL_eq]; rfl
@[simp] theorem dat_ref7 (h : MH) (r i : Nat) : dat h 7 (.ref r i) = match rd h r i with
    | some (.lst xs) => (datL h 6 xs).map PD.lst
    | _ => none := by
  show (match rd h r i with
    | some (.lst xs) => (xs.mapM (dat h 6)).map PD.lst
    | _ => none) = _
  split
  · rw [datL_eq]
  · rfl
@[simp] theorem dat_tup7 (h : MH) (xs : List MV) : dat h 7 (.tup xs) = (datL h 6 xs).map PD.tup := by rw [← datL_eq]; rfl
theorem datL_ints (h : MH) (n : Nat) : ∀ ns : List Int, datL h n (ns.map .int) = some (ns.map .int)
  | [] => rfl
  | i :: ns => by simp [datL_ints h n ns]
@[simp] theorem eqv_int (i j : Int) : PD.eqv (.int i) (.int j) = decide (i = j) := by simp only [PD.eqv]
@[simp] theorem eqv_bl (i j : Bool) : PD.eqv (.bl i) (.bl j) = (i == j) := by simp only [PD.eqv]
@[simp] theorem eqv_str (i j : String) : PD.eqv (.str i) (.str j) = decide (i = j) := by simp only [PD.eqv]
@[simp] theorem eqv_non : PD.eqv .non .non = true := by simp only [PD.eqv]
@[simp] theorem eqv_tup (xs ys : List PD) : PD.eqv (.tup xs) (.tup ys) = PD.eqvs xs ys := by simp only [PD.eqv]
@[simp] theorem eqv_lst (xs ys : List PD) : PD.eqv (.lst xs) (.lst ys) = PD.eqvs xs ys := by simp only [PD.eqv]
@[simp] theorem eqvs_nn : PD.eqvs [] [] = true := by simp only [PD.eqvs]
@[simp] theorem eqvs_nc (y : PD) (ys : List PD) : PD.eqvs [] (y :: ys) = false := by simp only [PD.eqvs]
@[simp] theorem eqvs_cn (y : PD) (ys : List PD) : PD.eqvs (y :: ys) [] = false := by simp only [PD.eqvs]
@[simp] theorem eqvs_cc (x y : PD) (xs ys : List PD) : PD.eqvs (x :: xs) (y :: ys) = (PD.eqv x y && PD.eqvs xs ys) := by simp only [PD.eqvs]
theorem eqvs_ints : ∀ a b : List Int, PD.eqvs (a.map .int) (b.map .int) = decide (a = b)
  | [], [] => by simp
  | [], b :: bs => by simp
  | a :: as, [] => by simp
  | a :: as, b :: bs => by simp [eqvs_ints as bs]
@[simp] theorem compL_nil (r : Nat) (chk : MH → Prop) (i : Nat) (t : WT) (e : WE) (σ : MS) (Q : QV) (acc : List MV) (h : MH) : compL r chk i t e σ Q [] acc h = (chk h ∧ Q (.ref r (h r).length) (al h r (.lst acc))) := by rw [compL_eq]; rfl
@[simp] theorem compL_cons (r : Nat) (chk : MH → Prop) (i : Nat) (t : WT) (e : WE) (σ : MS) (Q : QV) (x : MV) (xs acc : List MV) (h : MH) : compL r chk i t e σ Q (x :: xs) acc h = (chk h ∧ t (σ.set i (some x)) h (fun k h2 => if k = true
      then e (σ.set i (some x)) h2 (fun v h3 => acc.length < lim ∧ compL r chk i t e σ Q xs (acc ++ [v]) h3) (fun _ _ => False)
      else compL r chk i t e σ Q xs acc h2) (fun _ _ => False)) := by rw [compL_eq]; rfl
/-- what comes behind a statement, not looked into yet -/
theorem kont_ex : ∃ f : WS → WS, ∀ b, f b = b := ⟨fun b => b, fun _ => rfl⟩
noncomputable def kont : WS → WS := Classical.choose kont_ex
theorem kont_eq (b : WS) : kont b = b := Classical.choose_spec kont_ex b
theorem sSeqK (a b : WS) (D : En) (σ : MS) (h : MH) : sSeq a b D σ h = a { D with nx := kont b D } σ h := by rw [kont_eq]; rfl
theorem seq_cut {a b : WS} {D : En} {σ : MS} {h : MH} (I : MS → MH → Prop) (ha : ∀ N : MS → MH → Prop, (∀ σ h, I σ h → N σ h) → a { D with nx := N } σ h) (hb : ∀ σ h, I σ h → b D σ h) : sSeq a b D σ h := ha (b D) hb
theorem rng3 : rng 0 3 = [.int 0, .int 1, .int 2] := rfl
theorem rng4 : rng 0 4 = [.int 0, .int 1, .int 2, .int 3] := rfl
theorem enumF_len : ∀ (n : Nat) (xs : List MV), (enumF n xs).length = xs.length
  | _, [] => rfl
  | n, x :: xs => by rw [enumF, List.length_cons, List.length_cons, enumF_len (n + 1) xs]
theorem enumF_at : ∀ (n : Nat) (xs : List MV) (i : Nat), (enumF n xs)[i]? = (xs[i]?).map fun x => .tup [.int ((n + i : Nat) : Int), x]
  | _, [], i => rfl
  | n, x :: xs, 0 => rfl
  | n, x :: xs, i + 1 => by
    rw [enumF, List.getElem?_cons_succ, List.getElem?_cons_succ, enumF_at (n + 1) xs i, show n + 1 + i = n + (i + 1) by omega]
theorem rng_at {lo : Int} {n j : Nat} {x : MV} (h : (rng lo n)[j]? = some x) : j < n ∧ x = .int (lo + j) := by
  unfold rng at h
  rw [List.getElem?_map] at h
  by_cases c : j < n
  · rw [List.getElem?_range c] at h; exact ⟨c, (Option.some.inj h).symm⟩
  · rw [List.getElem?_eq_none (by simpa using c)] at h; exact nomatch h
@[simp] theorem rng_size (lo : Int) (n : Nat) : (rng lo n).length = n := by simp [rng]
@[simp] theorem forL_nil (chk : MH → Prop) (g : WG) (b : WS) (D : En) (σ : MS) (h : MH) : forL chk g b [] D σ h = (chk h ∧ D.nx σ h) := by rw [forL_eq]; rfl
theorem forL_cons (chk : MH → Prop) (g : WG) (b : WS) (x : MV) (xs : List MV) (D : En) (σ : MS) (h : MH) :
    forL chk g b (x :: xs) D σ h = (chk h ∧ g x σ h (fun σ1 h1 => b { D with nx := forL chk g b xs D, ct := forL chk g b xs D, bk := D.nx } σ1 h1) fun c h1 => D.ex c σ h1) := by rw [forL_eq]; rfl
theorem ixN_nat (m n : Nat) : ixN m (n : Int) = if n < m then some n else none := by
  unfold ixN
  rw [if_pos (Int.natCast_nonneg n)]
  by_cases c : n < m
  · rw [if_pos c, if_pos (by omega)]; simp
  · rw [if_neg c, if_neg (by omega)]
theorem atI_nat {α : Type} (xs : List α) (n : Nat) : atI xs (n : Int) = xs[n]? := by
  unfold atI
  rw [ixN_nat]
  by_cases c : n < xs.length
  · rw [if_pos c]; rfl
  · rw [if_neg c, List.getElem?_eq_none (by omega)]; rfl
@[simp] theorem ixN_lit (m n : Nat) : ixN m (no_index (OfNat.ofNat n)) = if n < m then some n else none := ixN_nat m n
@[simp] theorem atI_lit {α : Type} (xs : List α) (n : Nat) : atI xs (no_index (OfNat.ofNat n)) = xs[n]? := atI_nat xs n
theorem atI_int {α : Type} (xs : List α) {i : Int} (h : 0 ≤ i) : atI xs i = xs[i.toNat]? := by
  rw [← atI_nat, Int.toNat_of_nonneg h]
/-- a for, by a word of the items that are taken; N: what a turn is to reach -/
theorem forL_inv {chk : MH → Prop} {i : Nat} {b : WS} {D : En} (I : Nat → MS → MH → Prop) : ∀ (xs : List MV) (k : Nat) (σ : MS) (h : MH), I k σ h → (∀ k σ h, I k σ h → chk h) →
    (∀ (j : Nat) (x : MV) (σ : MS) (h : MH) (N : MS → MH → Prop), xs[j]? = some x → I (k + j) σ h → (∀ σ h, I (k + j + 1) σ h → N σ h) → b { D with nx := N, ct := N, bk := D.nx } (σ.set i (some x)) h) →
    (∀ σ h, I (k + xs.length) σ h → D.nx σ h) → forL chk (gN i) b xs D σ h
  | [], k, σ, h, h0, hc, hs, hd => by rw [forL_nil]; exact ⟨hc k σ h h0, hd σ h h0⟩
  | x :: xs, k, σ, h, h0, hc, hs, hd => by
    rw [forL_cons]
    refine ⟨hc k σ h h0, ?_⟩
    refine hs 0 x σ h _ rfl h0 fun σ h hI => ?_
    refine forL_inv I xs (k + 1) σ h hI hc (fun j y σ h N e hI hN => ?_) fun σ h hI => ?_
    · have := hs (j + 1) y σ h N (by simpa using e) (by rw [show k + (j + 1) = k + 1 + j by omega]; exact hI)
      rw [show k + (j + 1) + 1 = k + 1 + j + 1 by omega] at this
      exact this hN
    · exact hd σ h (by rw [List.length_cons, show k + (xs.length + 1) = k + 1 + xs.length by omega]; exact hI)
/-- a while, by a word and a measure -/
theorem while_inv {t : WT} {b : WS} {D : En} (I : Nat → MS → MH → Prop) (hs : ∀ (n : Nat) (σ : MS) (h : MH) (N : MS → MH → Prop), I n σ h → (∀ m σ h, m < n → I m σ h → N σ h) →
    t σ h (fun k h1 => if k = true then b { D with nx := N, ct := N, bk := D.nx } σ h1 else D.nx σ h1) fun c h1 => D.ex c σ h1) (n : Nat) (σ : MS) (h : MH) (h0 : I n σ h) : whileN t b (n + 1) D σ h := by
  have go : ∀ (k n : Nat) (σ : MS) (h : MH), n < k → I n σ h → whileN t b k D σ h := fun k => by
    induction k with
    | zero => intro n σ h hk; omega
    | succ k ih =>
      intro n σ h hk hI
      exact hs n σ h _ hI fun m σ h hm hI => ih m σ h (by omega) hI
  exact go (n + 1) n σ h (Nat.lt_succ_self n) h0
theorem kont_go {b : WS} {D : En} {σ : MS} {h : MH} (p : b D σ h) : kont b D σ h := by rw [kont_eq]; exact p
theorem seq_cut2 {a b c : WS} {D : En} {σ : MS} {h : MH} (I : MS → MH → Prop) (ha : ∀ N : MS → MH → Prop, (∀ σ h, I σ h → N σ h) → sSeq a b { D with nx := N } σ h) (hb : ∀ σ h, I σ h → c D σ h) : sSeq a (sSeq b c) D σ h := ha (c D) hb
theorem seq_cut3 {a b c d : WS} {D : En} {σ : MS} {h : MH} (I : MS → MH → Prop) (ha : ∀ N : MS → MH → Prop, (∀ σ h, I σ h → N σ h) → sSeq a (sSeq b c) { D with nx := N } σ h) (hb : ∀ σ h, I σ h → d D σ h) : sSeq a (sSeq b (sSeq c d)) D σ h := ha (d D) hb
theorem seq_cut4 {a b c d e : WS} {D : En} {σ : MS} {h : MH} (I : MS → MH → Prop) (ha : ∀ N : MS → MH → Prop, (∀ σ h, I σ h → N σ h) → sSeq a (sSeq b (sSeq c d)) { D with nx := N } σ h) (hb : ∀ σ h, I σ h → e D σ h) : sSeq a (sSeq b (sSeq c (sSeq d e))) D σ h := ha (e D) hb
theorem seq_cut5 {a b c d e f : WS} {D : En} {σ : MS} {h : MH} (I : MS → MH → Prop) (ha : ∀ N : MS → MH → Prop, (∀ σ h, I σ h → N σ h) → sSeq a (sSeq b (sSeq c (sSeq d e))) { D with nx := N } σ h) (hb : ∀ σ h, I σ h → f D σ h) : sSeq a (sSeq b (sSeq c (sSeq d (sSeq e f)))) D σ h := ha (f D) hb
theorem seq_cut6 {a b c d e f g : WS} {D : En} {σ : MS} {h : MH} (I : MS → MH → Prop) (ha : ∀ N : MS → MH → Prop, (∀ σ h, I σ h → N σ h) → sSeq a (sSeq b (sSeq c (sSeq d (sSeq e f)))) { D with nx := N } σ h) (hb : ∀ σ h, I σ h → g D σ h) : sSeq a (sSeq b (sSeq c (sSeq d (sSeq e (sSeq f g))))) D σ h := ha (g D) hb
def tb1 (c : String) (F : WF) : String → Option WF := fun d => if d = c then some F else none
def tbO (a b : String → Option WF) : String → Option WF := fun d => match a d with
  | some F => some F
  | none => b d
@[simp ↓] theorem tb1_same (c : String) (F : WF) : tb1 c F c = some F := if_pos rfl
theorem tb1_ne {c d : String} (F : WF) (h : d ≠ c) : tb1 c F d = none := if_neg h
@[simp ↓] theorem tbO_def (a b : String → Option WF) (d : String) : tbO a b d = match a d with
  | some F => some F
  | none => b d := rfl
@[simp] theorem putF_nil (f : String) (v : MV) : putF f v [] = [(f, v)] := rfl
@[simp] theorem putF_cons (f g : String) (v w : MV) (l : List (String × MV)) : putF f v ((g, w) :: l) = if f = g then (g, v) :: l else (g, w) :: putF f v l := rfl
@[simp ↓ high] theorem look_cons (f g : String) (w : MV) (l : List (String × MV)) : List.lookup f ((g, w) :: l) = if f = g then some w else List.lookup f l := by
  rw [List.lookup_cons]
  by_cases c : f = g
  · rw [if_pos c, c, beq_self_eq_true]
  · rw [if_neg c, beq_eq_false_iff_ne.mpr c]
end Mi
end TxMini

section TxMiniRel
set_option Elab.async false
set_option linter.all false
set_option autoImplicit false
set_option maxRecDepth 100000
set_option maxHeartbeats 4000000
namespace Mi
open PySem PySem.Spec PyProof.Rows L2

abbrev IA := Nat → List Addr
abbrev st (s : String) : Str := Str.ofString s
theorem st_inj {a b : String} (h : st a = st b) : a = b := by
  unfold st at h
  rw [Str.ofString_eq_toList, Str.ofString_eq_toList] at h
  have h1 : (a.toList.map Char.toNat).toArray = (b.toList.map Char.toNat).toArray := congrArg Str.cps h
  have h2 : a.toList.map Char.toNat = b.toList.map Char.toNat := by simpa using h1
  have h3 : a.toList = b.toList := List.map_inj_right (fun x y e => Char.ext (UInt32.toNat.inj e)) |>.mp h2
  exact String.toList_injective h3
/-- a tuple, a list that nobody changes -/
def SqC (K : PySem.W.Frag) (H : Hp) (a : Addr) (xs : List V) : Prop :=
  (∃ o, H a = some (.frz o (.lst xs))) ∨
    ∃ (o : Obj) (its : Array Value) (n : Nat), K.lookup a = some o ∧ o.cls = .type "list" ∧ o.dict = none ∧ o.data = .seq its n ∧ its.size ≤ sizeLine ∧ Vals xs its.toList
theorem SqC.l {K : PySem.W.Frag} {H : Hp} {a : Addr} {xs : List V} (h : SqC K H a xs) : SqL K H a xs := by
  rcases h with h | h
  · exact .inl (.inr h)
  · exact .inr h
mutual
def RV (K : PySem.W.Frag) (ι : IA) (H : Hp) : MV → V → Prop
  | .non, v => v = .non
  | .bl b, v => v = .bl b
  | .int i, v => v = .int i
  | .str s, v => v = .str (st s)
  | .tup xs, v => ∃ p vs, v = .ref p ∧ SqT K H p vs ∧ RVs K ι H xs vs
  | .cst xs, v => ∃ p vs, v = .ref p ∧ SqC K H p vs ∧ RVs K ι H xs vs
  | .ref r i, v => ∃ p, (ι r)[i]? = some p ∧ v = .ref p
  | .exc a, v => v = .ref a
def RVs (K : PySem.W.Frag) (ι : IA) (H : Hp) : List MV → List V → Prop
  | [], vs => vs = []
  | x :: xs, vs => ∃ v r, vs = v :: r ∧ RV K ι H x v ∧ RVs K ι H xs r
end
/-- a class's address -/
abbrev clA (K : PySem.W.Frag) (c : String) : Addr := He.ga K (st c)
/-- what is known of the text: the classes of instances, the names of their fields -/
structure Tx where
  K : PySem.W.Frag
  Cl : List String
  Fl : List String
  Er : List String
inductive KR : MV → Key → Prop where
  | int (i : Int) : KR (.int i) (.inl i)
  | str (s : String) : KR (.str s) (.inr (st s))
def OR (T : Tx) (ι : IA) (H : Hp) (p : Addr) : MO → Prop
  | .lst xs => ∃ vs, H p = some (.lst vs) ∧ RVs T.K ι H xs vs
  | .dic kvs => ∃ kws, H p = some (.dK kws) ∧ Paired (fun (m : MV × MV) (k : Key × V) => KR m.1 k.1 ∧ RV T.K ι H m.2 k.2) kvs kws
  | .ins c fs => c ∈ T.Cl ∧ (∀ p ∈ fs, p.1 ∈ T.Fl) ∧ ∃ dx fvs, H p = some (.ins (clA T.K c) dx fvs) ∧ Paired (fun (m : String × MV) (k : Str × V) => k.1 = st m.1 ∧ RV T.K ι H m.2 k.2) fs fvs
structure Rel (T : Tx) (ι : IA) (h : MH) (H : Hp) : Prop where
  len : ∀ r, (ι r).length = (h r).length
  obj : ∀ (r i : Nat) (o : MO) (p : Addr), (h r)[i]? = some o → (ι r)[i]? = some p → OR T ι H p o
  inj : ∀ (r i r' i' : Nat) (p : Addr), (ι r)[i]? = some p → (ι r')[i']? = some p → r = r' ∧ i = i'
structure Ext (ι : IA) (H : Hp) (ι' : IA) (H' : Hp) : Prop where
  pre : ∀ r, ∃ more, ι' r = ι r ++ more ∧ ∀ p ∈ more, H p = none
  oth : ∀ (p : Addr) (o : HO), H p = some o → (∀ (r i : Nat), (ι r)[i]? ≠ some p) → H' p = some o
section
variable {T : Tx} {ι ι' ι1 ι2 : IA} {h h' h1 h2 : MH} {H H' H1 H2 : Hp}
theorem OR.here {p : Addr} {o : MO} (x : OR T ι H p o) : ∃ O, H p = some O := by
  cases o with
  | lst xs => obtain ⟨_, e, _⟩ := x; exact ⟨_, e⟩
  | dic kvs => obtain ⟨_, e, _⟩ := x; exact ⟨_, e⟩
  | ins c fs => obtain ⟨_, _, _, _, e, _⟩ := x; exact ⟨_, e⟩
theorem OR.nfix {p : Addr} {o : MO} (x : OR T ι H p o) : (∀ xs, H p ≠ some (.tup xs)) ∧ ∀ a u, H p ≠ some (.frz a u) := by
  cases o with
  | lst xs => obtain ⟨_, e, _⟩ := x; rw [e]; exact ⟨fun _ z => (nomatch z), fun _ _ z => (nomatch z)⟩
  | dic kvs => obtain ⟨_, e, _⟩ := x; rw [e]; exact ⟨fun _ z => (nomatch z), fun _ _ z => (nomatch z)⟩
  | ins c fs => obtain ⟨_, _, _, _, e, _⟩ := x; rw [e]; exact ⟨fun _ z => (nomatch z), fun _ _ z => (nomatch z)⟩
theorem Rel.at_ (R : Rel T ι h H) {r i : Nat} {p : Addr} (e : (ι r)[i]? = some p) : ∃ o, (h r)[i]? = some o ∧ OR T ι H p o := by
  have hl := (List.getElem?_eq_some_iff.mp e).1
  rw [R.len] at hl
  exact ⟨_, List.getElem?_eq_getElem hl, R.obj r i _ p (List.getElem?_eq_getElem hl) e⟩
theorem Rel.of_rd (R : Rel T ι h H) {r i : Nat} {o : MO} (e : rd h r i = some o) : ∃ p, (ι r)[i]? = some p ∧ OR T ι H p o := by
  have hl := (List.getElem?_eq_some_iff.mp (show (h r)[i]? = some o from e)).1
  rw [← R.len] at hl
  exact ⟨_, List.getElem?_eq_getElem hl, R.obj r i _ _ e (List.getElem?_eq_getElem hl)⟩
theorem Rel.here (R : Rel T ι h H) {r i : Nat} {p : Addr} (e : (ι r)[i]? = some p) : ∃ O, H p = some O := (R.at_ e).elim fun _ x => x.2.here
theorem Rel.fresh (R : Rel T ι h H) {p : Addr} (hp : H p = none) : ∀ (r i : Nat), (ι r)[i]? ≠ some p := fun r i e => by
  obtain ⟨O, z⟩ := R.here e
  rw [hp] at z; cases z
theorem Ext.refl : Ext ι H ι H := ⟨fun _ => ⟨[], by simp, by simp⟩, fun _ _ e _ => e⟩
theorem Ext.ix (X : Ext ι H ι' H') {r i : Nat} {p : Addr} (e : (ι r)[i]? = some p) : (ι' r)[i]? = some p := by
  obtain ⟨m, hm, _⟩ := X.pre r
  rw [hm, List.getElem?_append_left (List.getElem?_eq_some_iff.mp e).1]
  exact e
theorem Ext.trans (R1 : Rel T ι1 h1 H1) (X : Ext ι H ι1 H1) (Y : Ext ι1 H1 ι2 H2) : Ext ι H ι2 H2 := by
  refine ⟨fun r => ?_, fun p o e n => ?_⟩
  · obtain ⟨m1, e1, n1⟩ := X.pre r
    obtain ⟨m2, e2, n2⟩ := Y.pre r
    refine ⟨m1 ++ m2, by rw [e2, e1, List.append_assoc], fun p hp => ?_⟩
    rcases List.mem_append.mp hp with z | z
    · exact n1 p z
    · have q := n2 p z
      cases w : H p with
      | none => rfl
      | some o =>
        by_cases c : ∀ (r i : Nat), (ι r)[i]? ≠ some p
        · rw [X.oth p o w c] at q; cases q
        · obtain ⟨r', c⟩ := Classical.not_forall.mp c
          obtain ⟨i', c⟩ := Classical.not_forall.mp c
          have c := X.ix (Classical.not_not.mp c)
          obtain ⟨O, z⟩ := R1.here c
          rw [q] at z; cases z
  · refine Y.oth p o (X.oth p o e n) fun r i z => ?_
    obtain ⟨m1, e1, n1⟩ := X.pre r
    rw [e1] at z
    by_cases hi : i < (ι r).length
    · rw [List.getElem?_append_left hi] at z
      exact n r i z
    · rw [List.getElem?_append_right (by omega)] at z
      rw [n1 p (List.mem_of_getElem? z)] at e
      cases e
theorem sqT_ext (R : Rel T ι h H) (X : Ext ι H ι' H') {p : Addr} {vs : List V} (e : L2.SqT T.K H p vs) : L2.SqT T.K H' p vs := by
  have nin : ∀ u, H p = Option.some u → (∃ xs, u = HO.tup xs) ∨ (∃ a w, u = HO.frz a w) → ∀ (r i : Nat), (ι r)[i]? ≠ Option.some p := fun u e1 k r i z => by
    obtain ⟨o, _, x⟩ := R.at_ z
    obtain ⟨n1, n2⟩ := x.nfix
    rcases k with ⟨xs, rfl⟩ | ⟨a, w, rfl⟩
    · exact n1 xs e1
    · exact n2 a w e1
  rcases e with (e | ⟨o, e⟩) | e
  · exact .inl (.inl (X.oth _ _ e (nin _ e (.inl ⟨_, rfl⟩))))
  · exact .inl (.inr ⟨o, X.oth _ _ e (nin _ e (.inr ⟨_, _, rfl⟩))⟩)
  · exact .inr e
theorem SqC.ext (R : Rel T ι h H) (X : Ext ι H ι' H') {p : Addr} {vs : List V} (e : SqC T.K H p vs) : SqC T.K H' p vs := by
  rcases e with ⟨o, e⟩ | e
  · refine .inl ⟨o, X.oth _ _ e fun r i z => ?_⟩
    obtain ⟨o', _, x⟩ := R.at_ z
    exact x.nfix.2 _ _ e
  · exact .inr e
mutual
theorem RV.ext (R : Rel T ι h H) (X : Ext ι H ι' H') : ∀ (m : MV) (v : V), RV T.K ι H m v → RV T.K ι' H' m v
  | .non, _, e => by unfold RV at e ⊢; exact e
  | .bl _, _, e => by unfold RV at e ⊢; exact e
  | .int _, _, e => by unfold RV at e ⊢; exact e
  | .str _, _, e => by unfold RV at e ⊢; exact e
  | .tup xs, _, e => by
    unfold RV at e ⊢
    obtain ⟨p, vs, e1, e2, e3⟩ := e
    exact ⟨p, vs, e1, sqT_ext R X e2, RVs.ext R X xs vs e3⟩
  | .cst xs, _, e => by
    unfold RV at e ⊢
    obtain ⟨p, vs, e1, e2, e3⟩ := e
    exact ⟨p, vs, e1, SqC.ext R X e2, RVs.ext R X xs vs e3⟩
  | .ref r i, _, e => by
    unfold RV at e ⊢
    obtain ⟨p, e1, e2⟩ := e
    exact ⟨p, X.ix e1, e2⟩
  | .exc _, _, e => by unfold RV at e ⊢; exact e
theorem RVs.ext (R : Rel T ι h H) (X : Ext ι H ι' H') : ∀ (ms : List MV) (vs : List V), RVs T.K ι H ms vs → RVs T.K ι' H' ms vs
  | [], _, e => by unfold RVs at e ⊢; exact e
  | m :: ms, _, e => by
    unfold RVs at e ⊢
    obtain ⟨v, r, e1, e2, e3⟩ := e
    exact ⟨v, r, e1, RV.ext R X m v e2, RVs.ext R X ms r e3⟩
end
theorem RVs.length {K : PySem.W.Frag} : ∀ {ms : List MV} {vs : List V}, RVs K ι H ms vs → ms.length = vs.length
  | [], _, e => by unfold RVs at e; rw [e] <;> rfl
  | m :: ms, _, e => by
    unfold RVs at e
    obtain ⟨v, r, e1, _, e3⟩ := e
    rw [e1, List.length_cons, List.length_cons, RVs.length e3]
theorem RVs.get {K : PySem.W.Frag} : ∀ {ms : List MV} {vs : List V} {i : Nat} {m : MV}, RVs K ι H ms vs → ms[i]? = some m → ∃ v, vs[i]? = some v ∧ RV K ι H m v
  | [], _, _, _, _, e => by simp at e
  | x :: ms, _, 0, m, e, e1 => by
    unfold RVs at e
    obtain ⟨v, r, rfl, e2, e3⟩ := e
    simp at e1; subst e1
    exact ⟨v, rfl, e2⟩
  | x :: ms, _, i + 1, m, e, e1 => by
    unfold RVs at e
    obtain ⟨v, r, rfl, e2, e3⟩ := e
    simpa using RVs.get (i := i) e3 (by simpa using e1)
theorem RVs.append {K : PySem.W.Frag} : ∀ {ms ns : List MV} {vs us : List V}, RVs K ι H ms vs → RVs K ι H ns us → RVs K ι H (ms ++ ns) (vs ++ us)
  | [], _, _, _, e, f => by unfold RVs at e; rw [e]; exact f
  | x :: ms, _, _, _, e, f => by
    unfold RVs at e
    obtain ⟨v, r, rfl, e2, e3⟩ := e
    show RVs K ι H (x :: (ms ++ _)) _
    unfold RVs
    exact ⟨v, r ++ _, rfl, e2, RVs.append e3 f⟩
theorem RVs.one {K : PySem.W.Frag} {m : MV} {v : V} (e : RV K ι H m v) : RVs K ι H [m] [v] := by
  unfold RVs
  exact ⟨v, [], rfl, e, by unfold RVs; rfl⟩
theorem RVs.cons {K : PySem.W.Frag} {m : MV} {v : V} {ms : List MV} {vs : List V} (e : RV K ι H m v) (f : RVs K ι H ms vs) : RVs K ι H (m :: ms) (v :: vs) := by
  unfold RVs
  exact ⟨v, vs, rfl, e, f⟩
theorem RVs.nil {K : PySem.W.Frag} : RVs K ι H [] [] := by
  unfold RVs
  rfl
theorem RVs.set {K : PySem.W.Frag} {m : MV} {v : V} (q : RV K ι H m v) : ∀ {ms : List MV} {vs : List V} (i : Nat), RVs K ι H ms vs → RVs K ι H (ms.set i m) (vs.set i v)
  | [], _, _, e => by unfold RVs at e; rw [e]; exact RVs.nil
  | x :: ms, _, 0, e => by
    unfold RVs at e
    obtain ⟨w, r, rfl, e2, e3⟩ := e
    exact RVs.cons q e3
  | x :: ms, _, i + 1, e => by
    unfold RVs at e
    obtain ⟨w, r, rfl, e2, e3⟩ := e
    exact RVs.cons e2 (RVs.set q i e3)
theorem RVs.take {K : PySem.W.Frag} : ∀ {ms : List MV} {vs : List V} (n : Nat), RVs K ι H ms vs → RVs K ι H (ms.take n) (vs.take n)
  | _, _, 0, _ => by simp [RVs.nil]
  | [], _, n + 1, e => by unfold RVs at e; rw [e]; exact RVs.nil
  | x :: ms, _, n + 1, e => by
    unfold RVs at e
    obtain ⟨w, r, rfl, e2, e3⟩ := e
    exact RVs.cons e2 (RVs.take n e3)
theorem RVs.drop {K : PySem.W.Frag} : ∀ {ms : List MV} {vs : List V} (n : Nat), RVs K ι H ms vs → RVs K ι H (ms.drop n) (vs.drop n)
  | _, _, 0, e => e
  | [], _, n + 1, e => by unfold RVs at e; rw [e]; exact RVs.nil
  | x :: ms, _, n + 1, e => by
    unfold RVs at e
    obtain ⟨w, r, rfl, e2, e3⟩ := e
    exact RVs.drop n e3
theorem Paired.imp {α β : Type} {F G : α → β → Prop} (f : ∀ a b, F a b → G a b) : ∀ {l : List α} {k : List β}, Paired F l k → Paired G l k
  | _, _, .nil => .nil
  | _, _, .cons x y => .cons (f _ _ x) (Paired.imp f y)
/-- what stands at p stays related where p itself is as it was -/
theorem OR.ext (R : Rel T ι h H) (X : Ext ι H ι' H') {p : Addr} {o : MO} (x : OR T ι H p o) (e : H' p = H p) : OR T ι' H' p o := by
  cases o with
  | lst xs =>
    obtain ⟨vs, e1, e2⟩ := x
    exact ⟨vs, e.trans e1, RVs.ext R X _ _ e2⟩
  | dic kvs =>
    obtain ⟨kws, e1, e2⟩ := x
    exact ⟨kws, e.trans e1, Paired.imp (fun a b q => ⟨q.1, RV.ext R X _ _ q.2⟩) e2⟩
  | ins c fs =>
    obtain ⟨hc, hf, dx, fvs, e1, e2⟩ := x
    exact ⟨hc, hf, dx, fvs, e.trans e1, Paired.imp (fun a b q => ⟨q.1, RV.ext R X _ _ q.2⟩) e2⟩
/-- a new object -/
def ia (ι : IA) (r : Nat) (p : Addr) : IA := fun q => if q = r then ι r ++ [p] else ι q
theorem ia_same (ι : IA) (r : Nat) (p : Addr) : ia ι r p r = ι r ++ [p] := if_pos rfl
theorem ia_ne (ι : IA) {r q : Nat} (p : Addr) (e : q ≠ r) : ia ι r p q = ι q := if_neg e
theorem ext_new (R : Rel T ι h H) {r : Nat} {p : Addr} {O : HO} (hp : H p = none) : Ext ι H (ia ι r p) (upd H p O) := by
  refine ⟨fun q => ?_, fun a o e n => ?_⟩
  · by_cases e : q = r
    · subst e
      exact ⟨[p], ia_same .., fun z hz => by rw [List.mem_singleton.mp hz]; exact hp⟩
    · exact ⟨[], by rw [ia_ne _ _ e]; simp, by simp⟩
  · rw [upd_ne (ne_of_none e hp)]; exact e
theorem rel_new (R : Rel T ι h H) {r : Nat} {p : Addr} {O : HO} {o : MO} (hp : H p = none) (ho : OR T (ia ι r p) (upd H p O) p o) : Rel T (ia ι r p) (al h r o) (upd H p O) := by
  have fr := R.fresh hp
  have X := ext_new (O := O) (r := r) R hp
  refine ⟨fun q => ?_, fun q i o' p' e1 e2 => ?_, fun q i q' i' p' e1 e2 => ?_⟩
  · unfold al
    by_cases e : q = r
    · subst e
      rw [ia_same, put_same, List.length_append, List.length_append, R.len]
      rfl
    · rw [ia_ne _ _ e, put_ne _ _ e, R.len]
  · have old : ∀ q, (ι q)[i]? = some p' → (h q)[i]? = some o' → OR T (ia ι r p) (upd H p O) p' o' := fun q z1 z2 => by
      refine (R.obj q i o' p' z2 z1).ext R X ?_
      rw [upd_ne]
      intro z; subst z
      exact fr q i z1
    by_cases e : q = r
    · subst e
      unfold al at e1
      rw [put_same] at e1
      rw [ia_same] at e2
      by_cases hi : i < (ι q).length
      · rw [List.getElem?_append_left hi] at e2
        rw [List.getElem?_append_left (by rw [← R.len]; exact hi)] at e1
        exact old q e2 e1
      · rw [List.getElem?_append_right (by omega)] at e2
        rw [List.getElem?_append_right (by rw [← R.len]; omega)] at e1
        have hj : i - (ι q).length = 0 := by
          have := (List.getElem?_eq_some_iff.mp e2).1
          simpa using this
        rw [hj] at e2
        rw [← R.len, hj] at e1
        simp at e1 e2
        subst e1; subst e2
        exact ho
    · unfold al at e1
      rw [put_ne _ _ e] at e1
      rw [ia_ne _ _ e] at e2
      exact old q e2 e1
  · have new : ∀ q i, (ia ι r p q)[i]? = some p' → (ι q)[i]? = some p' ∨ (q = r ∧ i = (ι r).length ∧ p' = p) := fun q i z => by
      by_cases e : q = r
      · subst e
        rw [ia_same] at z
        by_cases hi : i < (ι q).length
        · rw [List.getElem?_append_left hi] at z
          exact .inl z
        · rw [List.getElem?_append_right (by omega)] at z
          have hj : i - (ι q).length = 0 := by
            have := (List.getElem?_eq_some_iff.mp z).1
            simpa using this
          rw [hj] at z
          simp at z
          exact .inr ⟨rfl, by omega, z.symm⟩
      · rw [ia_ne _ _ e] at z
        exact .inl z
    rcases new q i e1 with z | ⟨z1, z2, z3⟩
    · rcases new q' i' e2 with w | ⟨w1, w2, w3⟩
      · exact R.inj _ _ _ _ _ z w
      · subst w3
        exact absurd z (fr _ _)
    · rcases new q' i' e2 with w | ⟨w1, w2, w3⟩
      · subst z3
        exact absurd w (fr _ _)
      · exact ⟨z1.trans w1.symm, z2.trans w2.symm⟩
/-- an object changed -/
theorem ext_wr (R : Rel T ι h H) {r i : Nat} {p : Addr} {O : HO} (hp : (ι r)[i]? = some p) : Ext ι H ι (upd H p O) := by
  refine ⟨fun q => ⟨[], by simp, by simp⟩, fun a o e n => ?_⟩
  rw [upd_ne]
  · exact e
  · intro z; subst z
    exact n r i hp
theorem rel_wr (R : Rel T ι h H) {r i : Nat} {p : Addr} {O : HO} {o : MO} (hp : (ι r)[i]? = some p) (ho : OR T ι (upd H p O) p o) : Rel T ι (wr h r i o) (upd H p O) := by
  have X := ext_wr (O := O) R hp
  refine ⟨fun q => ?_, fun q j o' p' e1 e2 => ?_, R.inj⟩
  · unfold wr
    by_cases e : q = r
    · subst e
      rw [put_same, List.length_set, R.len]
    · rw [put_ne _ _ e, R.len]
  · by_cases hpp : p' = p
    · subst hpp
      obtain ⟨rfl, rfl⟩ := R.inj _ _ _ _ _ e2 hp
      unfold wr at e1
      rw [put_same, List.getElem?_set_self] at e1
      · cases e1
        exact ho
      · rw [← R.len]
        exact (List.getElem?_eq_some_iff.mp hp).1
    · have old : (h q)[j]? = some o' := by
        unfold wr at e1
        by_cases e : q = r
        · subst e
          rw [put_same, List.getElem?_set_ne] at e1
          · exact e1
          · intro z; subst z
            rw [hp] at e2
            exact hpp (Option.some.inj e2).symm
        · rw [put_ne _ _ e] at e1
          exact e1
      exact (R.obj q j o' p' old e2).ext R X (upd_ne hpp)
end
/-! ### locals -/
def RS (T : Tx) (ι : IA) (H : Hp) (σm : MS) (σ : L2.St) : Prop := σm.length = σ.length ∧ ∀ (i : Nat) (m : MV), σm[i]? = some (some m) → ∃ v, σ[i]? = some (some v) ∧ RV T.K ι H m v
section
variable {T : Tx} {ι ι' : IA} {h h' : MH} {H H' : Hp} {σm : MS} {σ : L2.St}
theorem RS.ext (R : Rel T ι h H) (X : Ext ι H ι' H') (s : RS T ι H σm σ) : RS T ι' H' σm σ := ⟨s.1, fun i m e => let ⟨v, e1, e2⟩ := s.2 i m e; ⟨v, e1, RV.ext R X _ _ e2⟩⟩
theorem RS.set (s : RS T ι H σm σ) (i : Nat) {m : MV} {v : V} (q : RV T.K ι H m v) : RS T ι H (σm.set i (some m)) (σ.set i (some v)) := by
  refine ⟨by simpa using s.1, fun j m' e => ?_⟩
  by_cases hj : i = j
  · subst hj
    by_cases hl : i < σm.length
    · rw [List.getElem?_set_self hl] at e
      cases e
      exact ⟨v, List.getElem?_set_self (by rw [← s.1]; exact hl), q⟩
    · rw [List.getElem?_eq_none (by simpa using hl)] at e; cases e
  · rw [List.getElem?_set_ne hj] at e
    rw [List.getElem?_set_ne hj]
    exact s.2 j m' e
theorem RS.unset (s : RS T ι H σm σ) (i : Nat) : RS T ι H (σm.set i none) (σ.set i none) := by
  refine ⟨by simpa using s.1, fun j m' e => ?_⟩
  by_cases hj : i = j
  · subst hj
    by_cases hl : i < σm.length
    · rw [List.getElem?_set_self hl] at e
      cases e
    · rw [List.getElem?_eq_none (by simpa using hl)] at e; cases e
  · rw [List.getElem?_set_ne hj] at e
    rw [List.getElem?_set_ne hj]
    exact s.2 j m' e
end
/-! ### what is wanted behind -/
def PQ (T : Tx) (ι : IA) (H : Hp) (Qm : QV) (Q : VK) : Prop := ∀ v h', Qm v h' → ∀ ι' H' u, Rel T ι' h' H' → Ext ι H ι' H' → RV T.K ι' H' v u → Q u H'
def PX (T : Tx) (ι : IA) (H : Hp) (Em : QX) (E : XK) : Prop := ∀ c h', c ∈ T.Er → Em c h' → ∀ ι' H', Rel T ι' h' H' → Ext ι H ι' H' → E (.ref (clA T.K c)) none H'
def PP (T : Tx) (ι : IA) (H : Hp) (Qm : MS → MH → Prop) (Q : L2.St → Hp → Prop) : Prop := ∀ σm h', Qm σm h' → ∀ ι' H' σ, Rel T ι' h' H' → Ext ι H ι' H' → RS T ι' H' σm σ → Q σ H'
def PXS (T : Tx) (ι : IA) (H : Hp) (Em : String → MS → MH → Prop) (W : WX) : Prop := ∀ c σm h', c ∈ T.Er → Em c σm h' → ∀ ι' H' σ, Rel T ι' h' H' → Ext ι H ι' H' → RS T ι' H' σm σ → W (.ref (clA T.K c)) none σ H'
structure PEn (T : Tx) (ι : IA) (H : Hp) (Dm : En) (D : Ends) (W : WX) : Prop where
  nx : PP T ι H Dm.nx D.nx
  rt : PQ T ι H Dm.rt D.rt
  bk : PP T ι H Dm.bk D.bk
  ct : PP T ι H Dm.ct D.ct
  ex : PXS T ι H Dm.ex W
section
variable {T : Tx} {ι ι' : IA} {h h' : MH} {H H' : Hp} {σm : MS} {σ : L2.St}
theorem PQ.ext {Qm : QV} {Q : VK} (R : Rel T ι' h' H') (X : Ext ι H ι' H') (p : PQ T ι H Qm Q) : PQ T ι' H' Qm Q := fun v h1 q ι1 H1 u R1 X1 r => p v h1 q ι1 H1 u R1 (Ext.trans R X X1) r
theorem PX.ext {Em : QX} {E : XK} (R : Rel T ι' h' H') (X : Ext ι H ι' H') (p : PX T ι H Em E) : PX T ι' H' Em E := fun c h1 hc q ι1 H1 R1 X1 => p c h1 hc q ι1 H1 R1 (Ext.trans R X X1)
theorem PP.ext {Qm : MS → MH → Prop} {Q : L2.St → Hp → Prop} (R : Rel T ι' h' H') (X : Ext ι H ι' H') (p : PP T ι H Qm Q) : PP T ι' H' Qm Q := fun v h1 q ι1 H1 u R1 X1 r => p v h1 q ι1 H1 u R1 (Ext.trans R X X1) r
theorem PXS.ext {Em : String → MS → MH → Prop} {W : WX} (R : Rel T ι' h' H') (X : Ext ι H ι' H') (p : PXS T ι H Em W) : PXS T ι' H' Em W := fun c s h1 hc q ι1 H1 σ R1 X1 r => p c s h1 hc q ι1 H1 σ R1 (Ext.trans R X X1) r
theorem PEn.ext {Dm : En} {D : Ends} {W : WX} (R : Rel T ι' h' H') (X : Ext ι H ι' H') (p : PEn T ι H Dm D W) : PEn T ι' H' Dm D W := ⟨p.nx.ext R X, p.rt.ext R X, p.bk.ext R X, p.ct.ext R X, p.ex.ext R X⟩
theorem PXS.at_ {Em : String → MS → MH → Prop} {W : WX} (R : Rel T ι h H) (s : RS T ι H σm σ) (p : PXS T ι H Em W) : PX T ι H (fun c h1 => Em c σm h1) (L2.WE W σ) := fun c h1 hc q ι1 H1 R1 X1 => p c σm h1 hc q ι1 H1 σ R1 X1 (s.ext R X1)
end
/-! ### canonical readings -/
def canE (T : Tx) (W : WX) (m : WE) : TE := fun σ H Q => ∃ ι h σm Qm Em, Rel T ι h H ∧ RS T ι H σm σ ∧ PQ T ι H Qm Q ∧ PX T ι H Em (L2.WE W σ) ∧ m σm h Qm Em
def canT (T : Tx) (W : WX) (m : WT) : TT := fun σ H Q => ∃ ι h σm Qm Em, Rel T ι h H ∧ RS T ι H σm σ ∧ (∀ (k : Bool) h', Qm k h' → ∀ ι' H', Rel T ι' h' H' → Ext ι H ι' H' → Q k H') ∧ PX T ι H Em (L2.WE W σ) ∧ m σm h Qm Em
def canA (T : Tx) (W : WX) (m : WA) : TA := fun σ H Q => ∃ ι h σm Qm Em, Rel T ι h H ∧ RS T ι H σm σ ∧ (∀ ms h', Qm ms h' → ∀ ι' H' vs, Rel T ι' h' H' → Ext ι H ι' H' → RVs T.K ι' H' ms vs → Q vs H') ∧ PX T ι H Em (L2.WE W σ) ∧ m σm h Qm Em
def canS (T : Tx) (W : WX) (m : WS) : TS := fun D σ H => ∃ ι h σm Dm, Rel T ι h H ∧ RS T ι H σm σ ∧ PEn T ι H Dm D W ∧ m Dm σm h
end Mi
end TxMiniRel

section TxMiniE
set_option Elab.async false
set_option linter.all false
set_option autoImplicit false
set_option maxRecDepth 100000
set_option maxHeartbeats 4000000
namespace Mi
open PySem PySem.Spec PyProof.Rows L2
section
variable {T : Tx} {X : Cx} {W : WX} {a b e : Expr} {pos : Pos} {ma mb mc me : WE}
/-! ### weaker readings -/
theorem PE.le {t t' : TE} (h : PE X e t) (le : ∀ σ H Q, t' σ H Q → t σ H Q) : PE X e t' := ⟨fun pins s σ H Q I q => h.run pins s σ H Q I (le _ _ _ q)⟩
theorem PT.le {t t' : TT} (h : PT X e t) (le : ∀ σ H Q, t' σ H Q → t σ H Q) : PT X e t' := ⟨fun pins s σ H Q I q => h.run pins s σ H Q I (le _ _ _ q)⟩
theorem PW.le {t t' : TT} (h : PW X e t) (le : ∀ σ H Q, t' σ H Q → t σ H Q) : PW X e t' := ⟨fun wh pins s σ H Q I q => h.run wh pins s σ H Q I (le _ _ _ q)⟩
theorem PA.le {es : List Expr} {t t' : TA} (h : PA X es t) (le : ∀ σ H Q, t' σ H Q → t σ H Q) : PA X es t' := ⟨fun p pins s σ H Q I q => h.run p pins s σ H Q I (le _ _ _ q)⟩
theorem PS.le {c : Stmt} {t t' : TS} (h : PS X c t) (le : ∀ D σ H, t' D σ H → t D σ H) : PS X c t' := ⟨fun pins s σ H D I q => h.run pins s σ H D I (le _ _ _ q)⟩
theorem PSs.le {c : List Stmt} {t t' : TS} (h : PSs X c t) (le : ∀ D σ H, t' D σ H → t D σ H) : PSs X c t' := ⟨fun pins s σ H D I q => h.run pins s σ H D I (le _ _ _ q)⟩
/-- a reading in continuation -/
theorem canE_mk {σ : L2.St} {H : Hp} {Q : VK} {ι : IA} {h : MH} {σm : MS} {Qm : QV} {Em : QX} (R : Rel T ι h H) (s : RS T ι H σm σ) (x : PX T ι H Em (L2.WE W σ)) (m : me σm h Qm Em)
    (k : ∀ v h', Qm v h' → ∀ ι' H' u, Rel T ι' h' H' → Ext ι H ι' H' → RS T ι' H' σm σ → PX T ι' H' Em (L2.WE W σ) → RV T.K ι' H' v u → Q u H') : canE T W me σ H Q :=
  ⟨ι, h, σm, Qm, Em, R, s, fun v h' q ι' H' u R' X' r => k v h' q ι' H' u R' X' (s.ext R X') (x.ext R' X') r, x, m⟩
/-! ### names, constants -/
theorem e_var {i : Nat} (h : PE X e (L2.tVar i)) : PE X e (canE T W (wV i)) := PE.le h fun σ H Q ⟨ι, h, σm, Qm, Em, R, s, q, x, m⟩ => by
  unfold wV at m
  split at m
  · rename_i v e
    obtain ⟨u, e1, e2⟩ := s.2 i v e
    exact ⟨u, e1, q v h m ι H u R Ext.refl e2⟩
  · exact m.elim
theorem e_con {v : MV} {u : V} (h : PE X e (tC u)) (r : ∀ ι H, RV T.K ι H v u) : PE X e (canE T W (wC v)) := PE.le h fun σ H Q ⟨ι, h, σm, Qm, Em, R, s, q, x, m⟩ => q v h m ι H u R Ext.refl (r ι H)
theorem e_int {i : Int} {j} : PE X (.Constant (.int i) j pos) (canE T W (wC (.int i))) := e_con pe_int fun _ _ => by unfold RV; rfl
theorem e_bl {i : Bool} {j} : PE X (.Constant (.bool i) j pos) (canE T W (wC (.bl i))) := e_con pe_bl fun _ _ => by unfold RV; rfl
theorem e_non {j} : PE X (.Constant .none j pos) (canE T W (wC .non)) := e_con pe_non fun _ _ => by unfold RV; rfl
theorem e_str {s : String} {j} : PE X (.Constant (.str (Str.ofString s)) j pos) (canE T W (wC (.str s))) := e_con pe_str fun _ _ => by unfold RV; rfl
/-! ### operators -/
def canR (T : Tx) (o : Op2) : R2 := fun x y H Q => ∃ ι h mx my Qm, Rel T ι h H ∧ RV T.K ι H mx x ∧ RV T.K ι H my y ∧ PQ T ι H Qm Q ∧ o mx my h Qm
def canU (T : Tx) (o : Op1) : V → Hp → VK → Prop := fun x H Q => ∃ ι h mx Qm, Rel T ι h H ∧ RV T.K ι H mx x ∧ PQ T ι H Qm Q ∧ o mx h Qm
theorem rd_op {o : Op2} {σ : L2.St} {H : Hp} {Q : VK} (c : canE T W (wOp o ma mb) σ H Q) : tOp (canR T o) (canE T W ma) (canE T W mb) σ H Q := by
  obtain ⟨ι, h, σm, Qm, Em, R, s, q, x, m⟩ := c
  refine canE_mk R s x m fun v h1 m1 ι1 H1 u R1 X1 s1 x1 r1 => ?_
  refine canE_mk R1 s1 x1 m1 fun w h2 m2 ι2 H2 z R2 X2 s2 x2 r2 => ?_
  exact ⟨ι2, h2, v, w, Qm, R2, RV.ext R1 X2 _ _ r1, r2, (q.ext R1 X1).ext R2 X2, m2⟩
theorem e_op {op : Operator} {o : Op2} (ho : OpR X (binaryOp op) (canR T o)) (ha : PE X a (canE T W ma)) (hb : PE X b (canE T W mb)) : PE X (.BinOp a op b pos) (canE T W (wOp o ma mb)) :=
  PE.le (pe_op ho ha hb) fun _ _ _ c => rd_op c
theorem e_cmp {op : CmpOp} {o : Op2} (ho : OpR X (compareOp op) (canR T o)) (ha : PE X a (canE T W ma)) (hb : PE X b (canE T W mb)) (hm : behindInMarks op b = false) : PE X (.Compare a [op] [b] pos) (canE T W (wOp o ma mb)) :=
  PE.le (pe_cmpR ho ha hb hm) fun _ _ _ c => rd_op c
theorem e_un {op : UnaryOp} {o : Op1} (ho : UnR X (unaryOp op) (canU T o)) (ha : PE X a (canE T W ma)) : PE X (.UnaryOp op a pos) (canE T W (wUn o ma)) :=
  PE.le (pe_un ho ha) fun _ _ _ ⟨ι, h, σm, Qm, Em, R, s, q, x, m⟩ => canE_mk R s x m fun v h1 m1 ι1 H1 u R1 X1 s1 x1 r1 => ⟨ι1, h1, v, Qm, R1, r1, q.ext R1 X1, m1⟩
/-! tests -/
theorem t_val_rd {σ : L2.St} {H : Hp} {Q : Bool → Hp → Prop} {t : TE} (ht : ∀ σ H Q, canE T W me σ H Q → t σ H Q) (c : canT T W (tV me) σ H Q) : tTest t σ H Q := by
  obtain ⟨ι, h, σm, Qm, Em, R, s, q, x, m⟩ := c
  refine ht _ _ _ (canE_mk R s x m fun v h1 m1 ι1 H1 u R1 X1 s1 x1 r1 => ?_)
  cases v with
  | bl k =>
    unfold RV at r1
    exact ⟨k, r1, q k h1 m1 ι1 H1 R1 X1⟩
  | _ => exact m1.elim
theorem t_cmp {op : CmpOp} {o : Op2} (ho : OpR X (compareOp op) (canR T o)) (ha : PE X a (canE T W ma)) (hb : PE X b (canE T W mb)) (hm : behindInMarks op b = false) : PT X (.Compare a [op] [b] pos) (canT T W (tV (wOp o ma mb))) :=
  PT.le (pt_cmpR ho ha hb hm) fun _ _ _ c => t_val_rd (fun _ _ _ c => rd_op c) c
theorem rd_chain {o o' : Op2} {σ : L2.St} {H : Hp} {Q : VK} (c : canE T W (wChain o o' ma mb mc) σ H Q) : L2.tChain (canR T o) (canR T o') (canE T W ma) (canE T W mb) (canE T W mc) σ H Q := by
  obtain ⟨ι, h, σm, Qm, Em, R, s, q, x, m⟩ := c
  refine canE_mk R s x m fun v h1 m1 ι1 H1 u R1 X1 s1 x1 r1 => ?_
  refine canE_mk R1 s1 x1 m1 fun w h2 m2 ι2 H2 z R2 X2 s2 x2 r2 => ?_
  have q2 := (q.ext R1 X1).ext R2 X2
  refine ⟨ι2, h2, v, w, _, R2, RV.ext R1 X2 _ _ r1, r2, ?_, m2⟩
  intro y h3 m3 ι3 H3 y' R3 X3 r3
  cases y with
  | bl k =>
    unfold RV at r3
    refine ⟨k, r3, ?_⟩
    cases k with
    | false => exact q2 _ _ m3 _ _ _ R3 X3 (by unfold RV; rfl)
    | true =>
      refine canE_mk R3 (s2.ext R2 X3) (x2.ext R3 X3) m3 fun w' h4 m4 ι4 H4 z' R4 X4 s4 x4 r4 => ?_
      exact ⟨ι4, h4, w, w', Qm, R4, RV.ext R3 X4 _ _ (RV.ext R2 X3 _ _ r2), r4, (q2.ext R3 X3).ext R4 X4, m4⟩
  | _ => exact m3.elim
theorem e_chain {c : Expr} {op op' : CmpOp} {o o' : Op2} (ho : OpR X (compareOp op) (canR T o)) (ho' : OpR X (compareOp op') (canR T o')) (ha : PE X a (canE T W ma)) (hb : PE X b (canE T W mb)) (hc : PE X c (canE T W mc))
    (hm : lastMarks [op, op'] [b, c] = false) : PE X (.Compare a [op, op'] [b, c] pos) (canE T W (wChain o o' ma mb mc)) := PE.le (pe_chain ho ho' ha hb hc hm) fun _ _ _ c => rd_chain c
theorem t_chain {c : Expr} {op op' : CmpOp} {o o' : Op2} (ho : OpR X (compareOp op) (canR T o)) (ho' : OpR X (compareOp op') (canR T o')) (ha : PE X a (canE T W ma)) (hb : PE X b (canE T W mb)) (hc : PE X c (canE T W mc))
    (hm : lastMarks [op, op'] [b, c] = false) : PT X (.Compare a [op, op'] [b, c] pos) (canT T W (tV (wChain o o' ma mb mc))) := PT.le (pt_chain ho ho' ha hb hc hm) fun _ _ _ c => t_val_rd (fun _ _ _ c => rd_chain c) c
variable {ta tb : WT}
theorem canT_mk {σ : L2.St} {H : Hp} {Q : Bool → Hp → Prop} {ι : IA} {h : MH} {σm : MS} {Qm : Bool → MH → Prop} {Em : QX} (R : Rel T ι h H) (s : RS T ι H σm σ) (x : PX T ι H Em (L2.WE W σ)) (m : ta σm h Qm Em)
    (k : ∀ v h', Qm v h' → ∀ ι' H', Rel T ι' h' H' → Ext ι H ι' H' → RS T ι' H' σm σ → PX T ι' H' Em (L2.WE W σ) → Q v H') : canT T W ta σ H Q :=
  ⟨ι, h, σm, Qm, Em, R, s, fun v h' q ι' H' R' X' => k v h' q ι' H' R' X' (s.ext R X') (x.ext R' X'), x, m⟩
theorem qT_ext {ι ι1 : IA} {h1 : MH} {H H1 : Hp} {Qm : Bool → MH → Prop} {Q : Bool → Hp → Prop} (R1 : Rel T ι1 h1 H1) (X1 : Ext ι H ι1 H1) (q : ∀ (k : Bool) h', Qm k h' → ∀ ι' H', Rel T ι' h' H' → Ext ι H ι' H' → Q k H') :
    ∀ (k : Bool) h', Qm k h' → ∀ ι' H', Rel T ι' h' H' → Ext ι1 H1 ι' H' → Q k H' := fun k h' m ι' H' R' X' => q k h' m ι' H' R' (Ext.trans R1 X1 X')
theorem t_and1 (ha : PT X a (canT T W ta)) : PW X (.BoolOp .And [a] pos) (canT T W ta) := pw_and1 ha
theorem t_or1 (ha : PT X a (canT T W ta)) : PW X (.BoolOp .Or [a] pos) (canT T W ta) := pw_or1 ha
theorem t_and {r : List Expr} (ha : PT X a (canT T W ta)) (hb : PW X (.BoolOp .And (b :: r) pos) (canT T W tb)) : PW X (.BoolOp .And (a :: b :: r) pos) (canT T W (tAnd ta tb)) :=
  PW.le (pw_and ha hb) fun σ H Q ⟨ι, h, σm, Qm, Em, R, s, q, x, m⟩ => canT_mk R s x m fun k h1 m1 ι1 H1 R1 X1 s1 x1 => by
    cases k with
    | true => exact ⟨ι1, h1, σm, Qm, Em, R1, s1, qT_ext R1 X1 q, x1, m1⟩
    | false => exact q _ _ m1 _ _ R1 X1
theorem t_or {r : List Expr} (ha : PT X a (canT T W ta)) (hb : PW X (.BoolOp .Or (b :: r) pos) (canT T W tb)) : PW X (.BoolOp .Or (a :: b :: r) pos) (canT T W (tOr ta tb)) :=
  PW.le (pw_or ha hb) fun σ H Q ⟨ι, h, σm, Qm, Em, R, s, q, x, m⟩ => canT_mk R s x m fun k h1 m1 ι1 H1 R1 X1 s1 x1 => by
    cases k with
    | false => exact ⟨ι1, h1, σm, Qm, Em, R1, s1, qT_ext R1 X1 q, x1, m1⟩
    | true => exact q _ _ m1 _ _ R1 X1
theorem t_not (ha : PT X a (canT T W ta)) : PT X (.UnaryOp .Not a pos) (canT T W (tNot ta)) :=
  PT.le (pt_not ha) fun σ H Q ⟨ι, h, σm, Qm, Em, R, s, q, x, m⟩ => canT_mk R s x m fun k h1 m1 ι1 H1 R1 X1 s1 x1 => q _ _ m1 _ _ R1 X1
theorem rvs_empty {K : PySem.W.Frag} {ι : IA} {H : Hp} {ms : List MV} {vs : List V} (r : RVs K ι H ms vs) : ms.isEmpty = vs.isEmpty := by
  have := r.length
  cases ms <;> cases vs <;> first | rfl | simp at this
theorem st_len (s : String) : (st s).length = s.length := by
  unfold st
  rw [Str.ofString_eq_toList]
  show (s.toList.map Char.toNat).toArray.size = _
  rw [List.size_toArray, List.length_map]
  exact String.length_toList
theorem lim_le : lim ≤ sizeLine := by rw [sizeLine_eq]; unfold lim; omega
theorem tru_ok {ι : IA} {h : MH} {H : Hp} {v : MV} {u : V} {k : Bool} (R : Rel T ι h H) (r : RV T.K ι H v u) (e : tru h v = some k) : TruV T.K u H k := by
  cases v with
  | non => unfold RV at r; subst r; unfold tru at e; cases e; rfl
  | bl b => unfold RV at r; subst r; unfold tru at e; cases e; rfl
  | int i =>
    unfold RV at r; subst r; unfold tru at e; cases e
    show _ = (i != 0)
    by_cases c : i = 0 <;> simp [c]
  | str s =>
    unfold RV at r; subst r
    have e : (if s.length ≤ lim then some (decide (s ≠ "")) else none) = some k := e
    split at e
    · rename_i hl
      cases e
      refine ⟨by rw [st_len]; exact Nat.le_trans hl lim_le, ?_⟩
      rw [st_len]
      by_cases c : s = ""
      · subst c; rfl
      · have : s.length ≠ 0 := fun z => c (by simpa using z)
        simp [c]
    · cases e
  | tup xs =>
    unfold RV at r; obtain ⟨p, vs, rfl, e1, e2⟩ := r
    unfold tru at e; cases e
    exact .inr (.inl ⟨vs, e1, by rw [rvs_empty e2]⟩)
  | cst xs =>
    unfold RV at r; obtain ⟨p, vs, rfl, e1, e2⟩ := r
    unfold tru at e; cases e
    exact .inl ⟨vs, e1.l, by rw [rvs_empty e2]⟩
  | ref q i =>
    unfold RV at r; obtain ⟨p, e0, rfl⟩ := r
    have e : (match rd h q i with
      | some (.lst xs) => some (!xs.isEmpty)
      | some (.dic kvs) => some (!kvs.isEmpty)
      | _ => none) = some k := e
    split at e
    · rename_i xs hq
      cases e
      obtain ⟨p', e1, vs, e2, e3⟩ := R.of_rd hq
      rw [e0] at e1; cases e1
      exact .inl ⟨vs, SqL.of e2, by rw [rvs_empty e3]⟩
    · rename_i kvs hq
      cases e
      obtain ⟨p', e1, kws, e2, e3⟩ := R.of_rd hq
      rw [e0] at e1; cases e1
      exact .inr (.inr ⟨kws, e2, by cases e3 <;> rfl⟩)
    · cases e
  | exc _ => unfold tru at e; cases e
theorem t_tru (hK : X.K = T.K) (ha : PE X a (canE T W ma)) (he : ∀ whole, isTrue a X.env whole = (do let v ← whole; standAt a.pos; holding [v] (truthy v))) : PT X a (canT T W (tTru ma)) :=
  PT.le (pt_truth ha he) fun σ H Q ⟨ι, h, σm, Qm, Em, R, s, q, x, m⟩ => canE_mk R s x m fun v h1 m1 ι1 H1 u R1 X1 s1 x1 r1 => by
    have m1 : (match tru h1 v with | some k => Qm k h1 | none => False) := m1
    cases e : tru h1 v with
    | none => rw [e] at m1; exact m1.elim
    | some k =>
      rw [e] at m1
      exact ⟨k, by rw [hK]; exact tru_ok R1 r1 e, q k h1 m1 ι1 H1 R1 X1⟩
theorem e_if {c : Expr} (hc : PT X c (canT T W ta)) (ha : PE X a (canE T W ma)) (hb : PE X b (canE T W mb)) : PE X (.IfExp c a b pos) (canE T W (wIf ta ma mb)) :=
  PE.le (pe_ifExp hc ha hb) fun σ H Q ⟨ι, h, σm, Qm, Em, R, s, q, x, m⟩ => canT_mk R s x m fun k h1 m1 ι1 H1 R1 X1 s1 x1 => by
    cases k with
    | true => exact ⟨ι1, h1, σm, Qm, Em, R1, s1, q.ext R1 X1, x1, m1⟩
    | false => exact ⟨ι1, h1, σm, Qm, Em, R1, s1, q.ext R1 X1, x1, m1⟩
theorem e_one {op} (h : PE X a (canE T W ma)) : PE X (.BoolOp op [a] pos) (canE T W ma) := pe_one h
theorem e_and {r : List Expr} (ha : PE X a (canE T W ma)) (hb : PE X (.BoolOp .And (b :: r) pos) (canE T W mb)) : PE X (.BoolOp .And (a :: b :: r) pos) (canE T W (wAndV ma mb)) :=
  PE.le (pe_and ha hb) fun σ H Q ⟨ι, h, σm, Qm, Em, R, s, q, x, m⟩ => canE_mk R s x m fun v h1 m1 ι1 H1 u R1 X1 s1 x1 r1 => by
    cases v with
    | bl k =>
      unfold RV at r1
      refine ⟨k, r1, ?_⟩
      cases k with
      | true => exact ⟨ι1, h1, σm, Qm, Em, R1, s1, q.ext R1 X1, x1, m1⟩
      | false => exact q _ _ m1 _ _ _ R1 X1 (by unfold RV; rfl)
    | _ => exact m1.elim
theorem e_or {r : List Expr} (ha : PE X a (canE T W ma)) (hb : PE X (.BoolOp .Or (b :: r) pos) (canE T W mb)) : PE X (.BoolOp .Or (a :: b :: r) pos) (canE T W (wOrV ma mb)) :=
  PE.le (pe_or ha hb) fun σ H Q ⟨ι, h, σm, Qm, Em, R, s, q, x, m⟩ => canE_mk R s x m fun v h1 m1 ι1 H1 u R1 X1 s1 x1 r1 => by
    cases v with
    | bl k =>
      unfold RV at r1
      refine ⟨k, r1, ?_⟩
      cases k with
      | false => exact ⟨ι1, h1, σm, Qm, Em, R1, s1, q.ext R1 X1, x1, m1⟩
      | true => exact q _ _ m1 _ _ _ R1 X1 (by unfold RV; rfl)
    | _ => exact m1.elim
theorem e_not (hK : X.K = T.K) (ha : PE X a (canE T W ma)) : PE X (.UnaryOp .Not a pos) (canE T W (wNot (tTru ma))) :=
  PE.le (pe_notT ha) fun σ H Q ⟨ι, h, σm, Qm, Em, R, s, q, x, m⟩ => canE_mk R s x m fun v h1 m1 ι1 H1 u R1 X1 s1 x1 r1 => by
    have m1 : (match tru h1 v with | some k => Qm (.bl (!k)) h1 | none => False) := m1
    cases e : tru h1 v with
    | none => rw [e] at m1; exact m1.elim
    | some k =>
      rw [e] at m1
      exact ⟨k, by rw [hK]; exact tru_ok R1 r1 e, q _ h1 m1 ι1 H1 _ R1 X1 (by unfold RV; rfl)⟩
/-! ### argument lists, displays -/
variable {es : List Expr} {as : WA}
theorem a_nil : PA X [] (canA T W aNil) := PA.le pa_nil fun σ H Q ⟨ι, h, σm, Qm, Em, R, s, q, x, m⟩ => q [] h m ι H [] R Ext.refl RVs.nil
theorem canA_mk {σ : L2.St} {H : Hp} {Q : List V → Hp → Prop} {ι : IA} {h : MH} {σm : MS} {Qm : List MV → MH → Prop} {Em : QX} (R : Rel T ι h H) (s : RS T ι H σm σ) (x : PX T ι H Em (L2.WE W σ)) (m : as σm h Qm Em)
    (k : ∀ ms h', Qm ms h' → ∀ ι' H' vs, Rel T ι' h' H' → Ext ι H ι' H' → RS T ι' H' σm σ → PX T ι' H' Em (L2.WE W σ) → RVs T.K ι' H' ms vs → Q vs H') : canA T W as σ H Q :=
  ⟨ι, h, σm, Qm, Em, R, s, fun v h' q ι' H' u R' X' r => k v h' q ι' H' u R' X' (s.ext R X') (x.ext R' X') r, x, m⟩
theorem a_cons (ha : PE X a (canE T W ma)) (hr : PA X es (canA T W as)) (hs : starEach (a :: es) X.env = (false, eval a X.env) :: starEach es X.env := by rfl) : PA X (a :: es) (canA T W (aCons ma as)) :=
  PA.le (pa_cons ha hr hs) fun σ H Q ⟨ι, h, σm, Qm, Em, R, s, q, x, m⟩ => canE_mk R s x m fun v h1 m1 ι1 H1 u R1 X1 s1 x1 r1 =>
    canA_mk R1 s1 x1 m1 fun ms h2 m2 ι2 H2 vs R2 X2 s2 x2 r2 => q _ _ m2 _ _ _ R2 (Ext.trans R1 X1 X2) (RVs.cons (RV.ext R1 X2 _ _ r1) r2)
/-- a new tracked object -/
theorem new_at {ι : IA} {h : MH} {H : Hp} {r : Nat} {p : Addr} {O : HO} {o : MO} (R : Rel T ι h H) (hp : H p = none) (ho : Ext ι H (ia ι r p) (upd H p O) → OR T (ia ι r p) (upd H p O) p o) :
    Rel T (ia ι r p) (al h r o) (upd H p O) ∧ Ext ι H (ia ι r p) (upd H p O) ∧ RV T.K (ia ι r p) (upd H p O) (.ref r (h r).length) (.ref p) := by
  have X := ext_new (O := O) (r := r) R hp
  refine ⟨rel_new R hp (ho X), X, ?_⟩
  unfold RV
  refine ⟨p, ?_, rfl⟩
  rw [ia_same, ← R.len, List.getElem?_append_right (Nat.le_refl _)]
  simp
/-- a thing beside the heap (a tuple) -/
theorem aside {ι : IA} {h : MH} {H : Hp} {p : Addr} {O : HO} (R : Rel T ι h H) (hp : H p = none) : Rel T ι h (upd H p O) ∧ Ext ι H ι (upd H p O) := by
  have X : Ext ι H ι (upd H p O) := ⟨fun r => ⟨[], by simp, by simp⟩, fun a o e n => by rw [upd_ne (ne_of_none e hp)]; exact e⟩
  refine ⟨⟨R.len, fun r i o p' e1 e2 => (R.obj r i o p' e1 e2).ext R X (upd_ne fun z => ?_), R.inj⟩, X⟩
  subst z
  exact R.fresh hp r i e2
theorem tup_at {ι : IA} {h : MH} {H : Hp} {p : Addr} {ms : List MV} {vs : List V} (R : Rel T ι h H) (hp : H p = none) (r : RVs T.K ι H ms vs) :
    Rel T ι h (upd H p (.tup vs)) ∧ Ext ι H ι (upd H p (.tup vs)) ∧ RV T.K ι (upd H p (.tup vs)) (.tup ms) (.ref p) := by
  obtain ⟨R1, X1⟩ := aside (O := .tup vs) R hp
  refine ⟨R1, X1, ?_⟩
  unfold RV
  exact ⟨p, vs, rfl, SqT.of upd_same, RVs.ext R X1 _ _ r⟩
theorem e_tup {j} (h : PA X es (canA T W as)) : PE X (.Tuple es j pos) (canE T W (wTup as)) :=
  PE.le (pe_tup h) fun σ H Q ⟨ι, h, σm, Qm, Em, R, s, q, x, m⟩ => canA_mk R s x m fun ms h1 m1 ι1 H1 vs R1 X1 s1 x1 r1 => by
    obtain ⟨l, m1⟩ := m1
    refine ⟨by rw [← r1.length]; exact Nat.le_trans l lim_le, fun p hp => ?_⟩
    obtain ⟨R2, X2, r2⟩ := tup_at R1 hp r1
    exact q _ _ m1 _ _ _ R2 (Ext.trans R1 X1 X2) r2
theorem lst_at {ι : IA} {h : MH} {H : Hp} {r : Nat} {p : Addr} {ms : List MV} {vs : List V} (R : Rel T ι h H) (hp : H p = none) (q : RVs T.K ι H ms vs) :
    Rel T (ia ι r p) (al h r (.lst ms)) (upd H p (.lst vs)) ∧ Ext ι H (ia ι r p) (upd H p (.lst vs)) ∧ RV T.K (ia ι r p) (upd H p (.lst vs)) (.ref r (h r).length) (.ref p) :=
  new_at R hp fun X => ⟨vs, upd_same, RVs.ext R X _ _ q⟩
theorem e_lst {r : Nat} (h : PA X es (canA T W as)) : PE X (.List es pos) (canE T W (wLst r as)) :=
  PE.le (pe_lst h) fun σ H Q ⟨ι, h, σm, Qm, Em, R, s, q, x, m⟩ => canA_mk R s x m fun ms h1 m1 ι1 H1 vs R1 X1 s1 x1 r1 => by
    obtain ⟨l, m1⟩ := m1
    refine ⟨by rw [← r1.length]; exact Nat.le_trans l lim_le, fun p hp => ?_⟩
    obtain ⟨R2, X2, r2⟩ := lst_at (r := r) R1 hp r1
    exact q _ _ m1 _ _ _ R2 (Ext.trans R1 X1 X2) r2
end
end Mi
end TxMiniE

section TxMiniO
set_option Elab.async false
set_option linter.all false
set_option autoImplicit false
set_option maxRecDepth 100000
set_option maxHeartbeats 4000000
namespace Mi
open PySem PySem.Spec PyProof.Rows L2
theorem RV.int_ {K : PySem.W.Frag} {ι : IA} {H : Hp} {i : Int} {v : V} (r : RV K ι H (.int i) v) : v = .int i := by unfold RV at r; exact r
theorem RV.str_ {K : PySem.W.Frag} {ι : IA} {H : Hp} {i : String} {v : V} (r : RV K ι H (.str i) v) : v = .str (st i) := by unfold RV at r; exact r
theorem RV.bl_ {K : PySem.W.Frag} {ι : IA} {H : Hp} {i : Bool} {v : V} (r : RV K ι H (.bl i) v) : v = .bl i := by unfold RV at r; exact r
theorem RV.non_ {K : PySem.W.Frag} {ι : IA} {H : Hp} {v : V} (r : RV K ι H .non v) : v = .non := by unfold RV at r; exact r
theorem RV.ref_ {K : PySem.W.Frag} {ι : IA} {H : Hp} {q i : Nat} {v : V} (r : RV K ι H (.ref q i) v) : ∃ p, (ι q)[i]? = some p ∧ v = .ref p := by unfold RV at r; exact r
theorem RV.tup_ {K : PySem.W.Frag} {ι : IA} {H : Hp} {xs : List MV} {v : V} (r : RV K ι H (.tup xs) v) : ∃ p vs, v = .ref p ∧ L2.SqT K H p vs ∧ RVs K ι H xs vs := by unfold RV at r; exact r
theorem RV.cst_ {K : PySem.W.Frag} {ι : IA} {H : Hp} {xs : List MV} {v : V} (r : RV K ι H (.cst xs) v) : ∃ p vs, v = .ref p ∧ SqC K H p vs ∧ RVs K ι H xs vs := by unfold RV at r; exact r
theorem RV.int' {K : PySem.W.Frag} {ι : IA} {H : Hp} {i : Int} : RV K ι H (.int i) (.int i) := by unfold RV; rfl
theorem RV.bl' {K : PySem.W.Frag} {ι : IA} {H : Hp} {i : Bool} : RV K ι H (.bl i) (.bl i) := by unfold RV; rfl
theorem RV.str' {K : PySem.W.Frag} {ι : IA} {H : Hp} {i : String} : RV K ι H (.str i) (.str (st i)) := by unfold RV; rfl
theorem RV.non' {K : PySem.W.Frag} {ι : IA} {H : Hp} : RV K ι H .non .non := by unfold RV; rfl
theorem Rel.lst_ {T : Tx} {ι : IA} {h : MH} {H : Hp} (R : Rel T ι h H) {q i : Nat} {v : V} {xs : List MV} (r : RV T.K ι H (.ref q i) v) (e : rd h q i = some (.lst xs)) :
    ∃ p vs, v = .ref p ∧ (ι q)[i]? = some p ∧ H p = some (.lst vs) ∧ RVs T.K ι H xs vs := by
  obtain ⟨p, e1, rfl⟩ := r.ref_
  obtain ⟨p', e2, vs, e3, e4⟩ := R.of_rd e
  rw [e1] at e2; cases e2
  exact ⟨p, vs, rfl, e1, e3, e4⟩
theorem Rel.dic_ {T : Tx} {ι : IA} {h : MH} {H : Hp} (R : Rel T ι h H) {q i : Nat} {v : V} {kvs : List (MV × MV)} (r : RV T.K ι H (.ref q i) v) (e : rd h q i = some (.dic kvs)) :
    ∃ p kws, v = .ref p ∧ (ι q)[i]? = some p ∧ H p = some (.dK kws) ∧ Paired (fun (m : MV × MV) (k : Key × V) => KR m.1 k.1 ∧ RV T.K ι H m.2 k.2) kvs kws := by
  obtain ⟨p, e1, rfl⟩ := r.ref_
  obtain ⟨p', e2, vs, e3, e4⟩ := R.of_rd e
  rw [e1] at e2; cases e2
  exact ⟨p, vs, rfl, e1, e3, e4⟩
theorem Rel.ins_ {T : Tx} {ι : IA} {h : MH} {H : Hp} (R : Rel T ι h H) {q i : Nat} {v : V} {c : String} {fs : List (String × MV)} (r : RV T.K ι H (.ref q i) v) (e : rd h q i = some (.ins c fs)) :
    ∃ p dx fvs, v = .ref p ∧ (ι q)[i]? = some p ∧ c ∈ T.Cl ∧ (∀ p ∈ fs, p.1 ∈ T.Fl) ∧ H p = some (.ins (clA T.K c) dx fvs) ∧ Paired (fun (m : String × MV) (k : Str × V) => k.1 = st m.1 ∧ RV T.K ι H m.2 k.2) fs fvs := by
  obtain ⟨p, e1, rfl⟩ := r.ref_
  obtain ⟨p', e2, hc, hf, dx, fvs, e3, e4⟩ := R.of_rd e
  rw [e1] at e2; cases e2
  exact ⟨p, dx, fvs, rfl, e1, hc, hf, e3, e4⟩
theorem RVs.map_int {K : PySem.W.Frag} {ι : IA} {H : Hp} : ∀ {ns : List Int} {vs : List V}, RVs K ι H (ns.map .int) vs → vs = ns.map V.int
  | [], _, e => by unfold RVs at e; exact e
  | n :: ns, _, e => by
    unfold RVs at e
    obtain ⟨v, r, rfl, e2, e3⟩ := e
    rw [e2.int_, RVs.map_int e3]
    rfl
theorem str_app (a b : String) : st a ++ st b = st (a ++ b) := by
  unfold st
  rw [Str.ofString_eq_toList, Str.ofString_eq_toList, Str.ofString_eq_toList, String.toList_append, List.map_append]
  show Str.append _ _ = _
  unfold Str.append
  simp
section
variable {T : Tx} {X : Cx} {W : WX} {pos : Pos}
theorem le_line {n : Nat} (h : n ≤ lim) : n ≤ sizeLine := Nat.le_trans h lim_le
theorem lt_line {n : Nat} (h : n < lim) : n < sizeLine := Nat.lt_of_lt_of_le h lim_le
/-- the end of an operation that leaves the heap -/
theorem PQ.here {ι : IA} {h : MH} {H : Hp} {Qm : QV} {Q : VK} {v : MV} {u : V} (q : PQ T ι H Qm Q) (R : Rel T ι h H) (m : Qm v h) (r : RV T.K ι H v u) : Q u H := q v h m ι H u R Ext.refl r
theorem PQ.lst {ι : IA} {h : MH} {H : Hp} {Qm : QV} {Q : VK} {r : Nat} {ms : List MV} {vs : List V} {p : Addr} (q : PQ T ι H Qm Q) (R : Rel T ι h H) (m : Qm (.ref r (h r).length) (al h r (.lst ms))) (hp : H p = none) (e : RVs T.K ι H ms vs) : Q (.ref p) (upd H p (.lst vs)) := by
  obtain ⟨R2, X2, r2⟩ := lst_at (r := r) R hp e
  exact q _ _ m _ _ _ R2 X2 r2
theorem PQ.tup {ι : IA} {h : MH} {H : Hp} {Qm : QV} {Q : VK} {ms : List MV} {vs : List V} {p : Addr} (q : PQ T ι H Qm Q) (R : Rel T ι h H) (m : Qm (.tup ms) h) (hp : H p = none) (e : RVs T.K ι H ms vs) : Q (.ref p) (upd H p (.tup vs)) := by
  obtain ⟨R2, X2, r2⟩ := tup_at R hp e
  exact q _ _ m _ _ _ R2 X2 r2
theorem o_add {r : Nat} (hK : X.K = T.K) : OpR X (binaryOp .Add) (canR T (oAdd r)) := by
  intro pins s σ H x y v u Q I rx ry c
  obtain ⟨ι, h, mx, my, Qm, R, r1, r2, q, m⟩ := c
  cases mx with
  | int i =>
    cases my with
    | int j => cases r1.int_; cases r2.int_; exact op_add pins s σ H _ _ v u Q I rx ry ⟨i, j, rfl, rfl, q.here R m .int'⟩
    | _ => exact m.elim
  | str i =>
    cases my with
    | str j =>
      cases r1.str_; cases r2.str_
      obtain ⟨l, m⟩ := m
      exact op_add_str pins s σ H _ _ v u Q I rx ry ⟨_, _, rfl, rfl, by rw [st_len, st_len]; exact le_line l, q.here R m (by rw [str_app]; exact .str')⟩
    | _ => exact m.elim
  | tup xs =>
    cases my with
    | tup ys =>
      obtain ⟨l, m⟩ := m
      obtain ⟨p, vs, rfl, e1, e2⟩ := r1.tup_
      obtain ⟨p', vs', rfl, e1', e2'⟩ := r2.tup_
      have lv := e2.length
      have lv' := e2'.length
      refine op_catA pins s σ H _ _ v u Q I rx ry ⟨p, p', vs, vs', rfl, rfl, by rw [hK]; exact e1, by rw [hK]; exact e1', by rw [← lv, ← lv']; exact le_line l, fun z => ?_, fun _ z => ?_, fun _ _ a ha => q.tup R m ha (e2.append e2')⟩
      · rw [z] at lv
        have : xs = [] := List.length_eq_zero_iff.mp lv
        subst this
        refine q.here R (v := .tup ys) m ?_
        unfold RV
        exact ⟨p', vs', rfl, e1', e2'⟩
      · rw [z] at lv'
        have : ys = [] := List.length_eq_zero_iff.mp lv'
        subst this
        rw [List.append_nil] at m
        refine q.here R m ?_
        unfold RV
        exact ⟨p, vs, rfl, e1, e2⟩
    | _ => exact m.elim
  | ref a i =>
    cases my with
    | ref b j =>
      have m : (match rd h a i, rd h b j with
        | some (.lst x), some (.lst y) => x.length + y.length ≤ lim ∧ Qm (.ref r (h r).length) (al h r (.lst (x ++ y)))
        | _, _ => False) := m
      split at m
      · rename_i xs ys ea eb
        obtain ⟨l, m⟩ := m
        obtain ⟨p, vs, rfl, _, e1, e2⟩ := R.lst_ r1 ea
        obtain ⟨p', vs', rfl, _, e1', e2'⟩ := R.lst_ r2 eb
        exact op_cat pins s σ H _ _ v u Q I rx ry ⟨p, p', vs, vs', rfl, rfl, e1, e1', by rw [← e2.length, ← e2'.length]; exact le_line l, fun z hz => q.lst R m hz (e2.append e2')⟩
      · exact m.elim
    | _ => exact m.elim
  | _ => cases my <;> exact m.elim
theorem o_sub : OpR X (binaryOp .Sub) (canR T oSub) := by
  intro pins s σ H x y v u Q I rx ry c
  obtain ⟨ι, h, mx, my, Qm, R, r1, r2, q, m⟩ := c
  cases mx with
  | int i =>
    cases my with
    | int j => cases r1.int_; cases r2.int_; exact op_sub pins s σ H _ _ v u Q I rx ry ⟨i, j, rfl, rfl, q.here R m .int'⟩
    | _ => exact m.elim
  | _ => cases my <;> exact m.elim
theorem RVs.rep {K : PySem.W.Frag} {ι : IA} {H : Hp} {ms : List MV} {vs : List V} (e : RVs K ι H ms vs) : ∀ n : Nat, RVs K ι H (Mi.rep ms n) (List.replicate n vs).flatten
  | 0 => RVs.nil
  | n + 1 => by
    show RVs K ι H (List.replicate (n + 1) ms).flatten _
    rw [List.replicate_succ, List.replicate_succ, List.flatten_cons, List.flatten_cons]
    exact e.append (RVs.rep e n)
theorem o_mul {r : Nat} : OpR X (binaryOp .Mult) (canR T (oMul r)) := by
  intro pins s σ H x y v u Q I rx ry c
  obtain ⟨ι, h, mx, my, Qm, R, r1, r2, q, m⟩ := c
  cases mx with
  | int i =>
    cases my with
    | int j =>
      cases r1.int_; cases r2.int_
      obtain ⟨c, m⟩ := m
      refine op_mul pins s σ H _ _ v u Q I rx ry ⟨i, j, rfl, rfl, ?_, q.here R m .int'⟩
      rcases c with c | c
      · left; unfold small at c; omega
      · right; unfold small at c; omega
    | _ => exact m.elim
  | ref a i =>
    cases my with
    | int k =>
      cases r2.int_
      have m : (match rd h a i with
        | some (.lst x) => small k ∧ k ≤ lim ∧ x.length * k.toNat ≤ lim ∧ Qm (.ref r (h r).length) (al h r (.lst (Mi.rep x k.toNat)))
        | _ => False) := m
      split at m
      · rename_i xs ea
        obtain ⟨c, c2, l, m⟩ := m
        unfold small at c
        obtain ⟨p, vs, rfl, _, e1, e2⟩ := R.lst_ r1 ea
        exact op_rep pins s σ H _ _ v u Q I rx ry ⟨p, k, vs, rfl, rfl, e1, by omega, by omega, by rw [← e2.length]; exact le_line l, fun z hz => q.lst R m hz (e2.rep _)⟩
      · exact m.elim
    | _ => exact m.elim
  | _ => cases my <;> exact m.elim
theorem o_div : OpR X (binaryOp .FloorDiv) (canR T oDiv) := by
  intro pins s σ H x y v u Q I rx ry c
  obtain ⟨ι, h, mx, my, Qm, R, r1, r2, q, m⟩ := c
  cases mx with
  | int i =>
    cases my with
    | int j =>
      cases r1.int_; cases r2.int_
      obtain ⟨c1, c2, m⟩ := m
      exact op_fdivW pins s σ H _ _ v u Q I rx ry ⟨i, j, rfl, rfl, wide_div (b := 1000) c1 (by unfold dmax at c2; omega) (by omega) (by omega), q.here R m .int'⟩
    | _ => exact m.elim
  | _ => cases my <;> exact m.elim
theorem o_mod : OpR X (binaryOp .Mod) (canR T oMod) := by
  intro pins s σ H x y v u Q I rx ry c
  obtain ⟨ι, h, mx, my, Qm, R, r1, r2, q, m⟩ := c
  cases mx with
  | int i =>
    cases my with
    | int j =>
      cases r1.int_; cases r2.int_
      obtain ⟨c1, m⟩ := m
      exact op_mod pins s σ H _ _ v u Q I rx ry ⟨i, j, rfl, rfl, c1, q.here R m .int'⟩
    | _ => exact m.elim
  | _ => cases my <;> exact m.elim
theorem o_pow : OpR X (binaryOp .Pow) (canR T oPow) := by
  intro pins s σ H x y v u Q I rx ry c
  obtain ⟨ι, h, mx, my, Qm, R, r1, r2, q, m⟩ := c
  cases mx with
  | int i =>
    cases my with
    | int j =>
      cases r1.int_; cases r2.int_
      obtain ⟨c1, c2, c3, m⟩ := m
      unfold small at c3
      exact op_pow pins s σ H _ _ v u Q I rx ry ⟨i, j, rfl, rfl, ⟨c1, by omega, by omega⟩, q.here R m .int'⟩
    | _ => exact m.elim
  | _ => cases my <;> exact m.elim
theorem u_neg : UnR X (unaryOp .USub) (canU T uNeg) := by
  intro pins s σ H x v Q I rx c
  obtain ⟨ι, h, mx, Qm, R, r1, q, m⟩ := c
  cases mx with
  | int i => cases r1.int_; exact un_neg pins s σ H _ v Q I rx ⟨i, rfl, q.here R m .int'⟩
  | _ => exact m.elim
/-! ### comparisons -/
theorem o_ord {o : Op2} {op : CmpOp} {p : Int → Int → Bool} (hr : OpR X (compareOp op) (rI0 fun i j => .bl (p i j))) (ho : ∀ mx my h Q, o mx my h Q → ∃ i j, mx = .int i ∧ my = .int j ∧ Q (.bl (p i j)) h) : OpR X (compareOp op) (canR T o) := by
  intro pins s σ H x y v u Q I rx ry c
  obtain ⟨ι, h, mx, my, Qm, R, r1, r2, q, m⟩ := c
  obtain ⟨i, j, rfl, rfl, m'⟩ := ho _ _ _ _ m
  cases r1.int_; cases r2.int_
  exact hr pins s σ H _ _ v u Q I rx ry ⟨i, j, rfl, rfl, q.here R m' .bl'⟩
theorem o_lt : OpR X (compareOp .Lt) (canR T oLt) := o_ord op_lt fun mx my h Q m => by
  cases mx <;> cases my <;> first | exact ⟨_, _, rfl, rfl, m⟩ | exact m.elim
theorem o_le : OpR X (compareOp .LtE) (canR T oLe) := o_ord op_le fun mx my h Q m => by
  cases mx <;> cases my <;> first | exact ⟨_, _, rfl, rfl, m⟩ | exact m.elim
theorem o_gt : OpR X (compareOp .Gt) (canR T oGt) := o_ord op_gt fun mx my h Q m => by
  cases mx <;> cases my <;> first | exact ⟨_, _, rfl, rfl, m⟩ | exact m.elim
theorem o_ge : OpR X (compareOp .GtE) (canR T oGe) := o_ord op_ge fun mx my h Q m => by
  cases mx <;> cases my <;> first | exact ⟨_, _, rfl, rfl, m⟩ | exact m.elim
/-! == -/
mutual
def toPy : PD → PyData
  | .non => .none
  | .bl b => .bool b
  | .int i => .int i
  | .str s => .str (st s)
  | .tup xs => .tuple (toPys xs)
  | .lst xs => .list (toPys xs)
def toPys : List PD → List PyData
  | [] => []
  | x :: xs => toPy x :: toPys xs
end
theorem strOk_st (s : String) : PyData.strOk (st s) = true := by
  unfold st PyData.strOk
  rw [Str.ofString_eq_toList]
  simp only [List.all_toArray, List.all_map, List.all_eq_true, Function.comp]
  intro c _
  have h := c.valid
  simp only [UInt32.isValidChar, Nat.isValidChar] at h
  have : c.toNat = c.val.toNat := rfl
  simp only [decide_eq_true_eq]
  omega
mutual
theorem canLay_py : ∀ d : PD, (toPy d).canLay0 = true
  | .non => rfl
  | .bl _ => rfl
  | .int _ => rfl
  | .str s => by unfold toPy PyData.canLay0; exact strOk_st s
  | .tup xs => by unfold toPy PyData.canLay0; exact canLay_pys xs
  | .lst xs => by unfold toPy PyData.canLay0; exact canLay_pys xs
theorem canLay_pys : ∀ ds : List PD, PyData.canLayAll0 (toPys ds) = true
  | [] => rfl
  | d :: ds => by
    unfold toPys PyData.canLayAll0
    rw [canLay_py d, canLay_pys ds]
    rfl
end
mutual
theorem eqv_py : ∀ a b : PD, PyData.eqv (toPy a) (toPy b) = PD.eqv a b
  | .non, b => by cases b <;> (unfold toPy PyData.eqv PD.eqv; rfl)
  | .bl x, b => by cases b <;> (unfold toPy PyData.eqv PD.eqv; rfl)
  | .int i, b => by
    cases b with
    | int j => unfold toPy PyData.eqv PD.eqv; exact Bool.beq_eq_decide_eq i j
    | _ => unfold toPy PyData.eqv PD.eqv; rfl
  | .str i, b => by
    cases b with
    | str j =>
      unfold toPy PyData.eqv PD.eqv
      by_cases c : i = j
      · subst c; simp
      · rw [decide_eq_false c]
        exact beq_eq_false_iff_ne.mpr fun z => c (st_inj z)
    | _ => unfold toPy PyData.eqv PD.eqv; rfl
  | .tup xs, b => by
    cases b with
    | tup ys => unfold toPy PyData.eqv PD.eqv; exact eqv_pys xs ys
    | _ => unfold toPy PyData.eqv PD.eqv; rfl
  | .lst xs, b => by
    cases b with
    | lst ys => unfold toPy PyData.eqv PD.eqv; exact eqv_pys xs ys
    | _ => unfold toPy PyData.eqv PD.eqv; rfl
theorem eqv_pys : ∀ a b : List PD, PyData.eqvAll (toPys a) (toPys b) = PD.eqvs a b
  | [], [] => rfl
  | [], _ :: _ => by unfold toPys PyData.eqvAll PD.eqvs; rfl
  | _ :: _, [] => by unfold toPys PyData.eqvAll PD.eqvs; rfl
  | a :: as, b :: bs => by
    unfold toPys PyData.eqvAll PD.eqvs
    rw [eqv_py a b, eqv_pys as bs]
end
theorem dp_all {ι : IA} {h : MH} {H : Hp} {n : Nat} (ih : ∀ (v : MV) (u : V) (d : PD), RV T.K ι H v u → dat h n v = some d → Dp T.K H u (toPy d) ∧ (toPy d).depth ≤ n) :
    ∀ (xs : List MV) (vs : List V) (ds : List PD), RVs T.K ι H xs vs → xs.mapM (dat h n) = some ds → DpAll T.K H vs (toPys ds) ∧ PyData.depthAll (toPys ds) ≤ n
  | [], vs, ds, r, e => by
    unfold RVs at r; subst r
    simp at e; subst e
    exact ⟨.nil, Nat.zero_le _⟩
  | x :: xs, vs, ds, r, e => by
    unfold RVs at r
    obtain ⟨v, w, rfl, r1, r2⟩ := r
    rw [List.mapM_cons] at e
    simp only [Option.pure_def, Option.bind_eq_bind, Option.bind_eq_some_iff] at e
    obtain ⟨d, e1, ds', e2, e3⟩ := e
    cases e3
    obtain ⟨q1, q2⟩ := ih x v d r1 e1
    obtain ⟨q3, q4⟩ := dp_all ih xs w ds' r2 e2
    refine ⟨.cons q1 q3, ?_⟩
    show PyData.depthAll (toPy d :: toPys ds') ≤ n
    unfold PyData.depthAll
    omega
theorem dp_of {ι : IA} {h : MH} {H : Hp} (R : Rel T ι h H) : ∀ (n : Nat) (v : MV) (u : V) (d : PD), RV T.K ι H v u → dat h n v = some d → Dp T.K H u (toPy d) ∧ (toPy d).depth ≤ n
  | n, .non, u, d, r, e => by cases r.non_; unfold dat at e; cases e; exact ⟨.non, Nat.zero_le _⟩
  | n, .bl _, u, d, r, e => by cases r.bl_; unfold dat at e; cases e; exact ⟨.bl _, Nat.zero_le _⟩
  | n, .int _, u, d, r, e => by cases r.int_; unfold dat at e; cases e; exact ⟨.int _, Nat.zero_le _⟩
  | n, .str _, u, d, r, e => by cases r.str_; unfold dat at e; cases e; exact ⟨.str _, Nat.zero_le _⟩
  | 0, .tup _, u, d, r, e => by unfold dat at e; cases e
  | 0, .cst _, u, d, r, e => by unfold dat at e; cases e
  | 0, .ref _ _, u, d, r, e => by unfold dat at e; cases e
  | 0, .exc _, u, d, r, e => by unfold dat at e; cases e
  | n + 1, .exc _, u, d, r, e => by unfold dat at e; cases e
  | n + 1, .tup xs, u, d, r, e => by
    obtain ⟨p, vs, rfl, e1, e2⟩ := r.tup_
    unfold dat at e
    obtain ⟨ds, e3, rfl⟩ := Option.map_eq_some_iff.mp e
    obtain ⟨q1, q2⟩ := dp_all (fun v u d => dp_of R n v u d) xs vs ds e2 e3
    unfold toPy
    refine ⟨.tup e1 q1, ?_⟩
    unfold PyData.depth
    omega
  | n + 1, .cst xs, u, d, r, e => by
    obtain ⟨p, vs, rfl, e1, e2⟩ := r.cst_
    unfold dat at e
    obtain ⟨ds, e3, rfl⟩ := Option.map_eq_some_iff.mp e
    obtain ⟨q1, q2⟩ := dp_all (fun v u d => dp_of R n v u d) xs vs ds e2 e3
    unfold toPy
    refine ⟨.lst e1.l q1, ?_⟩
    unfold PyData.depth
    omega
  | n + 1, .ref a i, u, d, r, e => by
    have e : (match rd h a i with
      | some (.lst xs) => (xs.mapM (dat h n)).map .lst
      | _ => none) = some d := by unfold dat at e; exact e
    split at e
    · rename_i xs ea
      obtain ⟨p, vs, rfl, _, e1, e2⟩ := R.lst_ r ea
      obtain ⟨ds, e3, rfl⟩ := Option.map_eq_some_iff.mp e
      obtain ⟨q1, q2⟩ := dp_all (fun v u d => dp_of R n v u d) xs vs ds e2 e3
      unfold toPy
      refine ⟨.lst (L2.SqL.of e1) q1, ?_⟩
      unfold PyData.depth
      omega
    · cases e
theorem shaped_of {d : PD} {n : Nat} (h : (toPy d).depth ≤ n) (hn : n ≤ 64) : SeqAt.shaped (toPy d) = true := by
  unfold SeqAt.shaped
  rw [canLay_py, decide_eq_true (Nat.le_trans h hn)]
  rfl
theorem o_eq (hK : X.K = T.K) (hu : X.A.units + 64 < cLine) : OpR X (compareOp .Eq) (canR T oEq) := by
  intro pins s σ H x y v u Q I rx ry c
  obtain ⟨ι, h, mx, my, Qm, R, r1, r2, q, m⟩ := c
  unfold oEq at m
  split at m
  · rename_i d e e1 e2
    obtain ⟨q1, q2⟩ := dp_of R _ _ _ _ r1 e1
    obtain ⟨q3, q4⟩ := dp_of R _ _ _ _ r2 e2
    exact op_eqD hu pins s σ H _ _ v u Q I rx ry ⟨_, _, by rw [hK]; exact q1, by rw [hK]; exact q3, shaped_of q2 (by decide), shaped_of q4 (by decide), by rw [eqv_py]; exact q.here R m .bl'⟩
  · exact m.elim
theorem o_ne (hK : X.K = T.K) (hu : X.A.units + 64 < cLine) : OpR X (compareOp .NotEq) (canR T oNe) := by
  intro pins s σ H x y v u Q I rx ry c
  obtain ⟨ι, h, mx, my, Qm, R, r1, r2, q, m⟩ := c
  unfold oNe at m
  split at m
  · rename_i d e e1 e2
    obtain ⟨q1, q2⟩ := dp_of R _ _ _ _ r1 e1
    obtain ⟨q3, q4⟩ := dp_of R _ _ _ _ r2 e2
    exact op_neD hu pins s σ H _ _ v u Q I rx ry ⟨_, _, by rw [hK]; exact q1, by rw [hK]; exact q3, shaped_of q2 (by decide), shaped_of q4 (by decide), by rw [eqv_py]; exact q.here R m .bl'⟩
  · exact m.elim
theorem non_iff {ι : IA} {H : Hp} {m : MV} {v : V} (r : RV T.K ι H m v) : decide (v = .non) = isN m := by
  cases m with
  | non => cases r.non_; rfl
  | bl _ => cases r.bl_; rfl
  | int _ => cases r.int_; rfl
  | str _ => cases r.str_; rfl
  | tup _ => obtain ⟨_, _, rfl, _⟩ := r.tup_; rfl
  | cst _ => obtain ⟨_, _, rfl, _⟩ := r.cst_; rfl
  | ref _ _ => obtain ⟨_, _, rfl⟩ := r.ref_; rfl
  | exc _ => unfold RV at r; subst r; rfl
theorem o_is : OpR X (compareOp .Is) (canR T oIsN) := by
  intro pins s σ H x y v u Q I rx ry c
  obtain ⟨ι, h, mx, my, Qm, R, r1, r2, q, m⟩ := c
  unfold oIsN at m
  split at m
  · cases r2.non_
    exact op_isN pins s σ H _ _ v u Q I rx ry ⟨rfl, q.here R m (by rw [non_iff r1]; exact .bl')⟩
  · exact m.elim
theorem o_isnot : OpR X (compareOp .IsNot) (canR T oNotN) := by
  intro pins s σ H x y v u Q I rx ry c
  obtain ⟨ι, h, mx, my, Qm, R, r1, r2, q, m⟩ := c
  unfold oNotN at m
  split at m
  · cases r2.non_
    exact op_notN pins s σ H _ _ v u Q I rx ry ⟨rfl, q.here R m (by rw [non_iff r1]; exact .bl')⟩
  · exact m.elim
end
end Mi
end TxMiniO

section TxMiniC
set_option Elab.async false
set_option linter.all false
set_option autoImplicit false
set_option maxRecDepth 100000
set_option maxHeartbeats 4000000
namespace Mi
open PySem PySem.Spec PyProof.Rows L2
section
variable {T : Tx} {X : Cx} {W : WX} {pos : Pos}
/-! ### keys -/
theorem KR.eq {m1 m2 : MV} {k1 k2 : Key} (a : KR m1 k1) (b : KR m2 k2) : eqF m1 m2 = decide (k1 = k2) := by
  cases a with
  | int i => cases b with
    | int j => rw [key_ll]; unfold eqF; rw [Bool.beq_eq_decide_eq]
    | str j => rw [key_lr]; rfl
  | str i => cases b with
    | int j => rw [key_rl]; rfl
    | str j =>
      rw [key_rr]
      show decide (i = j) = decide (st i = st j)
      by_cases c : i = j
      · subst c; simp
      · rw [decide_eq_false c, decide_eq_false fun z => c (st_inj z)]
theorem key_of_ {m : MV} {v : V} {ι : IA} {H : Hp} (k : isKey m = true) (r : RV T.K ι H m v) : ∃ k, KR m k ∧ v = kV k := by
  cases m with
  | int i => cases r.int_; exact ⟨_, .int i, rfl⟩
  | str i => cases r.str_; exact ⟨_, .str i, rfl⟩
  | _ => cases k
variable {ι : IA} {h : MH} {H : Hp}
abbrev KVR (T : Tx) (ι : IA) (H : Hp) : List (MV × MV) → List (Key × V) → Prop := Paired (fun (m : MV × MV) (k : Key × V) => KR m.1 k.1 ∧ RV T.K ι H m.2 k.2)
theorem KVR.at_ {m : MV} {k : Key} (hk : KR m k) : ∀ {kvs : List (MV × MV)} {kws : List (Key × V)}, KVR T ι H kvs kws → (∀ v, Mi.atKey m kvs = some v → ∃ u, valV kws k = some u ∧ RV T.K ι H v u) ∧ Mi.hasKey m kvs = (valV kws k).isSome
  | _, _, .nil => by
    refine ⟨fun v e => ?_, rfl⟩
    cases e
  | _, _, .cons (a := p) (b := q) ⟨r1, r2⟩ t => by
    obtain ⟨i1, i2⟩ := KVR.at_ hk t
    have e := r1.eq hk
    unfold Mi.atKey Mi.hasKey valV at *
    rw [List.find?_cons, List.find?_cons, List.any_cons]
    rw [e]
    cases c : decide (q.1 = k) with
    | true => exact ⟨fun v z => ⟨q.2, rfl, by have z : some p.2 = some v := z; cases z; exact r2⟩, rfl⟩
    | false => exact ⟨i1, by rw [Bool.false_or]; exact i2⟩
theorem KVR.has_any {m : MV} {k : Key} (hk : KR m k) : ∀ {kvs : List (MV × MV)} {kws : List (Key × V)}, KVR T ι H kvs kws → Mi.hasKey m kvs = kws.any fun kv => decide (kv.1 = k)
  | _, _, .nil => rfl
  | _, _, .cons (a := p) (b := q) ⟨r1, r2⟩ t => by
    have i2 := KVR.has_any hk t
    unfold Mi.hasKey at *
    rw [List.any_cons, List.any_cons, r1.eq hk, i2]
theorem KVR.map_put {m v : MV} {k : Key} {u : V} (hk : KR m k) (hv : RV T.K ι H v u) : ∀ {kvs : List (MV × MV)} {kws : List (Key × V)}, KVR T ι H kvs kws →
    KVR T ι H (kvs.map fun p => if eqF p.1 m then (p.1, v) else p) (kws.map fun kv => if kv.1 = k then (kv.1, u) else kv)
  | _, _, .nil => .nil
  | _, _, .cons (a := p) (b := q) ⟨r1, r2⟩ t => by
    rw [List.map_cons, List.map_cons]
    refine .cons ?_ (KVR.map_put hk hv t)
    have e := r1.eq hk
    by_cases c : q.1 = k
    · rw [decide_eq_true c] at e
      rw [if_pos c, if_pos e]
      exact ⟨r1, hv⟩
    · rw [decide_eq_false c] at e
      rw [if_neg c, if_neg (by rw [e]; exact Bool.false_ne_true)]
      exact ⟨r1, r2⟩
theorem KVR.append : ∀ {kvs kvs' : List (MV × MV)} {kws kws' : List (Key × V)}, KVR T ι H kvs kws → KVR T ι H kvs' kws' → KVR T ι H (kvs ++ kvs') (kws ++ kws')
  | _, _, _, _, .nil, s => s
  | _, _, _, _, .cons r t, s => .cons r (KVR.append t s)
theorem KVR.put {m v : MV} {k : Key} {u : V} {kvs : List (MV × MV)} {kws : List (Key × V)} (hk : KR m k) (hv : RV T.K ι H v u) (r : KVR T ι H kvs kws) : KVR T ι H (putKey m v kvs) (putK kws k u) := by
  unfold putKey putK
  rw [r.has_any hk]
  by_cases c : (kws.any fun kv => decide (kv.1 = k)) = true
  · rw [if_pos c, if_pos c]
    exact KVR.map_put hk hv r
  · rw [if_neg c, if_neg c]
    exact KVR.append r (.cons ⟨hk, hv⟩ .nil)
theorem KVR.ext {ι' : IA} {H' : Hp} (R : Rel T ι h H) (X : Ext ι H ι' H') {kvs : List (MV × MV)} {kws : List (Key × V)} (r : KVR T ι H kvs kws) : KVR T ι' H' kvs kws := Paired.imp (fun a b q => ⟨q.1, RV.ext R X _ _ q.2⟩) r
/-! ### in -/
theorem flat_of {m : MV} {v : V} (r : RV T.K ι H m v) (f : Mi.flat m = true) : flatV v = true ∧ ∀ m' v', RV T.K ι H m' v' → Mi.flat m' = true → eqV v v' = eqF m m' := by
  cases m with
  | non => cases r.non_; exact ⟨rfl, fun m' v' r' f' => by cases m' <;> first | (cases f' <;> done) | (first | cases r'.non_ | cases r'.bl_ | cases r'.int_ | cases r'.str_) <;> rfl⟩
  | bl b => cases r.bl_; exact ⟨rfl, fun m' v' r' f' => by cases m' <;> first | (cases f' <;> done) | (first | cases r'.non_ | cases r'.bl_ | cases r'.int_ | cases r'.str_) <;> rfl⟩
  | int b =>
    cases r.int_
    refine ⟨rfl, fun m' v' r' f' => ?_⟩
    cases m' with
    | non => cases r'.non_; rfl
    | bl _ => cases r'.bl_; rfl
    | int j => cases r'.int_; exact Bool.beq_eq_decide_eq b j
    | str _ => cases r'.str_; rfl
    | _ => cases f'
  | str b =>
    cases r.str_
    refine ⟨rfl, fun m' v' r' f' => ?_⟩
    cases m' with
    | non => cases r'.non_; rfl
    | bl _ => cases r'.bl_; rfl
    | int j => cases r'.int_; rfl
    | str j =>
      cases r'.str_
      show (st b == st j) = decide (b = j)
      by_cases c : b = j
      · subst c; simp
      · rw [decide_eq_false c]
        exact beq_eq_false_iff_ne.mpr fun z => c (st_inj z)
    | _ => cases f'
  | _ => cases f
theorem flats_of : ∀ {ms : List MV} {vs : List V}, RVs T.K ι H ms vs → ms.all Mi.flat = true → vs.all flatV = true ∧ ∀ m' v', RV T.K ι H m' v' → Mi.flat m' = true → (vs.any fun y => eqV y v') = ms.any fun y => eqF y m'
  | [], _, e, _ => by unfold RVs at e; subst e; exact ⟨rfl, fun _ _ _ _ => rfl⟩
  | m :: ms, _, e, f => by
    unfold RVs at e
    obtain ⟨v, w, rfl, e1, e2⟩ := e
    rw [List.all_cons, Bool.and_eq_true] at f
    obtain ⟨a1, a2⟩ := flat_of e1 f.1
    obtain ⟨b1, b2⟩ := flats_of e2 f.2
    exact ⟨by rw [List.all_cons, a1, b1]; rfl, fun m' v' r' f' => by rw [List.any_cons, List.any_cons, a2 m' v' r' f', b2 m' v' r' f']⟩
theorem sign_of {s : String} {c : Char} (e : s.toList = [c]) : st s = ⟨#[c.toNat]⟩ := by
  unfold st
  rw [Str.ofString_eq_toList, e]
  rfl
theorem mem_st (z : String) (c : Char) : decide (c.toNat ∈ (st z).cps.toList) = z.toList.any fun d => decide (d = c) := by
  have e : (st z).cps.toList = z.toList.map Char.toNat := by
    unfold st
    rw [Str.ofString_eq_toList]
  rw [e, Bool.eq_iff_iff]
  simp only [decide_eq_true_eq, List.mem_map, List.any_eq_true]
  constructor
  · rintro ⟨d, hd, q⟩
    exact ⟨d, hd, Char.ext (UInt32.toNat.inj q)⟩
  · rintro ⟨d, hd, rfl⟩
    exact ⟨d, hd, rfl⟩
theorem inB_ok {op : CmpOp} {f : Bool → Bool} (hK : X.K = T.K) (h1 : OpR X (compareOp op) (fun x y H Q => ∃ p xs, y = .ref p ∧ (L2.SqL X.K H p xs ∨ L2.SqT X.K H p xs) ∧ flatV x = true ∧ xs.all flatV = true ∧ Q (.bl (f (inV x xs))) H))
    (h2 : OpR X (compareOp op) (fun y x H Q => ∃ a o, x = .ref a ∧ DGet H a y o ∧ Q (.bl (f o.isSome)) H))
    (h3 : OpR X (compareOp op) (fun x y H Q => ∃ (c : Nat) (z : Str), x = .str ⟨#[c]⟩ ∧ y = .str z ∧ Q (.bl (f (decide (c ∈ z.cps.toList)))) H)) :
    OpR X (compareOp op) (canR T fun x y h Q => match inB x y h with | some b => Q (.bl (f b)) h | none => False) := by
  intro pins s σ H x y v u Q I rx ry c
  obtain ⟨ι, h, mx, my, Qm, R, r1, r2, q, m⟩ := c
  have m : (match (generalizing := false) inB mx my h with | some b => Qm (.bl (f b)) h | none => False) := m
  cases e : inB mx my h with
  | none => rw [e] at m; exact m.elim
  | some b =>
    rw [e] at m
    have go : ∀ {p : Addr} {ms : List MV} {vs : List V}, y = .ref p → (L2.SqL X.K H p vs ∨ L2.SqT X.K H p vs) → RVs T.K ι H ms vs → (if Mi.flat mx && ms.all Mi.flat then some (ms.any fun y => eqF y mx) else none) = some b →
        wpAny (model X.prog X.w) X.A (compareOp op v u) (EP X pins σ Q) X.xe s := fun {p ms vs} hy hq hr hb => by
      split at hb
      · rename_i hf
        rw [Bool.and_eq_true] at hf
        obtain ⟨a1, _⟩ := flat_of r1 hf.1
        obtain ⟨b1, b2⟩ := flats_of hr hf.2
        refine h1 pins s σ H x y v u Q I rx ry ⟨p, vs, hy, hq, a1, b1, ?_⟩
        unfold inV
        rw [b2 _ _ r1 hf.1, Option.some.inj hb]
        exact q.here R m .bl'
      · cases hb
    cases my with
    | tup ys =>
      obtain ⟨p, vs, rfl, e1, e2⟩ := r2.tup_
      exact go rfl (.inr (by rw [hK]; exact e1)) e2 e
    | cst ys =>
      obtain ⟨p, vs, rfl, e1, e2⟩ := r2.cst_
      exact go rfl (.inl (by rw [hK]; exact e1.l)) e2 e
    | str z =>
      cases mx with
      | str w =>
        have e : (match w.toList with | [c] => some (z.toList.any fun d => decide (d = c)) | _ => none) = some b := e
        split at e
        · rename_i c hc
          cases r1.str_; cases r2.str_
          cases e
          refine h3 pins s σ H _ _ v u Q I rx ry ⟨c.toNat, st z, by rw [sign_of hc], rfl, ?_⟩
          rw [mem_st]
          exact q.here R m .bl'
        · cases e
      | _ => cases e
    | ref a i =>
      have e : (match rd h a i with
        | some (.lst ys) => if Mi.flat mx && ys.all Mi.flat then some (ys.any fun y => eqF y mx) else none
        | some (.dic kvs) => if isKey mx then some (hasKey mx kvs) else none
        | _ => none) = some b := e
      split at e
      · rename_i ys ea
        obtain ⟨p, vs, rfl, _, e1, e2⟩ := R.lst_ r2 ea
        exact go rfl (.inl (SqL.of e1)) e2 e
      · rename_i kvs ea
        split at e
        · rename_i hk
          cases e
          obtain ⟨k, k1, rfl⟩ := key_of_ hk r1
          obtain ⟨p, kws, rfl, _, e1, e2⟩ := R.dic_ r2 ea
          refine h2 pins s σ H _ _ v u Q I rx ry ⟨p, _, rfl, DGet.k e1, ?_⟩
          rw [← (KVR.at_ k1 e2).2]
          exact q.here R m .bl'
        · cases e
      · cases e
    | _ => cases e
theorem o_in (hK : X.K = T.K) (hu : X.A.units + 1 < cLine) : OpR X (compareOp .In) (canR T oIn) :=
  inB_ok (f := fun b => b) hK op_in_seq (fun pins s σ H y x v u Q I ry rx ⟨a, o, e, g, q⟩ => by
    subst e
    obtain rfl : u = Value.ref a := rx
    exact d_in hu I g ry fun s3 I3 => ⟨.bl o.isSome, H, I3, rfl, q⟩) op_in_sign
theorem o_notin (hK : X.K = T.K) (hu : X.A.units + 1 < cLine) : OpR X (compareOp .NotIn) (canR T oNotIn) :=
  inB_ok (f := fun b => !b) hK op_notIn_seq (fun pins s σ H y x v u Q I ry rx ⟨a, o, e, g, q⟩ => by
    subst e
    obtain rfl : u = Value.ref a := rx
    exact d_notIn hu I g ry fun s3 I3 => ⟨.bl (!o.isSome), H, I3, rfl, q⟩) op_notIn_sign
/-! ### items -/
theorem ix_dic (hu : X.A.units + 1 < cLine) : IxR X (fun x y H Q => ∃ a v, x = .ref a ∧ DGet H a y (some v) ∧ Q v H) := by
  intro value slice pins s σ H x y v u Q I rx ry hq hs
  obtain ⟨a, w, rfl, g, q⟩ := hq
  obtain rfl : v = Value.ref a := rx
  have ty := dict_typeIs I g
  unfold subscriptTail
  refine wpAny_bind ?_
  rw [getitemInPython_of_ne ty.not_modules]
  refine wpAny_bind (wpAny_specialOf ty PySem.F.slot_dict_getitem.lookup ?_)
  have fin : wpAny (model X.prog X.w) X.A (subscripted slice false (.ref a) u) (fun r s₃ => wpAny (model X.prog X.w) X.A (letTemporaryGo value (.ref a) r >>= fun _ => pure r) (EP X pins σ Q) X.xe s₃) X.xe s := by
    rw [hs]
    exact wpAny_operating (d_getItem hu I g ry fun w' s3 I3 rw' => wpAny_bind (wpAny_letTemporaryGo (wpAny_pure ⟨w, H, I3, rw', q⟩)))
  first
    | exact wpAny_pure (wpAny_bind fin)
    | exact wpAny_bind (wpAny_pure (wpAny_bind fin))
    | exact wpAny_bind fin
theorem RVs.atI : ∀ {ms : List MV} {vs : List V} {i : Int} {m : MV}, RVs T.K ι H ms vs → Mi.atI ms i = some m → ∃ v, L2.atI vs i = some v ∧ RV T.K ι H m v := fun {ms vs i m} r e => by
  unfold Mi.atI at e
  obtain ⟨j, e1, e2⟩ := Option.bind_eq_some_iff.mp e
  obtain ⟨v, e3, e4⟩ := r.get e2
  refine ⟨v, ?_, e4⟩
  unfold L2.atI
  rw [← r.length]
  have : L2.ixN ms.length i = some j := e1
  rw [this]
  exact e3
theorem ix_ok (hK : X.K = T.K) (hu : X.A.units + 1 < cLine) : IxR X (canR T oIx) := by
  intro value slice pins s σ H x y v u Q I rx ry c hs
  obtain ⟨ι, h, mx, my, Qm, R, r1, r2, q, m⟩ := c
  have m' : (match (generalizing := false) getIx mx my h with | some v => Qm v h | none => False) := m
  clear m
  cases e : getIx mx my h with
  | none => rw [e] at m'; exact m'.elim
  | some w =>
    rw [e] at m'
    have m' : Qm w h := m'
    cases mx with
    | tup xs => cases my with
      | int i =>
        obtain ⟨p, vs, rfl, e1, e2⟩ := r1.tup_
        cases r2.int_
        obtain ⟨z, e3, e4⟩ := e2.atI (show Mi.atI xs i = some w from e)
        exact ix_tup value slice pins s σ H _ _ v u Q I rx ry ⟨p, vs, i, z, rfl, rfl, by rw [hK]; exact e1, e3, q.here R m' e4⟩ hs
      | _ => cases e
    | cst xs => cases my with
      | int i =>
        obtain ⟨p, vs, rfl, e1, e2⟩ := r1.cst_
        cases r2.int_
        obtain ⟨z, e3, e4⟩ := e2.atI (show Mi.atI xs i = some w from e)
        exact ix_list value slice pins s σ H _ _ v u Q I rx ry ⟨p, vs, i, z, rfl, rfl, by rw [hK]; exact e1.l, e3, q.here R m' e4⟩ hs
      | _ => cases e
    | str z => cases my with
      | int i =>
        cases r1.str_; cases r2.int_
        have e : (if z.length ≤ lim then (Mi.atI z.toList i).map fun c => .str (String.singleton c) else none) = some w := e
        split at e
        · rename_i hl
          obtain ⟨c, e1, rfl⟩ := Option.map_eq_some_iff.mp e
          have e2 : L2.atI (st z).cps.toList i = some c.toNat := by
            have e3 : (st z).cps.toList = z.toList.map Char.toNat := by
              unfold st
              rw [Str.ofString_eq_toList]
            unfold Mi.atI at e1
            obtain ⟨j, e4, e5⟩ := Option.bind_eq_some_iff.mp e1
            unfold L2.atI
            rw [e3, List.length_map]
            have : L2.ixN z.toList.length i = some j := e4
            rw [this]
            show (z.toList.map Char.toNat)[j]? = _
            rw [List.getElem?_map, e5]
            rfl
          refine ix_str value slice pins s σ H _ _ v u Q I rx ry ⟨st z, i, c.toNat, rfl, rfl, by rw [st_len]; exact le_line hl, e2, ?_⟩ hs
          rw [← sign_of (s := String.singleton c) (c := c) (by simp)]
          exact q.here R m' .str'
        · cases e
      | _ => cases e
    | ref a i =>
      have e : (match (generalizing := false) rd h a i, my with
        | some (.lst xs), .int i => Mi.atI xs i
        | some (.dic kvs), k => if isKey k then Mi.atKey k kvs else none
        | _, _ => none) = some w := e
      split at e
      · rename_i xs j ea _
        obtain ⟨p, vs, rfl, _, e1, e2⟩ := R.lst_ r1 ea
        cases r2.int_
        obtain ⟨z, e3, e4⟩ := e2.atI e
        exact ix_list value slice pins s σ H _ _ v u Q I rx ry ⟨p, vs, j, z, rfl, rfl, SqL.of e1, e3, q.here R m' e4⟩ hs
      · rename_i kvs ea _
        split at e
        · rename_i hk
          obtain ⟨k, k1, rfl⟩ := key_of_ hk r2
          obtain ⟨p, kws, rfl, _, e1, e2⟩ := R.dic_ r1 ea
          obtain ⟨z, e3, e4⟩ := (KVR.at_ k1 e2).1 w e
          exact ix_dic hu value slice pins s σ H _ _ v u Q I rx ry ⟨p, z, rfl, by rw [← e3]; exact DGet.k e1, q.here R m' e4⟩ hs
        · cases e
      · cases e
    | _ => cases e
variable {a b e : Expr} {ma mb me : WE}
theorem e_ix (hK : X.K = T.K) (hu : X.A.units + 1 < cLine) (ha : PE X a (canE T W ma)) (hb : PE X b (canE T W mb)) (hs : PlainIx b) : PE X (.Subscript a b pos) (canE T W (wOp oIx ma mb)) :=
  PE.le (pe_ix (ix_ok hK hu) ha hb hs) fun _ _ _ c => rd_op c
/-! ### slices -/
def canO (T : Tx) (W : WX) (m : WO) : L2.TO := fun σ H Q => ∃ ι h σm Qm Em, Rel T ι h H ∧ RS T ι H σm σ ∧ (∀ k h', Qm k h' → ∀ ι' H', Rel T ι' h' H' → Ext ι H ι' H' → Q k H') ∧ PX T ι H Em (L2.WE W σ) ∧ m σm h Qm Em
theorem p_none : PO X none (canO T W pNone) := ⟨fun pins s σ H Q I c => po_none.run pins s σ H Q I (by
  obtain ⟨ι, h, σm, Qm, Em, R, s, q, x, m⟩ := c
  exact q _ _ m _ _ R Ext.refl)⟩
theorem p_some (ha : PE X a (canE T W ma)) : PO X (some a) (canO T W (pSome ma)) := ⟨fun pins s σ H Q I c => (po_some ha).run pins s σ H Q I (by
  obtain ⟨ι, h, σm, Qm, Em, R, s, q, x, m⟩ := c
  refine canE_mk R s x m fun v h1 m1 ι1 H1 u R1 X1 s1 x1 r1 => ?_
  cases v with
  | int i => exact ⟨i, r1.int_, q _ _ m1 _ _ R1 X1⟩
  | _ => exact m1.elim)⟩
theorem sIx_eq (n d : Nat) (o : Option Int) : HT.sIx n d o = Mi.sIx n d o := by
  unfold HT.sIx Mi.sIx
  cases o <;> rfl
theorem RVs.cut {ms : List MV} {vs : List V} (r : RVs T.K ι H ms vs) (lo hi : Option Int) : RVs T.K ι H (Mi.cut ms lo hi) (cutV vs lo hi) := by
  unfold Mi.cut cutV
  rw [← r.length, sIx_eq, sIx_eq]
  exact (r.drop _).take _
def canL (T : Tx) (r : Nat) : V → Option Int → Option Int → Hp → VK → Prop := fun x l u H Q => ∃ ι h mx Qm, Rel T ι h H ∧ RV T.K ι H mx x ∧ PQ T ι H Qm Q ∧ (match mx with
  | .tup xs => Qm (.tup (Mi.cut xs l u)) h
  | .str s => s.length ≤ lim ∧ Qm (.str (String.ofList (Mi.cut s.toList l u))) h
  | .cst xs => Qm (.ref r (h r).length) (al h r (.lst (Mi.cut xs l u)))
  | .ref q i => match rd h q i with
    | some (.lst xs) => Qm (.ref r (h r).length) (al h r (.lst (Mi.cut xs l u)))
    | _ => False
  | _ => False)
theorem cutS_st (s : String) (lo hi : Option Int) : cutS (st s) lo hi = st (String.ofList (Mi.cut s.toList lo hi)) := by
  have e3 : (st s).cps.toList = s.toList.map Char.toNat := by
    unfold st
    rw [Str.ofString_eq_toList]
  unfold cutS Mi.cut
  rw [e3, st_len, sIx_eq, sIx_eq, ← List.map_drop, ← List.map_take]
  unfold st
  rw [Str.ofString_eq_toList, String.toList_ofList, String.length_toList]
theorem sl_ok {r : Nat} (hK : X.K = T.K) : SlR X (canL T r) := by
  intro pins s σ H x v vl vu lo hi sl Q I rx hs pl pu c
  obtain ⟨ι, h, mx, Qm, R, r1, q, m⟩ := c
  cases mx with
  | tup xs =>
    obtain ⟨p, vs, rfl, e1, e2⟩ := r1.tup_
    refine sl_tupA pins s σ H _ v vl vu lo hi sl Q I rx hs pl pu ⟨p, vs, rfl, by rw [hK]; exact e1, fun z => ?_, fun z a ha => q.tup R m ha (e2.cut lo hi)⟩
    have e : Mi.cut xs lo hi = xs := by
      unfold Mi.cut
      rw [← sIx_eq, ← sIx_eq, e2.length, z.1, z.2, ← e2.length]
      simp
    have m : Qm (.tup (Mi.cut xs lo hi)) h := m
    rw [e] at m
    refine q.here R m ?_
    unfold RV
    exact ⟨p, vs, rfl, e1, e2⟩
  | str z =>
    cases r1.str_
    obtain ⟨l, m⟩ := (show z.length ≤ lim ∧ Qm (.str (String.ofList (Mi.cut z.toList lo hi))) h from m)
    refine sl_str pins s σ H _ v vl vu lo hi sl Q I rx hs pl pu ⟨st z, rfl, by rw [st_len]; exact le_line l, ?_⟩
    rw [cutS_st]
    exact q.here R m .str'
  | cst xs =>
    obtain ⟨p, vs, rfl, e1, e2⟩ := r1.cst_
    exact sl_list pins s σ H _ v vl vu lo hi sl Q I rx hs pl pu ⟨p, vs, rfl, by rw [hK]; exact e1.l, fun a ha => q.lst R m ha (e2.cut lo hi)⟩
  | ref a i =>
    have m : (match rd h a i with
      | some (.lst xs) => Qm (.ref r (h r).length) (al h r (.lst (Mi.cut xs lo hi)))
      | _ => False) := m
    split at m
    · rename_i xs ea
      obtain ⟨p, vs, rfl, _, e1, e2⟩ := R.lst_ r1 ea
      exact sl_list pins s σ H _ v vl vu lo hi sl Q I rx hs pl pu ⟨p, vs, rfl, SqL.of e1, fun a ha => q.lst R m ha (e2.cut lo hi)⟩
    · exact m.elim
  | _ => exact m.elim
theorem e_sl {r : Nat} {lo hi : Option Expr} {ml mh : WO} {p2 : Pos} (hK : X.K = T.K) (ha : PE X a (canE T W ma)) (hl : PO X lo (canO T W ml)) (hh : PO X hi (canO T W mh)) :
    PE X (.Subscript a (.Slice lo hi none p2) pos) (canE T W (wSl r ma ml mh)) := PE.le (pe_slice (sl_ok (T := T) (r := r) hK) ha hl hh) fun σ H Q ⟨ι, h, σm, Qm, Em, R, s, q, x, m⟩ => by
  refine canE_mk R s x m fun v h1 m1 ι1 H1 u R1 X1 s1 x1 r1 => ?_
  refine ⟨ι1, h1, σm, _, Em, R1, s1, fun l h2 m2 ι2 H2 R2 X2 => ?_, x1, m1⟩
  refine ⟨ι2, h2, σm, _, Em, R2, s1.ext R1 X2, fun y h3 m3 ι3 H3 R3 X3 => ?_, x1.ext R2 X2, m2⟩
  exact ⟨ι3, h3, v, Qm, R3, RV.ext R2 X3 _ _ (RV.ext R1 X2 _ _ r1), ((q.ext R1 X1).ext R2 X2).ext R3 X3, m3⟩
end
end Mi
end TxMiniC

section TxMiniD
set_option Elab.async false
set_option linter.all false
set_option autoImplicit false
set_option maxRecDepth 100000
set_option maxHeartbeats 4000000
namespace Mi
open PySem PySem.Spec PyProof.Rows L2
/-! ### fields -/
section
variable {T : Tx} {X : Cx} {W : WX} {pos : Pos} {ι : IA} {h : MH} {H : Hp}
abbrev FVR (T : Tx) (ι : IA) (H : Hp) : List (String × MV) → List (Str × V) → Prop := Paired (fun (m : String × MV) (k : Str × V) => k.1 = st m.1 ∧ RV T.K ι H m.2 k.2)
theorem st_beq (a b : String) : (st a == st b) = (a == b) := by
  by_cases c : a = b
  · subst c; simp
  · rw [beq_eq_false_iff_ne.mpr c]
    exact beq_eq_false_iff_ne.mpr fun z => c (st_inj z)
theorem FVR.look : ∀ {fs : List (String × MV)} {gs : List (Str × V)} {f : String}, FVR T ι H fs gs → (∀ v, fs.lookup f = some v → ∃ u, gs.lookup (st f) = some u ∧ RV T.K ι H v u) ∧ (fs.lookup f = none → gs.lookup (st f) = none)
  | _, _, f, .nil => by
    refine ⟨fun v e => ?_, fun _ => rfl⟩
    cases e
  | _, _, f, .cons (a := p) (b := q) ⟨r1, r2⟩ t => by
    obtain ⟨i1, i2⟩ := FVR.look (f := f) t
    obtain ⟨p1, p2⟩ := p
    obtain ⟨q1, q2⟩ := q
    simp only at r1 r2
    subst r1
    rw [List.lookup_cons, List.lookup_cons, st_beq]
    cases c : f == p1 with
    | true => exact ⟨fun v e => ⟨q2, rfl, by cases e; exact r2⟩, fun e => by cases e⟩
    | false => exact ⟨i1, i2⟩
theorem FVR.put {f : String} {v : MV} {u : V} (hv : RV T.K ι H v u) : ∀ {fs : List (String × MV)} {gs : List (Str × V)}, FVR T ι H fs gs → FVR T ι H (Mi.putF f v fs) (L2.putF (st f) u gs)
  | _, _, .nil => .cons ⟨rfl, hv⟩ .nil
  | _, _, .cons (a := p) (b := q) ⟨r1, r2⟩ t => by
    have ih := FVR.put (f := f) hv t
    obtain ⟨p1, p2⟩ := p
    obtain ⟨q1, q2⟩ := q
    simp only at r1 r2
    subst r1
    show FVR T ι H (if f = p1 then (p1, v) :: _ else (p1, p2) :: Mi.putF f v _) (if st p1 = st f then (st p1, u) :: _ else (st p1, q2) :: L2.putF (st f) u _)
    by_cases c : f = p1
    · subst c
      rw [if_pos rfl, if_pos rfl]
      exact .cons ⟨rfl, hv⟩ t
    · rw [if_neg c, if_neg (fun z => c (st_inj z).symm)]
      exact .cons ⟨rfl, r2⟩ ih
theorem FVR.length {fs : List (String × MV)} {gs : List (Str × V)} (r : FVR T ι H fs gs) : fs.length = gs.length := Paired.length r
theorem FVR.ext {ι' : IA} {H' : Hp} (R : Rel T ι h H) (X : Ext ι H ι' H') {fs : List (String × MV)} {gs : List (Str × V)} (r : FVR T ι H fs gs) : FVR T ι' H' fs gs := Paired.imp (fun a b q => ⟨q.1, RV.ext R X _ _ q.2⟩) r
/-- an object changed -/
theorem wr_at {r i : Nat} {p : Addr} {O : HO} {o : MO} {Qm : MH → Prop} {Q : Hp → Prop} (R : Rel T ι h H) (hp : (ι r)[i]? = some p) (ho : Ext ι H ι (upd H p O) → OR T ι (upd H p O) p o) :
    Rel T ι (wr h r i o) (upd H p O) ∧ Ext ι H ι (upd H p O) := by
  have X := ext_wr (O := O) R hp
  exact ⟨rel_wr R hp (ho X), X⟩
theorem wr_lst {r i : Nat} {p : Addr} {ms : List MV} {vs : List V} (R : Rel T ι h H) (hp : (ι r)[i]? = some p) (e : RVs T.K ι H ms vs) :
    Rel T ι (wr h r i (.lst ms)) (upd H p (.lst vs)) ∧ Ext ι H ι (upd H p (.lst vs)) :=
  wr_at (Qm := fun _ => True) (Q := fun _ => True) R hp fun X => ⟨vs, upd_same, RVs.ext R X _ _ e⟩
theorem wr_dic {r i : Nat} {p : Addr} {ms : List (MV × MV)} {vs : List (Key × V)} (R : Rel T ι h H) (hp : (ι r)[i]? = some p) (e : KVR T ι H ms vs) :
    Rel T ι (wr h r i (.dic ms)) (upd H p (.dK vs)) ∧ Ext ι H ι (upd H p (.dK vs)) :=
  wr_at (Qm := fun _ => True) (Q := fun _ => True) R hp fun X => ⟨vs, upd_same, KVR.ext R X e⟩
theorem wr_ins {r i : Nat} {p dx : Addr} {c : String} {ms : List (String × MV)} {vs : List (Str × V)} (R : Rel T ι h H) (hp : (ι r)[i]? = some p) (hc : c ∈ T.Cl) (hf : ∀ p ∈ ms, p.1 ∈ T.Fl) (e : FVR T ι H ms vs) :
    Rel T ι (wr h r i (.ins c ms)) (upd H p (.ins (clA T.K c) dx vs)) ∧ Ext ι H ι (upd H p (.ins (clA T.K c) dx vs)) :=
  wr_at (Qm := fun _ => True) (Q := fun _ => True) R hp fun X => ⟨hc, hf, dx, vs, upd_same, FVR.ext R X e⟩
variable {o e : Expr} {mo me : WE}
theorem e_fld {f : String} (hK : X.K = T.K) (hc : ∀ c ∈ T.Cl, Cls T.K (clA T.K c)) (hn : ∀ c ∈ T.Cl, NoAttr T.K (clA T.K c) (st f)) (he : PE X e (canE T W me)) (hb : attributeBase e (st f) X.env (eval e X.env) = eval e X.env) :
    PE X (.Attribute e (st f) pos) (canE T W (wFld me f)) := PE.le (pe_fld he hb) fun σ H Q ⟨ι, h, σm, Qm, Em, R, s, q, x, m⟩ => by
  refine canE_mk R s x m fun v h1 m1 ι1 H1 u R1 X1 s1 x1 r1 => ?_
  cases v with
  | ref r i =>
    have m1 : (match rd h1 r i with
      | some (.ins _ fs) => match fs.lookup f with
        | some v => Qm v h1
        | none => False
      | _ => False) := m1
    split at m1
    · rename_i c fs ea
      obtain ⟨p, dx, gs, rfl, _, cl, _, e1, e2⟩ := R1.ins_ r1 ea
      split at m1
      · rename_i w el
        obtain ⟨z, e3, e4⟩ := (FVR.look e2).1 w el
        exact ⟨p, _, dx, gs, z, rfl, e1, by rw [hK]; exact hc c cl, by rw [hK]; exact hn c cl, e3, (q.ext R1 X1).here R1 m1 e4⟩
      · exact m1.elim
    · exact m1.elim
  | _ => exact m1.elim
/-! ### what defs promise -/
def spM (T : Tx) (F : WF) : Sp := fun vs H Q E => ∃ ι h ms Qm Em, Rel T ι h H ∧ RVs T.K ι H ms vs ∧ PQ T ι H Qm Q ∧ PX T ι H Em E ∧ F ms h Qm Em
/-- the function object at an address -/
def FdAt (K : PySem.W.Frag) (f : Addr) (fd : FuncData) : Prop := ∃ oc od osl, K.lookup f = some ⟨oc, od, .func fd, osl⟩
theorem FdAt.inj {K : PySem.W.Frag} {f : Addr} {fd fd' : FuncData} (a : FdAt K f fd) (b : FdAt K f fd') : fd = fd' := by
  obtain ⟨_, _, _, a⟩ := a
  obtain ⟨_, _, _, b⟩ := b
  rw [a] at b
  cases b
  rfl
/-- a def of the text: it keeps its reading -/
structure FnM (T : Tx) (P : Program) (w : World) (mg : Str → Option Value) (base : Heap) (k : Nat) (x : String) (ps : List Str) (F : WF) : Prop where
  ok : ∃ fd, FnOk P w T.K mg base (L2.CX P w) k (He.ga T.K (st x)) fd ps (spM T F) ∧ Binds T.K fd ps [] ∧ FdAt T.K (He.ga T.K (st x)) fd
  at_ : mg (st x) = some (.ref (He.ga T.K (st x)))
  kp : PySem.W.keepIn T.K (.ref (He.ga T.K (st x))) = true
/-- a method -/
structure MtM (T : Tx) (P : Program) (w : World) (mg : Str → Option Value) (base : Heap) (k : Nat) (c m : String) (ps : List Str) (F : WF) : Prop where
  ok : ∃ fd, FnOk P w T.K mg base (L2.CX P w) k (He.ma T.K (clA T.K c) (st m)) fd ps (spM T F) ∧ Binds T.K fd ps []
  at_ : Meth T.K (clA T.K c) (st m) (He.ma T.K (clA T.K c) (st m))
variable {P : Program} {w : World} {mg : Str → Option Value} {base : Heap} {k j : Nat} {x c mt : String} {ps : List Str} {F : WF} {es : List Expr} {as : WA}
theorem FnM.mono (f : FnM T P w mg base j x ps F) (h : j ≤ k) : FnM T P w mg base k x ps F := ⟨let ⟨fd, a, b, c⟩ := f.ok; ⟨fd, a.mono h, b, c⟩, f.at_, f.kp⟩
theorem MtM.mono (f : MtM T P w mg base j c mt ps F) (h : j ≤ k) : MtM T P w mg base k c mt ps F := ⟨let ⟨fd, a, b⟩ := f.ok; ⟨fd, a.mono h, b⟩, f.at_⟩
theorem sp_of {σ : L2.St} {Q : VK} {Qm : QV} {Em : QX} {ms : List MV} {vs : List V} (R : Rel T ι h H) (r : RVs T.K ι H ms vs) (q : PQ T ι H Qm Q) (x : PX T ι H Em (L2.WE W σ)) (m : F ms h Qm Em) : spM T F vs H Q (L2.WE W σ) := ⟨ι, h, ms, Qm, Em, R, r, q, x, m⟩
theorem e_call {e : Expr} {p : Pos} (hK : X.K = T.K) (tk : Takes X W) (f : FnM T X.prog X.w X.mg X.base j x ps F) (hj : j ≤ k) (hr : Room k X.A) (hg : Gl X (st x)) (ha : PA X (e :: es) (canA T W as)) (hdb : (st x == ("__debug__" : Str)) = false)
    (he : starEach (e :: es) X.env = (false, eval e X.env) :: starEach es X.env := by rfl) (hpl : (backTo pos (starEach es X.env)).any (·.1) = false := by rfl) :
    PE X (.Call (.Name (st x) p) (e :: es) [] pos) (canE T W (wCall F as)) := by
  obtain ⟨fd, g, b, _⟩ := f.ok
  rw [← hK] at g b
  have kp := f.kp
  have at_ := f.at_
  rw [← hK] at kp at_
  refine PE.le (pe_callS (E := L2.WE W) g (hr.mono hj) hg at_ kp b (fun σ => passAt tk σ) ha hdb he hpl) fun σ H Q ⟨ι, h, σm, Qm, Em, R, s, q, x, m⟩ => ?_
  exact canA_mk R s x m fun ms h1 m1 ι1 H1 vs R1 X1 s1 x1 r1 => sp_of R1 r1 (q.ext R1 X1) x1 m1
theorem e_call0 {p : Pos} (hK : X.K = T.K) (tk : Takes X W) (f : FnM T X.prog X.w X.mg X.base j x ps F) (hj : j ≤ k) (hr : Room k X.A) (hg : Gl X (st x)) (hdb : (st x == ("__debug__" : Str)) = false) :
    PE X (.Call (.Name (st x) p) [] [] pos) (canE T W (wCall F aNil)) := by
  obtain ⟨fd, g, b, _⟩ := f.ok
  rw [← hK] at g b
  have kp := f.kp
  have at_ := f.at_
  rw [← hK] at kp at_
  refine ⟨fun pins s σ H Q I ⟨ι, h, σm, Qm, Em, R, sr, q, x, m⟩ => ?_⟩
  refine wpAny_Call_Name_kw (ld_glob I hg at_ ?_ hdb)
  exact PySem.W.callWith_K0 I.kIn kp (run_fnS (E := L2.WE W) (us := []) g (hr.mono hj) b (passAt tk σ) I .nil (sp_of R RVs.nil q x m))
/-- which methods an expression may come to -/
def MtAll (T : Tx) (P : Program) (w : World) (mg : Str → Option Value) (base : Heap) (k : Nat) (m : String) (tb : String → Option WF) : Prop := ∀ c F, c ∈ T.Cl → tb c = some F → ∃ ps, MtM T P w mg base k c m ps F
theorem MtAll.one (f : MtM T P w mg base j c mt ps F) (h : j ≤ k) : MtAll T P w mg base k mt (tb1 c F) := fun d G _ e => by
  unfold tb1 at e
  split at e
  · rename_i z
    subst z
    cases e
    exact ⟨ps, f.mono h⟩
  · cases e
theorem MtAll.or {a b : String → Option WF} (f : MtAll T P w mg base k mt a) (g : MtAll T P w mg base k mt b) : MtAll T P w mg base k mt (tbO a b) := fun d G hd e => by
  have e : (match a d with | some F => some F | none => b d) = some G := e
  split at e
  · rename_i F ea
    cases e
    exact f d G hd ea
  · exact g d G hd e
theorem nolook {fs : List (String × MV)} {gs : List (Str × V)} {Fl : List String} (r : FVR T ι H fs gs) (hf : ∀ p ∈ fs, p.1 ∈ Fl) (hm : mt ∉ Fl) : gs.lookup (st mt) = none := by
  refine (FVR.look r).2 ?_
  cases e : fs.lookup mt with
  | none => rfl
  | some v =>
    have : (mt, v) ∈ fs := by
      have := List.lookup_eq_some_iff.mp e
      obtain ⟨l1, l2, e1, _⟩ := this
      rw [e1]
      simp
    exact absurd (hf _ this) hm
end
end Mi
end TxMiniD

section TxMiniF
set_option Elab.async false
set_option linter.all false
set_option autoImplicit false
set_option maxRecDepth 100000
set_option maxHeartbeats 4000000
namespace Mi
open PySem PySem.Spec PyProof.Rows L2
section
variable {T : Tx} {X : Cx} {W : WX} {pos : Pos} {ι : IA} {h : MH} {H : Hp} {o e : Expr} {mo me : WE}
variable {P : Program} {w : World} {mg : Str → Option Value} {base : Heap} {k j : Nat} {x c mt : String} {ps : List Str} {F : WF} {es : List Expr} {as : WA} {tb : String → Option WF}
/-! ### methods -/
theorem e_meth {apos : Pos} {pl : Sem Bool} (hK : X.K = T.K) (tk : Takes X W) (hc : ∀ c ∈ T.Cl, Cls T.K (clA T.K c)) (f : MtAll T X.prog X.w X.mg X.base k mt tb) (hm : mt ∉ T.Fl) (hr : Room k X.A) (ho : PE X o (canE T W mo)) (ha : PA X (e :: es) (canA T W as))
    (hst : starEach (e :: es) X.env = (false, eval e X.env) :: starEach es X.env := by rfl) (hpl : (backTo pos (starEach es X.env)).any (·.1) = false := by rfl)
    (ht : eval (.Call (.Attribute o (st mt) apos) (e :: es) [] pos) X.env = (do
      let ov ← eval o X.env
      standAt apos.atName
      let (f, first) ← holding [ov] (getMethod ov (st mt) pl)
      callWith pos f first (backTo pos (starEach (e :: es) X.env)) (backToKw pos (keywordEach [] X.env))) := by rfl) :
    PE X (.Call (.Attribute o (st mt) apos) (e :: es) [] pos) (canE T W (wMeth tb mo as)) := by
  refine ⟨fun pins s σ H Q I ⟨ι, h, σm, Qm, Em, R, sr, q, xx, m⟩ => ?_⟩
  refine PySem.W.methodCall_KW (pl := pl) (thn (ho.run pins s σ H (fun x H1 => ∃ ι1 h1 r i c fs F, Rel T ι1 h1 H1 ∧ Ext ι H ι1 H1 ∧ RV T.K ι1 H1 (.ref r i) x ∧ rd h1 r i = some (.ins c fs) ∧ tb c = some F ∧ as σm h1 (fun vs h2 => F (.ref r i :: vs) h2 Qm Em) Em) I
    (canE_mk R sr xx m fun v h1 m1 ι1 H1 u R1 X1 s1 x1 r1 => ?_)) fun u s1 ⟨x, H1, I1, rx, ι1, h1, r, i, c, fs, F, R1, X1, r1, ea, et, m1⟩ => ?_) ht
  · cases v with
    | ref r i =>
      have m2 : (match rd h1 r i with
        | some (.ins c _) => match tb c with
          | some F => as σm h1 (fun vs h2 => F (.ref r i :: vs) h2 Qm Em) Em
          | none => False
        | _ => False) := m1
      split at m2
      · rename_i c fs ea
        split at m2
        · rename_i F et
          exact ⟨ι1, h1, r, i, c, fs, F, R1, X1, r1, ea, et, m2⟩
        · exact m2.elim
      · exact m2.elim
    | _ => exact m1.elim
  · obtain ⟨p, dx, gs, rfl, e0, cl, hf, e1, e2⟩ := R1.ins_ r1 ea
    obtain rfl : u = Value.ref p := rx
    obtain ⟨ps, M⟩ := f c F cl et
    obtain ⟨fd, g, b⟩ := M.ok
    have at_ := M.at_
    have hcl := hc c cl
    rw [← hK] at g b at_ hcl e1
    refine getmeth_ok I1 e1 hcl at_ (nolook e2 hf hm) ?_
    have A1 : canA T W as σ H1 (fun vs H2 => spM T F (.ref p :: vs) H2 Q (L2.WE W σ)) :=
      canA_mk R1 (sr.ext R X1) (xx.ext R1 X1) m1 fun ms h2 m2 ι2 H2 vs R2 X2 s2 x2 r2 => sp_of R2 (RVs.cons (RV.ext R1 X2 _ _ r1) r2) ((q.ext R1 X1).ext R2 X2) x2 m2
    refine PySem.W.callWith_K (first := [.ref p]) (h₀ := X.base) I.ok.mod.kin at_.kp (thn (ha.run pos pins s1 σ H1 _ I1 A1) fun us s2 ⟨vs, H2, I2, r, q2⟩ => ⟨I2.kIn, ?_⟩) hst hpl
    exact run_fnS (E := L2.WE W) (us := .ref p :: us) (vs := .ref p :: vs) g hr b (passAt tk σ) I2 (.cons rfl r) q2
theorem e_meth0 {apos : Pos} {pl : Sem Bool} (hK : X.K = T.K) (tk : Takes X W) (hc : ∀ c ∈ T.Cl, Cls T.K (clA T.K c)) (f : MtAll T X.prog X.w X.mg X.base k mt tb) (hm : mt ∉ T.Fl) (hr : Room k X.A) (ho : PE X o (canE T W mo))
    (ht : eval (.Call (.Attribute o (st mt) apos) [] [] pos) X.env = (do
      let ov ← eval o X.env
      standAt apos.atName
      let (f, first) ← holding [ov] (getMethod ov (st mt) pl)
      callWith pos f first (backTo pos (starEach [] X.env)) (backToKw pos (keywordEach [] X.env))) := by rfl) :
    PE X (.Call (.Attribute o (st mt) apos) [] [] pos) (canE T W (wMeth tb mo aNil)) := by
  refine ⟨fun pins s σ H Q I ⟨ι, h, σm, Qm, Em, R, sr, q, xx, m⟩ => ?_⟩
  refine PySem.W.methodCall_KW (pl := pl) (thn (ho.run pins s σ H (fun x H1 => ∃ ι1 h1 r i c fs F, Rel T ι1 h1 H1 ∧ Ext ι H ι1 H1 ∧ RV T.K ι1 H1 (.ref r i) x ∧ rd h1 r i = some (.ins c fs) ∧ tb c = some F ∧ F [.ref r i] h1 Qm Em) I
    (canE_mk R sr xx m fun v h1 m1 ι1 H1 u R1 X1 s1 x1 r1 => ?_)) fun u s1 ⟨x, H1, I1, rx, ι1, h1, r, i, c, fs, F, R1, X1, r1, ea, et, m1⟩ => ?_) ht
  · cases v with
    | ref r i =>
      have m2 : (match rd h1 r i with
        | some (.ins c _) => match tb c with
          | some F => F [.ref r i] h1 Qm Em
          | none => False
        | _ => False) := m1
      split at m2
      · rename_i c fs ea
        split at m2
        · rename_i F et
          exact ⟨ι1, h1, r, i, c, fs, F, R1, X1, r1, ea, et, m2⟩
        · exact m2.elim
      · exact m2.elim
    | _ => exact m1.elim
  · obtain ⟨p, dx, gs, rfl, e0, cl, hf, e1, e2⟩ := R1.ins_ r1 ea
    obtain rfl : u = Value.ref p := rx
    obtain ⟨ps, M⟩ := f c F cl et
    obtain ⟨fd, g, b⟩ := M.ok
    have at_ := M.at_
    have hcl := hc c cl
    rw [← hK] at g b at_ hcl e1
    refine getmeth_ok I1 e1 hcl at_ (nolook e2 hf hm) ?_
    exact PySem.W.callWith_K0 (first := [.ref p]) I1.kIn at_.kp (run_fnS (E := L2.WE W) (us := [.ref p]) (vs := [.ref p]) g hr b (passAt tk σ) I1 (.cons rfl .nil)
      (sp_of R1 (RVs.one r1) (q.ext R1 X1) (xx.ext R1 X1) m1))
/-! ### instances made -/
/-- a class whose instances are made here -/
structure MkM (T : Tx) (P : Program) (w : World) (mg : Str → Option Value) (base : Heap) (k : Nat) (c : String) (ps : List Str) (F : WF) : Prop where
  cl : c ∈ T.Cl
  ok : ∃ fd, FnOk P w T.K mg base (L2.CX P w) k (He.ma T.K (clA T.K c) (st "__init__")) fd ps (spM T F) ∧ Binds T.K fd ps []
  mk_ : Mk T.K (clA T.K c) (He.ma T.K (clA T.K c) (st "__init__"))
  at_ : mg (st c) = some (.ref (clA T.K c))
theorem MkM.mono (f : MkM T P w mg base j c ps F) (h : j ≤ k) : MkM T P w mg base k c ps F := ⟨f.cl, let ⟨fd, a, b⟩ := f.ok; ⟨fd, a.mono h, b⟩, f.mk_, f.at_⟩
theorem run_mk {pins : List (Addr × Obj)} {σ : L2.St} {H : Hp} {s : Shared} {Q : VK} {us : List Value} {vs : List V} {C f : Addr} {fd : FuncData} {ps : List Str} {sp : Sp} (M : Mk X.K C f) (F : FnOk X.prog X.w X.K X.mg X.base (L2.CX X.prog X.w) k f fd ps sp) (hr : Room (k + 1) X.A) (hb : Binds X.K fd ps [])
    (tk : Takes X W) (I : Inv X pins σ H s) (r : Vals vs us)
    (h : ∀ x dx, H x = none → H dx = none → dx ≠ x → sp (.ref x :: vs) (upd (upd H dx (.own x)) x (.ins C dx [])) (fun v H2 => v = .non ∧ Q (.ref x) H2) (L2.WE W σ)) :
    wpAny (model X.prog X.w) X.A (call (.ref C) us) (EP X pins σ Q) X.xe s := by
  have hq := h (s.heap.objs.size + 1) s.heap.objs.size (I.hok.fresh (Nat.le_succ _)) (I.hok.fresh (Nat.le_refl _)) (Nat.ne_of_lt (Nat.lt_succ_self _))
  have I2 := Inv.made (C := C) I
  have r2 : Vals (V.ref (s.heap.objs.size + 1) :: vs) (Value.ref (s.heap.objs.size + 1) :: us) := .cons rfl r
  have hl : ((Value.ref (s.heap.objs.size + 1) :: us) ++ []).length = ps.length := by
    rw [List.append_nil, ← r2.length]
    exact F.len _ _ _ _ hq
  have b := hb _ (Value.ref (s.heap.objs.size + 1) :: us) I2.kIn hl
  rw [List.append_nil] at b
  refine wpAny_call (make_map (f := f) I.kIn M.makes M.init (beq_iff_eq.mp M.fn) (codeAny_mono (F.run _ X.stack _ _ ⟨Value.ref (s.heap.objs.size + 1) :: us, []⟩ (Value.ref (s.heap.objs.size + 1) :: us) _ _ (L2.WE W σ) (hr.make C us [])
    (I2.env0.make C us []) b r2 hq) fun r s' hq' => ?_))
  cases r with
  | error e => exact passAt tk σ pins _ _ e s' I2 hq'
  | ok fl =>
    cases fl with
    | ret u =>
      obtain ⟨v, H', I3, rv, ev, q3⟩ := I2.after hq'
      subst ev
      exact ⟨rv, ⟨V.ref (s.heap.objs.size + 1), H', I3, rfl, q3⟩⟩
    | next => exact False.elim hq'
    | brk => exact False.elim hq'
    | cont => exact False.elim hq'
theorem ins_at {r : Nat} {p dx : Addr} (cl : c ∈ T.Cl) (R : Rel T ι h H) (hp : H p = none) (hd : H dx = none) (ne : dx ≠ p) :
    Rel T (ia ι r p) (al h r (.ins c [])) (upd (upd H dx (.own p)) p (.ins (clA T.K c) dx [])) ∧ Ext ι H (ia ι r p) (upd (upd H dx (.own p)) p (.ins (clA T.K c) dx [])) ∧
      RV T.K (ia ι r p) (upd (upd H dx (.own p)) p (.ins (clA T.K c) dx [])) (.ref r (h r).length) (.ref p) := by
  obtain ⟨R1, X1⟩ := aside (O := .own p) R hd
  obtain ⟨R2, X2, r2⟩ := new_at (r := r) (p := p) (O := .ins (clA T.K c) dx []) (o := .ins c []) R1 (by rw [upd_ne ne.symm]; exact hp) fun _ => ⟨cl, by simp, dx, [], upd_same, .nil⟩
  exact ⟨R2, Ext.trans R1 X1 X2, r2⟩
theorem sp_mk {r : Nat} {σ : L2.St} {Q : VK} {Qm : QV} {Em : QX} {ms : List MV} {vs : List V} (cl : c ∈ T.Cl) (R : Rel T ι h H) (rv : RVs T.K ι H ms vs) (q : PQ T ι H Qm Q) (xx : PX T ι H Em (L2.WE W σ))
    (m : F (.ref r (h r).length :: ms) (al h r (.ins c [])) (fun v h2 => match v with | .non => Qm (.ref r (h r).length) h2 | _ => False) Em) :
    ∀ x dx, H x = none → H dx = none → dx ≠ x → spM T F (.ref x :: vs) (upd (upd H dx (.own x)) x (.ins (clA T.K c) dx [])) (fun v H2 => v = .non ∧ Q (.ref x) H2) (L2.WE W σ) := fun p dx hp hd ne => by
  obtain ⟨R1, X1, r1⟩ := ins_at (r := r) cl R hp hd ne
  refine ⟨_, _, _, _, Em, R1, RVs.cons r1 (RVs.ext R X1 _ _ rv), ?_, xx.ext R1 X1, m⟩
  intro v h2 m2 ι2 H2 u R2 X2 r2
  cases v with
  | non => exact ⟨r2.non_, q _ _ m2 _ _ _ R2 (Ext.trans R1 X1 X2) (RV.ext R1 X2 _ _ r1)⟩
  | _ => exact m2.elim
theorem e_make {r : Nat} {e : Expr} {p : Pos} (hK : X.K = T.K) (tk : Takes X W) (f : MkM T X.prog X.w X.mg X.base j c ps F) (hj : j ≤ k) (hr : Room (k + 1) X.A) (hg : Gl X (st c)) (ha : PA X (e :: es) (canA T W as)) (hdb : (st c == ("__debug__" : Str)) = false)
    (he : starEach (e :: es) X.env = (false, eval e X.env) :: starEach es X.env := by rfl) (hpl : (backTo pos (starEach es X.env)).any (·.1) = false := by rfl) :
    PE X (.Call (.Name (st c) p) (e :: es) [] pos) (canE T W (wMake c r F as)) := by
  obtain ⟨fd, g, b⟩ := f.ok
  have M := f.mk_
  have at_ := f.at_
  have cl := f.cl
  rw [← hK] at g b M at_
  refine ⟨fun pins s σ H Q I ⟨ι, h, σm, Qm, Em, R, sr, q, xx, m⟩ => ?_⟩
  refine wpAny_Call_Name_kw (ld_glob I hg at_ ?_ hdb)
  refine PySem.W.callWith_K (h₀ := X.base) I.ok.mod.kin M.kp (thn (ha.run pos pins s σ H (fun vs H1 => ∃ ι1 h1 ms, Rel T ι1 h1 H1 ∧ Ext ι H ι1 H1 ∧ RVs T.K ι1 H1 ms vs ∧
      F (.ref r (h1 r).length :: ms) (al h1 r (.ins c [])) (fun v h2 => match v with | .non => Qm (.ref r (h1 r).length) h2 | _ => False) Em) I
      (canA_mk R sr xx m fun ms h1 m1 ι1 H1 vs R1 X1 s1 x1 r1 => ⟨ι1, h1, ms, R1, X1, r1, m1⟩)) fun us s1 ⟨vs, H1, I1, ru, ι1, h1, ms, R1, X1, r1, m1⟩ => ⟨I1.kIn, ?_⟩) he hpl
  refine run_mk M g (hr.mono (by omega)) b tk I1 ru ?_
  rw [hK]
  exact sp_mk cl R1 r1 (q.ext R1 X1) (xx.ext R1 X1) m1
theorem e_make0 {r : Nat} {p : Pos} (hK : X.K = T.K) (tk : Takes X W) (f : MkM T X.prog X.w X.mg X.base j c ps F) (hj : j ≤ k) (hr : Room (k + 1) X.A) (hg : Gl X (st c)) (hdb : (st c == ("__debug__" : Str)) = false) :
    PE X (.Call (.Name (st c) p) [] [] pos) (canE T W (wMake c r F aNil)) := by
  obtain ⟨fd, g, b⟩ := f.ok
  have M := f.mk_
  have at_ := f.at_
  have cl := f.cl
  rw [← hK] at g b M at_
  refine ⟨fun pins s σ H Q I ⟨ι, h, σm, Qm, Em, R, sr, q, xx, m⟩ => ?_⟩
  refine wpAny_Call_Name_kw (ld_glob I hg at_ ?_ hdb)
  refine PySem.W.callWith_K0 I.kIn M.kp (run_mk (us := []) M g (hr.mono (by omega)) b tk I .nil ?_)
  rw [hK]
  exact sp_mk cl R RVs.nil q xx m
/-! ### built-in functions -/
def canB (T : Tx) (b : List MV → MH → QV → Prop) : List V → Hp → VK → Prop := fun vs H Q => ∃ ι h ms Qm, Rel T ι h H ∧ RVs T.K ι H ms vs ∧ PQ T ι H Qm Q ∧ b ms h Qm
theorem rd_b {b : List MV → MH → QV → Prop} {σ : L2.St} {H : Hp} {Q : VK} (c : canE T W (wB b as) σ H Q) : tCB (canB T b) (canA T W as) σ H Q := by
  obtain ⟨ι, h, σm, Qm, Em, R, s, q, x, m⟩ := c
  exact canA_mk R s x m fun ms h1 m1 ι1 H1 vs R1 X1 s1 x1 r1 => ⟨ι1, h1, ms, Qm, R1, r1, q.ext R1 X1, m1⟩
theorem e_b {x : Str} {id : String} {p : Pos} {b : List MV → MH → QV → Prop} (hb : CallR X (.builtin id) (canB T b)) (hg : Gl X x) (hm : X.mg x = none) (hv : bootBuiltins x = some (.builtin id)) (ha : PA X (e :: es) (canA T W as)) (hn : x ≠ "__name__") (hdb : (x == ("__debug__" : Str)) = false)
    (he : starEach (e :: es) X.env = (false, eval e X.env) :: starEach es X.env := by rfl) (hpl : (backTo pos (starEach es X.env)).any (·.1) = false := by rfl) : PE X (.Call (.Name x p) (e :: es) [] pos) (canE T W (wB b as)) :=
  PE.le (pe_callB hb hg hm hv ha hn hdb he hpl) fun _ _ _ c => rd_b c
theorem e_bt {x : Str} {id : String} {p : Pos} {b : List MV → MH → QV → Prop} (hb : CallR X (.type id) (canB T b)) (hg : Gl X x) (hm : X.mg x = none) (hv : bootBuiltins x = some (.type id)) (ha : PA X (e :: es) (canA T W as)) (hn : x ≠ "__name__") (hdb : (x == ("__debug__" : Str)) = false)
    (he : starEach (e :: es) X.env = (false, eval e X.env) :: starEach es X.env := by rfl) (hpl : (backTo pos (starEach es X.env)).any (·.1) = false := by rfl) : PE X (.Call (.Name x p) (e :: es) [] pos) (canE T W (wB b as)) :=
  PE.le (pe_callTy hb hg hm hv ha hn hdb he hpl) fun _ _ _ c => rd_b c
theorem RVs.one_ {K : PySem.W.Frag} {m : MV} {vs : List V} (r : RVs K ι H [m] vs) : ∃ v, vs = [v] ∧ RV K ι H m v := by
  unfold RVs at r
  obtain ⟨v, r', rfl, e1, e2⟩ := r
  unfold RVs at e2
  subst e2
  exact ⟨v, rfl, e1⟩
theorem RVs.two_ {K : PySem.W.Frag} {m n : MV} {vs : List V} (r : RVs K ι H [m, n] vs) : ∃ v u, vs = [v, u] ∧ RV K ι H m v ∧ RV K ι H n u := by
  unfold RVs at r
  obtain ⟨v, r', rfl, e1, e2⟩ := r
  obtain ⟨u, rfl, e3⟩ := RVs.one_ e2
  exact ⟨v, u, rfl, e1, e3⟩
theorem b_len (hK : X.K = T.K) : CallR X (.builtin "len") (canB T bLen) := by
  intro pins s σ H xs us Q I r c
  obtain ⟨ι, h, ms, Qm, R, rv, q, m⟩ := c
  unfold bLen at m
  split at m
  · obtain ⟨v, rfl, r1⟩ := rv.one_
    obtain ⟨p, vs, rfl, e1, e2⟩ := r1.tup_
    exact call_len_seq pins s σ H _ us Q I r ⟨p, vs, rfl, .inr (by rw [hK]; exact e1), by rw [← e2.length]; exact q.here R m.2 .int'⟩
  · obtain ⟨v, rfl, r1⟩ := rv.one_
    obtain ⟨p, vs, rfl, e1, e2⟩ := r1.cst_
    exact call_len_seq pins s σ H _ us Q I r ⟨p, vs, rfl, .inl (by rw [hK]; exact e1.l), by rw [← e2.length]; exact q.here R m .int'⟩
  · obtain ⟨v, rfl, r1⟩ := rv.one_
    cases r1.str_
    exact call_len pins s σ H _ us Q I r ⟨_, _, rfl, ⟨by rw [st_len]; exact le_line m.1, rfl⟩, by rw [st_len]; exact q.here R m.2 .int'⟩
  · obtain ⟨v, rfl, r1⟩ := rv.one_
    split at m
    · rename_i ys ea
      obtain ⟨p, vs, rfl, _, e1, e2⟩ := R.lst_ r1 ea
      exact call_len_seq pins s σ H _ us Q I r ⟨p, vs, rfl, .inl (SqL.of e1), by rw [← e2.length]; exact q.here R m .int'⟩
    · rename_i kvs ea
      obtain ⟨p, kws, rfl, _, e1, e2⟩ := R.dic_ r1 ea
      cases r with
      | cons r0 rr =>
        cases rr
        cases r0
        refine d_len I (.inl e1) fun t s' I' => ⟨.int kws.length, H, I', ⟨_, rfl⟩, ?_⟩
        rw [← Paired.length e2]
        exact q.here R m .int'
    · exact m.elim
  · exact m.elim
theorem b_int : CallR X (.type "int") (canB T bInt) := by
  intro pins s σ H xs us Q I r c
  obtain ⟨ι, h, ms, Qm, R, rv, q, m⟩ := c
  unfold bInt at m
  split at m
  · obtain ⟨v, rfl, r1⟩ := rv.one_
    cases r1.int_
    exact call_int1 pins s σ H _ us Q I r (.inl ⟨_, rfl, q.here R m .int'⟩)
  · obtain ⟨v, rfl, r1⟩ := rv.one_
    cases r1.bl_
    exact call_int1 pins s σ H _ us Q I r (.inr ⟨_, rfl, q.here R m .int'⟩)
  · exact m.elim
theorem b_min (hc : X.calm = true) : CallR X (.builtin "min") (canB T bMin) := by
  intro pins s σ H xs us Q I r c
  obtain ⟨ι, h, ms, Qm, R, rv, q, m⟩ := c
  unfold bMin at m
  split at m
  · obtain ⟨v, u, rfl, r1, r2⟩ := rv.two_
    cases r1.int_; cases r2.int_
    exact call_min2 hc pins s σ H _ us Q I r ⟨_, _, rfl, q.here R m .int'⟩
  · exact m.elim
theorem b_max (hc : X.calm = true) : CallR X (.builtin "max") (canB T bMax) := by
  intro pins s σ H xs us Q I r c
  obtain ⟨ι, h, ms, Qm, R, rv, q, m⟩ := c
  unfold bMax at m
  split at m
  · obtain ⟨v, u, rfl, r1, r2⟩ := rv.two_
    cases r1.int_; cases r2.int_
    exact call_max2 hc pins s σ H _ us Q I r ⟨_, _, rfl, q.here R m .int'⟩
  · exact m.elim
theorem lstOf_ok {m : MV} {v : V} {xs : List MV} (R : Rel T ι h H) (r : RV T.K ι H m v) (e : lstOf h m = some xs) : ∃ p vs, v = .ref p ∧ L2.SqL T.K H p vs ∧ RVs T.K ι H xs vs := by
  cases m with
  | cst ys =>
    cases e
    obtain ⟨p, vs, rfl, e1, e2⟩ := r.cst_
    exact ⟨p, vs, rfl, e1.l, e2⟩
  | ref a i =>
    have e : (match rd h a i with | some (.lst xs) => some xs | _ => none) = some xs := e
    split at e
    · rename_i ys ea
      cases e
      obtain ⟨p, vs, rfl, _, e1, e2⟩ := R.lst_ r ea
      exact ⟨p, vs, rfl, SqL.of e1, e2⟩
    · cases e
  | _ => cases e
theorem allB_ok : ∀ {ms : List MV} {vs : List V} {bs : List Bool}, RVs T.K ι H ms vs → allB ms = some bs → vs = bs.map V.bl
  | [], _, _, r, e => by unfold RVs at r; cases e; exact r
  | m :: ms, _, bs, r, e => by
    unfold RVs at r
    obtain ⟨v, r', rfl, e1, e2⟩ := r
    cases m with
    | bl b =>
      obtain ⟨bs', e3, rfl⟩ := Option.map_eq_some_iff.mp (show (allB ms).map (b :: ·) = some bs from e)
      rw [e1.bl_, allB_ok e2 e3]
      rfl
    | _ => cases e
theorem allI_ok : ∀ {ms : List MV} {vs : List V} {bs : List Int}, RVs T.K ι H ms vs → allI ms = some bs → vs = bs.map V.int
  | [], _, _, r, e => by unfold RVs at r; cases e; exact r
  | m :: ms, _, bs, r, e => by
    unfold RVs at r
    obtain ⟨v, r', rfl, e1, e2⟩ := r
    cases m with
    | int b =>
      obtain ⟨bs', e3, rfl⟩ := Option.map_eq_some_iff.mp (show (allI ms).map (b :: ·) = some bs from e)
      rw [e1.int_, allI_ok e2 e3]
      rfl
    | _ => cases e
theorem b_all (hK : X.K = T.K) (hc : X.calm = true) : CallR X (.builtin "all") (canB T bAll) := by
  intro pins s σ H xs us Q I r c
  obtain ⟨ι, h, ms, Qm, R, rv, q, m⟩ := c
  unfold bAll at m
  split at m
  rotate_left
  · exact m.elim
  · obtain ⟨v, rfl, r1⟩ := rv.one_
    split at m
    · rename_i bs eb
      obtain ⟨ys, e1, e2⟩ := Option.bind_eq_some_iff.mp eb
      obtain ⟨p, vs, rfl, e3, e4⟩ := lstOf_ok R r1 e1
      rw [allB_ok e4 e2] at e3
      exact cr_all hc pins s σ H _ us Q I r ⟨p, bs, rfl, by rw [hK]; exact e3, q.here R m .bl'⟩
    · exact m.elim
theorem b_sum (hK : X.K = T.K) (hc : X.calm = true) : CallR X (.builtin "sum") (canB T bSum) := by
  intro pins s σ H xs us Q I r c
  obtain ⟨ι, h, ms, Qm, R, rv, q, m⟩ := c
  unfold bSum at m
  split at m
  rotate_left
  · exact m.elim
  · obtain ⟨v, rfl, r1⟩ := rv.one_
    split at m
    · rename_i bs eb
      obtain ⟨ys, e1, e2⟩ := Option.bind_eq_some_iff.mp eb
      obtain ⟨p, vs, rfl, e3, e4⟩ := lstOf_ok R r1 e1
      rw [allI_ok e4 e2] at e3
      exact cr_sum hc pins s σ H _ us Q I r ⟨p, bs, rfl, by rw [hK]; exact e3, q.here R m .int'⟩
    · exact m.elim
theorem seqOf_ok {m : MV} {v : V} {xs : List MV} (R : Rel T ι h H) (r : RV T.K ι H m v) (e : seqOf h m = some xs) : ∃ p vs, v = .ref p ∧ (L2.SqL T.K H p vs ∨ L2.SqT T.K H p vs) ∧ RVs T.K ι H xs vs := by
  cases m with
  | tup ys =>
    cases e
    obtain ⟨p, vs, rfl, e1, e2⟩ := r.tup_
    exact ⟨p, vs, rfl, .inr e1, e2⟩
  | _ => exact let ⟨p, vs, e1, e2, e3⟩ := lstOf_ok R r e; ⟨p, vs, e1, .inl e2, e3⟩
theorem b_list {r : Nat} (hK : X.K = T.K) : CallR X (.type "list") (canB T (bList r)) := by
  intro pins s σ H xs us Q I ru c
  obtain ⟨ι, h, ms, Qm, R, rv, q, m⟩ := c
  unfold bList at m
  split at m
  rotate_left
  · exact m.elim
  · obtain ⟨v, rfl, r1⟩ := rv.one_
    split at m
    · rename_i ys e1
      obtain ⟨p, vs, rfl, e3, e4⟩ := seqOf_ok R r1 e1
      exact call_list_of pins s σ H _ us Q I ru ⟨p, vs, rfl, by rw [hK]; exact e3, fun a ha => q.lst R m ha e4⟩
    · exact m.elim
theorem b_tuple (hK : X.K = T.K) : CallR X (.type "tuple") (canB T bTuple) := by
  intro pins s σ H xs us Q I ru c
  obtain ⟨ι, h, ms, Qm, R, rv, q, m⟩ := c
  unfold bTuple at m
  split at m
  rotate_left
  · exact m.elim
  · obtain ⟨v, rfl, r1⟩ := rv.one_
    split at m
    · rename_i ys e1
      obtain ⟨p, vs, rfl, e3, e4⟩ := seqOf_ok R r1 e1
      rcases e3 with e3 | e3
      · exact call_tuple_of pins s σ H _ us Q I ru ⟨p, vs, rfl, .inl ⟨by rw [hK]; exact e3, fun a ha => q.tup R m ha e4⟩⟩
      · refine call_tuple_of pins s σ H _ us Q I ru ⟨p, vs, rfl, .inr ⟨by rw [hK]; exact e3, q.here R m ?_⟩⟩
        unfold RV
        exact ⟨p, vs, rfl, e3, e4⟩
    · exact m.elim
/-! ### isinstance -/
def tyNames : List String := ["NoneType", "bool", "int", "str", "tuple", "list"]
theorem tyN_ok {m : MV} {v : V} {t : String} (R : Rel T ι h H) (r : RV T.K ι H m v) (e : tyN h m = some t) : t ∈ tyNames ∧ TyX T.K H v (.type t) := by
  cases m with
  | non => cases r.non_; cases e; exact ⟨by decide, .base .non⟩
  | bl _ => cases r.bl_; cases e; exact ⟨by decide, .base (.bl _)⟩
  | int _ => cases r.int_; cases e; exact ⟨by decide, .base (.int _)⟩
  | str _ => cases r.str_; cases e; exact ⟨by decide, .base (.str _)⟩
  | tup ys =>
    cases e
    obtain ⟨p, vs, rfl, e1, e2⟩ := r.tup_
    refine ⟨by decide, ?_⟩
    rcases e1 with (e1 | ⟨ob, e1⟩) | ⟨ob, its, n, e1, e3, _⟩
    · exact .base (.tup e1)
    · exact .fTuple e1
    · exact .kTuple e1 e3
  | cst _ => cases e
  | exc _ => cases e
  | ref a i =>
    have e : (match rd h a i with | some (.lst _) => some "list" | _ => none) = some t := e
    split at e
    · rename_i ys ea
      cases e
      obtain ⟨p, vs, rfl, _, e1, e2⟩ := R.lst_ r ea
      exact ⟨by decide, .base (.lst e1)⟩
    · cases e
theorem e_isi {ty : String} {p p2 : Pos} (hK : X.K = T.K) (hg : Gl X "isinstance") (hm : X.mg "isinstance" = none) (hgt : Gl X (st ty)) (hmt : X.mg (st ty) = none) (hv : bootBuiltins (st ty) = some (.type ty)) (hn : st ty ≠ "__name__") (hdb : (st ty == ("__debug__" : Str)) = false)
    (hk : ∀ t ∈ tyNames, PySem.W.kitOne T.K (.type t) (.type ty) = some (tySub t ty)) (he : PE X e (canE T W me))
    (hs : starEach [e, .Name (st ty) p2] X.env = (false, eval e X.env) :: starEach [.Name (st ty) p2] X.env := by rfl) (hpl : (backTo pos (starEach [.Name (st ty) p2] X.env)).any (·.1) = false := by rfl) :
    PE X (.Call (.Name "isinstance" p) [e, .Name (st ty) p2] [] pos) (canE T W (bIsi [ty] me)) := by
  refine PE.le (pe_callB call_isi hg hm (by decide +kernel) (pa_cons he (pa_cons (pe_bltn (v := V.ty ty) hgt hmt hv rfl hn hdb) pa_nil) hs) (by decide) (by decide) hs hpl) fun σ H Q ⟨ι, h, σm, Qm, Em, R, s, q, x, m⟩ => ?_
  refine canE_mk R s x m fun v h1 m1 ι1 H1 u R1 X1 s1 x1 r1 => ?_
  have m1 : (match tyN h1 v with | some t => Qm (.bl ([ty].any (tySub t))) h1 | none => False) := m1
  split at m1
  · rename_i t et
    obtain ⟨t1, t2⟩ := tyN_ok R1 r1 et
    refine ⟨u, .ty ty, .type t, .type ty, tySub t ty, rfl, .ty ty, by rw [hK]; exact t2, by rw [hK]; exact hk t t1, ?_⟩
    have m1 : Qm (.bl (tySub t ty || false)) h1 := m1
    rw [Bool.or_false] at m1
    exact (q.ext R1 X1).here R1 m1 .bl'
  · exact m1.elim
/-! ### built-in methods -/
def canM (T : Tx) (b : MV → List MV → MH → QV → Prop) : V → List V → Hp → VK → Prop := fun x vs H Q => ∃ ι h mx ms Qm, Rel T ι h H ∧ RV T.K ι H mx x ∧ RVs T.K ι H ms vs ∧ PQ T ι H Qm Q ∧ b mx ms h Qm
theorem tyV_of {m : MV} {v : V} {ty : String} (R : Rel T ι h H) (r : RV T.K ι H m v) (e : hasTy ty h m = true) : tyV T.K ty v H := by
  cases m with
  | str _ => cases r.str_; exact beq_iff_eq.mp e
  | ref a i =>
    have e : (match rd h a i with | some (.lst _) => ty == "list" | some (.dic _) => ty == "dict" | _ => false) = true := e
    split at e
    · rename_i ys ea
      obtain ⟨p, vs, rfl, _, e1, e2⟩ := R.lst_ r ea
      exact .inl ⟨beq_iff_eq.mp e, vs, SqL.of e1⟩
    · rename_i ys ea
      obtain ⟨p, vs, rfl, _, e1, e2⟩ := R.dic_ r ea
      exact .inr (.inr (.inl ⟨beq_iff_eq.mp e, .inl ⟨vs, e1⟩⟩))
    · cases e
  | _ => cases e
theorem e_bm {name : Str} {apos : Pos} {ty id : String} {b : MV → List MV → MH → QV → Prop} (hK : X.K = T.K) (pa : PlainAttrs ty) (slot : Slot ty name id) (hty : typeOf (.builtin id) = pure (.type "method_descriptor")) (hm : MtR X id (canM T b)) (ho : PE X o (canE T W mo)) (ha : PA X (e :: es) (canA T W as))
    (hbase : attributeBase o name X.env (eval o X.env) = eval o X.env := by rfl)
    (hfew : ((backTo pos (starEach (e :: es) X.env)).all (fun x => !x.1) && (backToKw pos (keywordEach [] X.env)).all (fun x => x.1.isSome)
      && decide ((e :: es).length + ([] : List Keyword).length + (if ([] : List Keyword).isEmpty then 0 else 1) < 30)) = true := by rfl)
    (hline : (apos.endLine == pos.line) = true := by rfl) (hs : starEach (e :: es) X.env = (false, eval e X.env) :: starEach es X.env := by rfl) (hpl : (backTo pos (starEach es X.env)).any (·.1) = false := by rfl) :
    PE X (.Call (.Attribute o name apos) (e :: es) [] pos) (canE T W (wBM ty b mo as)) := PE.le (pe_bm pa slot hty hm ho ha hbase hfew hline hs hpl) fun σ H Q ⟨ι, h, σm, Qm, Em, R, s, q, x, m⟩ => by
  refine canE_mk R s x m fun v h1 m1 ι1 H1 u R1 X1 s1 x1 r1 => ?_
  obtain ⟨m1, m2⟩ := m1
  refine ⟨by rw [hK]; exact tyV_of R1 r1 m1, ?_⟩
  exact canA_mk R1 s1 x1 m2 fun ms h2 m3 ι2 H2 vs R2 X2 s2 x2 r2 => ⟨ι2, h2, v, ms, Qm, R2, RV.ext R1 X2 _ _ r1, r2, (q.ext R1 X1).ext R2 X2, m3⟩
theorem e_bm0 {name : Str} {apos : Pos} {ty id : String} {b : MV → List MV → MH → QV → Prop} (hK : X.K = T.K) (pa : PlainAttrs ty) (slot : Slot ty name id) (hty : typeOf (.builtin id) = pure (.type "method_descriptor")) (hm : MtR X id (canM T b)) (ho : PE X o (canE T W mo))
    (hbase : attributeBase o name X.env (eval o X.env) = eval o X.env := by rfl) (hline : (apos.endLine == pos.line) = true := by rfl) :
    PE X (.Call (.Attribute o name apos) [] [] pos) (canE T W (wBM ty b mo aNil)) := PE.le (pe_bm0 pa slot hty hm ho hbase hline) fun σ H Q ⟨ι, h, σm, Qm, Em, R, s, q, x, m⟩ => by
  refine canE_mk R s x m fun v h1 m1 ι1 H1 u R1 X1 s1 x1 r1 => ?_
  obtain ⟨m1, m2⟩ := m1
  exact ⟨by rw [hK]; exact tyV_of R1 r1 m1, ι1, h1, v, [], Qm, R1, r1, RVs.nil, q.ext R1 X1, m2⟩
theorem PQ.wr {r i : Nat} {p : Addr} {Qm : QV} {Q : VK} {ms : List MV} {vs : List V} (q : PQ T ι H Qm Q) (R : Rel T ι h H) (hp : (ι r)[i]? = some p) (e : RVs T.K ι H ms vs) (m : Qm .non (wr h r i (.lst ms))) : Q .non (upd H p (.lst vs)) := by
  obtain ⟨R2, X2⟩ := wr_lst (r := r) R hp e
  exact q _ _ m _ _ _ R2 X2 .non'
theorem m_append : MtR X "list.append" (canM T mAppend) := by
  intro pins s σ H x xs v us Q I rx rv c
  obtain ⟨ι, h, mx, ms, Qm, R, r1, rs, q, m⟩ := c
  unfold mAppend at m
  split at m
  rotate_left
  · exact m.elim
  · obtain ⟨u, rfl, r2⟩ := rs.one_
    split at m
    · rename_i ys ea
      obtain ⟨p, vs, rfl, e0, e1, e2⟩ := R.lst_ r1 ea
      exact mt_append pins s σ H _ _ v us Q I rx rv ⟨p, vs, u, rfl, rfl, e1, by rw [← e2.length]; exact lt_line m.1, q.wr R e0 (e2.append (RVs.one r2)) m.2⟩
    · exact m.elim
theorem m_clear : MtR X "list.clear" (canM T mClear) := by
  intro pins s σ H x xs v us Q I rx rv c
  obtain ⟨ι, h, mx, ms, Qm, R, r1, rs, q, m⟩ := c
  unfold mClear at m
  split at m
  rotate_left
  · exact m.elim
  · unfold RVs at rs
    subst rs
    split at m
    · rename_i ys ea
      obtain ⟨p, vs, rfl, e0, e1, e2⟩ := R.lst_ r1 ea
      exact mt_clear pins s σ H _ _ v us Q I rx rv ⟨p, vs, rfl, rfl, e1, q.wr R e0 RVs.nil m⟩
    · exact m.elim
end
end Mi
end TxMiniF

section TxMiniS
set_option Elab.async false
set_option linter.all false
set_option autoImplicit false
set_option maxRecDepth 100000
set_option maxHeartbeats 4000000
namespace Mi
open PySem PySem.Spec PyProof.Rows L2
section
variable {T : Tx} {X : Cx} {W : WX} {pos pos' : Pos} {e o : Expr} {me mo : WE} {c : Stmt} {cs ds : List Stmt} {a b : WS} {t : WT}
/-! ### statements -/
theorem canS_mk {σ : L2.St} {H : Hp} {D : Ends} {ι : IA} {h : MH} {σm : MS} {Dm : En} (R : Rel T ι h H) (s : RS T ι H σm σ) (p : PEn T ι H Dm D W) (m : a Dm σm h) : canS T W a D σ H := ⟨ι, h, σm, Dm, R, s, p, m⟩
theorem ss_nil : PSs X [] (canS T W sNx) := PSs.le pss_nil fun D σ H ⟨ι, h, σm, Dm, R, s, p, m⟩ => p.nx σm h m ι H σ R Ext.refl s
theorem ss_one (h : PS X c (canS T W a)) : PSs X [c] (canS T W a) := pss_one h
theorem ss_cons (h1 : PS X c (canS T W a)) (h2 : PSs X cs (canS T W b)) : PSs X (c :: cs) (canS T W (sSeq a b)) := PSs.le (pss_cons h1 h2) fun D σ H ⟨ι, h, σm, Dm, R, s, p, m⟩ =>
  canS_mk R s (Dm := { Dm with nx := b Dm }) ⟨fun σm' h' m' ι' H' σ' R' X' s' => canS_mk R' s' (p.ext R' X') m', p.rt, p.bk, p.ct, p.ex⟩ m
theorem s_pass : PS X (.Pass pos) (canS T W sNx) := PS.le ps_pass fun D σ H ⟨ι, h, σm, Dm, R, s, p, m⟩ => p.nx σm h m ι H σ R Ext.refl s
theorem s_brk : PS X (.Break pos) (canS T W sBrk) := PS.le ps_break fun D σ H ⟨ι, h, σm, Dm, R, s, p, m⟩ => p.bk σm h m ι H σ R Ext.refl s
theorem s_cnt : PS X (.Continue pos) (canS T W sCnt) := PS.le ps_continue fun D σ H ⟨ι, h, σm, Dm, R, s, p, m⟩ => p.ct σm h m ι H σ R Ext.refl s
theorem s_doc {x : Str} {j} : PS X (.Expr (.Constant (.str x) j pos) pos') (canS T W sNx) := PS.le ps_doc fun D σ H ⟨ι, h, σm, Dm, R, s, p, m⟩ => p.nx σm h m ι H σ R Ext.refl s
theorem s_ex (he : PE X e (canE T W me)) (hs : swapsWith e none pos.line X.env = pure false := by rfl) : PS X (.Expr e pos) (canS T W (sEx me)) := PS.le (ps_expr he hs) fun D σ H ⟨ι, h, σm, Dm, R, s, p, m⟩ =>
  canE_mk R s (p.ex.at_ R s) m fun v h1 m1 ι1 H1 u R1 X1 s1 x1 r1 => p.nx _ _ m1 _ _ _ R1 X1 s1
theorem s_ret (he : PE X e (canE T W me)) : PS X (.Return (some e) pos) (canS T W (sRet me)) := PS.le (ps_ret he) fun D σ H ⟨ι, h, σm, Dm, R, s, p, m⟩ =>
  canE_mk R s (p.ex.at_ R s) m fun v h1 m1 ι1 H1 u R1 X1 s1 x1 r1 => p.rt _ _ m1 _ _ _ R1 X1 r1
theorem s_retN : PS X (.Return none pos) (canS T W sRetN) := PS.le ps_retN fun D σ H ⟨ι, h, σm, Dm, R, s, p, m⟩ => p.rt _ _ m _ _ _ R Ext.refl .non'
theorem s_if {d : Expr} (hc : PT X d (canT T W t)) (ha : PSs X cs (canS T W a)) (hb : PSs X ds (canS T W b)) : PS X (.If d cs ds pos) (canS T W (sIf t a b)) := PS.le (ps_if hc ha hb) fun D σ H ⟨ι, h, σm, Dm, R, s, p, m⟩ =>
  canT_mk R s (p.ex.at_ R s) m fun k h1 m1 ι1 H1 R1 X1 s1 x1 => by
    cases k with
    | true => exact canS_mk R1 s1 (p.ext R1 X1) m1
    | false => exact canS_mk R1 s1 (p.ext R1 X1) m1
/-! targets -/
def canG (T : Tx) (W : WX) (g : WG) : TG := fun v σ H Q => ∃ ι h σm mv Qm Em, Rel T ι h H ∧ RS T ι H σm σ ∧ RV T.K ι H mv v ∧ PP T ι H Qm Q ∧ PX T ι H Em (L2.WE W σ) ∧ g mv σm h Qm Em
def canGs (T : Tx) (W : WX) (g : WGs) : TGs := fun vs σ H Q => ∃ ι h σm ms Qm Em, Rel T ι h H ∧ RS T ι H σm σ ∧ RVs T.K ι H ms vs ∧ PP T ι H Qm Q ∧ (∀ σm' σ', RS T ι H σm' σ' → PX T ι H Em (L2.WE W σ')) ∧ g ms σm h Qm Em
theorem PG.le {e : Expr} {t t' : TG} (h : PG X e t) (le : ∀ v σ H Q, t' v σ H Q → t v σ H Q) : PG X e t' := ⟨fun pins s σ H v u Q I r q => h.run pins s σ H v u Q I r (le _ _ _ _ q)⟩
theorem g_name {i : Nat} {x : Str} (h : PG X (.Name x pos) (gName i)) : PG X (.Name x pos) (canG T W (gN i)) := PG.le h fun v σ H Q ⟨ι, h, σm, mv, Qm, Em, R, s, r, q, x, m⟩ => q _ _ m _ _ _ R Ext.refl (s.set i r)
def canSet (T : Tx) : TSet := fun o i v H Q => ∃ (ι : IA) (h : MH) (mo mi mv : MV) (Qm : MH → Prop), Rel T ι h H ∧ RV T.K ι H mo o ∧ RV T.K ι H mi i ∧ RV T.K ι H mv v ∧ (∀ h', Qm h' → ∀ ι' H', Rel T ι' h' H' → Ext ι H ι' H' → Q H') ∧ (match setIx mo mi mv h with | some h3 => Qm h3 | none => False)
theorem set_ok (hu : X.A.units + 1 < cLine) : PSet X (canSet T) := by
  intro pins s σ H o i v ov iv u Q I ro ri rv c
  obtain ⟨ι, h, mo, mi, mv, Qm, R, r1, r2, r3, q, m⟩ := c
  cases e : setIx mo mi mv h with
  | none => rw [e] at m; exact m.elim
  | some h3 =>
    rw [e] at m
    have m : Qm h3 := m
    unfold setIx at e
    split at e
    · rename_i r j
      split at e
      · rename_i xs k ea
        obtain ⟨p, vs, rfl, e0, e1, e2⟩ := R.lst_ r1 ea
        obtain ⟨n, en, rfl⟩ := Option.map_eq_some_iff.mp e
        cases r2.int_
        obtain ⟨R2, X2⟩ := wr_lst (r := r) R e0 (RVs.set r3 n e2)
        refine set_list pins s σ H _ _ v ov iv u Q I ro ri rv ⟨p, vs, k, n, rfl, rfl, e1, ?_, q _ m _ _ R2 X2⟩
        rw [← e2.length]
        exact en
      · rename_i kvs ea
        split at e
        · rename_i hk
          rw [Bool.and_eq_true] at hk
          cases e
          obtain ⟨k, k1, rfl⟩ := key_of_ hk.1 r2
          obtain ⟨p, kws, rfl, e0, e1, e2⟩ := R.dic_ r1 ea
          obtain ⟨R2, X2⟩ := wr_dic (r := r) R e0 (KVR.put k1 r3 e2)
          obtain rfl : ov = Value.ref p := ro
          exact d_setItem hu I (DPut.k e1 (by rw [← Paired.length e2]; exact lt_line (of_decide_eq_true hk.2))) ri rv fun s4 I4 => ⟨_, I4, q _ m _ _ R2 X2⟩
        · cases e
      · cases e
    · cases e
theorem g_ix {i : Expr} {mi : WE} (hu : X.A.units + 1 < cLine) (ho : PE X o (canE T W mo)) (hi : PE X i (canE T W mi))
    (ha : ∀ v, assign (.Subscript o i pos) X.env v = (do
      let ov ← holding [v] (eval o X.env)
      let iv ← holding [v, ov] (eval i X.env)
      standAt pos
      holding [v, ov, iv] (setItem ov iv v)
      release [v, ov, iv] []) := by intro _; rfl) : PG X (.Subscript o i pos) (canG T W (gIx mo mi)) := PG.le (pg_sub ho hi (set_ok (T := T) hu) ha) fun v σ H Q ⟨ι, h, σm, mv, Qm, Em, R, s, r, q, x, m⟩ => by
  refine canE_mk R s x m fun v1 h1 m1 ι1 H1 u R1 X1 s1 x1 r1 => ?_
  refine canE_mk R1 s1 x1 m1 fun v2 h2 m2 ι2 H2 u2 R2 X2 s2 x2 r2 => ?_
  refine ⟨ι2, h2, v1, v2, mv, fun h3 => Qm σm h3, R2, RV.ext R1 X2 _ _ r1, r2, RV.ext R1 X2 _ _ (RV.ext R X1 _ _ r), fun h3 m3 ι3 H3 R3 X3 => ?_, m2⟩
  exact (q.ext R1 X1).ext R2 X2 _ _ m3 _ _ _ R3 X3 (s2.ext R2 X3)
theorem s_asg {tg : Expr} {g : WG} (he : PE X e (canE T W me)) (hg : PG X tg (canG T W g)) (hs : swapsWithSole [tg] e pos.line X.env = pure false := by rfl) (hw : swappedStores [tg] e X.env = pure none := by rfl)
    (h1 : (assignEach [tg] X.env).map (·.2) = [assign tg X.env] := by rfl) : PS X (.Assign [tg] e pos) (canS T W (sAsg me g)) := PS.le (ps_asg he hg hs hw h1) fun D σ H ⟨ι, h, σm, Dm, R, s, p, m⟩ =>
  canE_mk R s (p.ex.at_ R s) m fun v h1 m1 ι1 H1 u R1 X1 s1 x1 r1 => ⟨ι1, h1, σm, v, Dm.nx, _, R1, s1, r1, (p.ext R1 X1).nx, x1, m1⟩
theorem s_set {i : Nat} {x : Str} (h : ∀ te, PE X e te → PS X (.Assign [.Name x pos'] e pos) (tAsg te (gName i))) (he : PE X e (canE T W me)) : PS X (.Assign [.Name x pos'] e pos) (canS T W (sAsg me (gN i))) :=
  PS.le (h _ he) fun D σ H ⟨ι, h, σm, Dm, R, s, p, m⟩ => canE_mk R s (p.ex.at_ R s) m fun v h1 m1 ι1 H1 u R1 X1 s1 x1 r1 => p.nx _ _ m1 _ _ _ R1 X1 (s1.set i r1)
theorem mem_putF {f : String} {v : MV} {Fl : List String} (hf : f ∈ Fl) : ∀ {fs : List (String × MV)}, (∀ p ∈ fs, p.1 ∈ Fl) → ∀ p ∈ Mi.putF f v fs, p.1 ∈ Fl
  | [], _, p, hp => by
    have : p = (f, v) := List.mem_singleton.mp hp
    rw [this]; exact hf
  | q :: fs, hq, p, hp => by
    have hp : p ∈ (if f = q.1 then (q.1, v) :: fs else q :: Mi.putF f v fs) := hp
    by_cases c : f = q.1
    · rw [if_pos c] at hp
      rcases List.mem_cons.mp hp with z | z
      · rw [z]; exact hq q List.mem_cons_self
      · exact hq p (List.mem_cons_of_mem _ z)
    · rw [if_neg c] at hp
      rcases List.mem_cons.mp hp with z | z
      · rw [z]; exact hq q List.mem_cons_self
      · exact mem_putF hf (fun p hp => hq p (List.mem_cons_of_mem _ hp)) p z
theorem s_fld {f : String} {value : Expr} {mv : WE} (hK : X.K = T.K) (hc : ∀ c ∈ T.Cl, Cls T.K (clA T.K c)) (hn : ∀ c ∈ T.Cl, NoAttr T.K (clA T.K c) (st f)) (hf : f ∈ T.Fl) (ho : PE X o (canE T W mo)) (hv : PE X value (canE T W mv))
    (hs : swapsWith value (some (.Attribute o (st f) pos')) pos.line X.env = pure false := by rfl) : PS X (.Assign [.Attribute o (st f) pos'] value pos) (canS T W (sAsg mv (gFld mo f))) :=
  PS.le (ps_fld ho hv hs) fun D σ H ⟨ι, h, σm, Dm, R, s, p, m⟩ => by
    refine canE_mk R s (p.ex.at_ R s) m fun v h1 m1 ι1 H1 u R1 X1 s1 x1 r1 => ?_
    refine canE_mk R1 s1 x1 m1 fun v2 h2 m2 ι2 H2 u2 R2 X2 s2 x2 r2 => ?_
    cases v2 with
    | ref r i =>
      have m2 : (match rd h2 r i with
        | some (.ins c fs) => fs.length < 1000 ∧ Dm.nx σm (wr h2 r i (.ins c (Mi.putF f v fs)))
        | _ => False) := m2
      split at m2
      · rename_i c fs ea
        obtain ⟨l, m2⟩ := m2
        obtain ⟨q, dx, gs, rfl, e0, cl, hfl, e1, e2⟩ := R2.ins_ r2 ea
        obtain ⟨R3, X3⟩ := wr_ins (r := r) (dx := dx) R2 e0 cl (mem_putF (v := v) hf hfl) (FVR.put (f := f) (RV.ext R1 X2 _ _ r1) e2)
        exact ⟨q, _, dx, gs, rfl, e1, by rw [hK]; exact hc c cl, by rw [hK]; exact hn c cl, by rw [← e2.length]; exact l, ((p.ext R1 X1).ext R2 X2).nx _ _ m2 _ _ _ R3 X3 (s2.ext R2 X3)⟩
      · exact m2.elim
    | _ => exact m2.elim
/-! ### while -/
theorem s_while (hp : PassesOwn (model X.prog X.w) X.A X.env X.xe) {d : Expr} (hc : PT X d (canT T W t)) (hb : PSs X cs (canS T W b)) : PS X (.While d cs [] pos) (canS T W (sWhile t b)) := PS.le (ps_while hp hc hb) fun D σ H ⟨ι, h, σm, Dm, R, s, p, n, m⟩ => by
  refine ⟨fun n σ' H' => ∃ ι' h' σm', Rel T ι' h' H' ∧ Ext ι H ι' H' ∧ RS T ι' H' σm' σ' ∧ whileN t b n Dm σm' h', ⟨n, ι, h, σm, R, Ext.refl, s, m⟩, ?_⟩
  rintro n σ1 H1 ⟨ι1, h1, σm1, R1, X1, s1, m1⟩
  cases n with
  | zero => exact m1.elim
  | succ n =>
    refine canT_mk R1 s1 ((p.ext R1 X1).ex.at_ R1 s1) m1 fun k h2 m2 ι2 H2 R2 X2 s2 x2 => ?_
    have X12 := Ext.trans R1 X1 X2
    cases k with
    | false => exact p.nx _ _ m2 _ _ _ R2 X12 s2
    | true =>
      refine ⟨fun σ' H' => ∃ ι' h' σm', Rel T ι' h' H' ∧ Ext ι H ι' H' ∧ RS T ι' H' σm' σ' ∧ whileN t b n Dm σm' h', fun σ' H' z => ⟨n, Nat.lt_succ_self n, z⟩, ?_⟩
      have pp := p.ext R2 X12
      have nx : PP T ι2 H2 (whileN t b n Dm) fun σ' H' => ∃ ι' h' σm', Rel T ι' h' H' ∧ Ext ι H ι' H' ∧ RS T ι' H' σm' σ' ∧ whileN t b n Dm σm' h' :=
        fun σm3 h3 m3 ι3 H3 σ3 R3 X3 s3 => ⟨ι3, h3, σm3, R3, Ext.trans R2 X12 X3, s3, m3⟩
      exact canS_mk R2 s2 (Dm := { Dm with nx := whileN t b n Dm, ct := whileN t b n Dm, bk := Dm.nx }) ⟨nx, pp.rt, pp.nx, nx, pp.ex⟩ m2
/-! ### walks -/
structure SrcR (T : Tx) (ι : IA) (H : Hp) (src : Src) (J : It) : Prop where
  go : ∀ i ι' h' H', Rel T ι' h' H' → Ext ι H ι' H' → src.chk h' → i < src.xs.length → J.go i H'
  yld : ∀ i ι' h' H' m x H'', Rel T ι' h' H' → Ext ι H ι' H' → src.chk h' → src.xs[i]? = some m → J.yld i H' x H'' → Rel T ι' h' H'' ∧ Ext ι' H' ι' H'' ∧ RV T.K ι' H'' m x
  stop : ∀ ι' h' H', Rel T ι' h' H' → Ext ι H ι' H' → src.chk h' → J.stop src.xs.length H'
def canI (T : Tx) (W : WX) (m : WI) : L2.TI := fun σ H R => ∃ ι h σm Rm Em, Rel T ι h H ∧ RS T ι H σm σ ∧ PX T ι H Em (L2.WE W σ) ∧ (∀ src h', Rm src h' → ∀ ι' H' J, Rel T ι' h' H' → Ext ι H ι' H' → SrcR T ι' H' src J → R J H') ∧ m σm h Rm Em
theorem PI.le {tg it : Expr} {t t' : L2.TI} (h : PI X tg it t) (le : ∀ σ H R, t' σ H R → t σ H R) : PI X tg it t' := ⟨fun pins s σ H R I q => h.run pins s σ H R I (le _ _ _ q)⟩
theorem srcR_lst {ι : IA} {h : MH} {H : Hp} {r i : Nat} {p : Addr} {xs : List MV} (e0 : (ι r)[i]? = some p) : SrcR T ι H ⟨xs, fun h' => rd h' r i = some (.lst xs)⟩ (Itl T.K p) where
  go := fun j ι' h' H' R X c hj => by
    obtain ⟨p', e1, vs, e2, e3⟩ := R.of_rd c
    rw [X.ix e0] at e1; cases e1
    have hj : j < xs.length := hj
    exact ⟨vs, vs[j]'(by rw [← e3.length]; exact hj), SqL.of e2, List.getElem?_eq_getElem _⟩
  yld := fun j ι' h' H' m x H'' R X c hm y => by
    obtain ⟨p', e1, vs, e2, e3⟩ := R.of_rd c
    rw [X.ix e0] at e1; cases e1
    obtain ⟨rfl, y⟩ := y
    obtain ⟨v, e4, e5⟩ := e3.get hm
    have := y vs (SqL.of e2)
    rw [e4] at this; cases this
    exact ⟨R, Ext.refl, e5⟩
  stop := fun ι' h' H' R X c => by
    obtain ⟨p', e1, vs, e2, e3⟩ := R.of_rd c
    rw [X.ix e0] at e1; cases e1
    exact ⟨vs, SqL.of e2, by rw [e3.length]; exact Nat.le_refl _⟩
theorem srcR_tup {ι : IA} {h : MH} {H : Hp} {p : Addr} {xs : List MV} {vs : List V} (R0 : Rel T ι h H) (e : L2.SqT T.K H p vs) (r : RVs T.K ι H xs vs) : SrcR T ι H ⟨xs, fun _ => True⟩ (Itt T.K p) where
  go := fun j ι' h' H' R X c hj => ⟨vs, vs[j]'(by rw [← r.length]; exact hj), sqT_ext R0 X e, List.getElem?_eq_getElem _⟩
  yld := fun j ι' h' H' m x H'' R X c hm y => by
    obtain ⟨rfl, y⟩ := y
    obtain ⟨v, e4, e5⟩ := r.get hm
    have := y vs (sqT_ext R0 X e)
    rw [e4] at this; cases this
    exact ⟨R, Ext.refl, RV.ext R0 X _ _ e5⟩
  stop := fun ι' h' H' R X c => ⟨vs, sqT_ext R0 X e, by rw [r.length]; exact Nat.le_refl _⟩
theorem srcR_cst {ι : IA} {h : MH} {H : Hp} {p : Addr} {xs : List MV} {vs : List V} (R0 : Rel T ι h H) (e : SqC T.K H p vs) (r : RVs T.K ι H xs vs) : SrcR T ι H ⟨xs, fun _ => True⟩ (Itl T.K p) where
  go := fun j ι' h' H' R X c hj => ⟨vs, vs[j]'(by rw [← r.length]; exact hj), (SqC.ext R0 X e).l, List.getElem?_eq_getElem _⟩
  yld := fun j ι' h' H' m x H'' R X c hm y => by
    obtain ⟨rfl, y⟩ := y
    obtain ⟨v, e4, e5⟩ := r.get hm
    have := y vs (SqC.ext R0 X e).l
    rw [e4] at this; cases this
    exact ⟨R, Ext.refl, RV.ext R0 X _ _ e5⟩
  stop := fun ι' h' H' R X c => ⟨vs, (SqC.ext R0 X e).l, by rw [r.length]; exact Nat.le_refl _⟩
theorem rng_get {lo : Int} {n i : Nat} {m : MV} (h : (rng lo n)[i]? = some m) : m = .int (lo + i) ∧ i < n := by
  unfold rng at h
  rw [List.getElem?_map] at h
  obtain ⟨k, e1, e2⟩ := Option.map_eq_some_iff.mp h
  rw [List.getElem?_range] at e1
  · cases e1
    refine ⟨e2.symm, ?_⟩
    by_cases c : i < n
    · exact c
    · simp [c] at h
  · by_cases c : i < n
    · exact c
    · simp [c] at h
theorem rng_len (lo : Int) (n : Nat) : (rng lo n).length = n := by unfold rng; simp
theorem srcR_rng {ι : IA} {H : Hp} {lo : Int} {n : Nat} : SrcR T ι H ⟨rng lo n, fun _ => True⟩ (Itr lo n) where
  go := fun j ι' h' H' R X c hj => by
    have hj : j < (rng lo n).length := hj
    rw [rng_len] at hj
    exact hj
  yld := fun j ι' h' H' m x H'' R X c hm y => by
    obtain ⟨rfl, y⟩ := y
    obtain ⟨rfl, _⟩ := rng_get hm
    exact ⟨R, Ext.refl, by rw [y]; exact .int'⟩
  stop := fun ι' h' H' R X c => by
    show n ≤ (rng lo n).length
    rw [rng_len]
    exact Nat.le_refl _
/-- a list or a tuple, walked -/
def iEither (K : PySem.W.Frag) (tl : TE) : L2.TI := fun σ H R => tl σ H fun x H1 => ∃ a, x = .ref a ∧ (((∃ xs, L2.SqL K H1 a xs) ∧ R (Itl K a) H1) ∨ ((∃ xs, L2.SqT K H1 a xs) ∧ R (Itt K a) H1))
theorem pi_either {tg l : Expr} {tl : TE} (hl : PE X l tl) : PI X tg l (iEither X.K tl) := by
  refine ⟨fun pins s σ H R I h => ?_⟩
  refine thn (hl.run pins s σ H _ I h) fun v s1 ⟨x, H1, I1, r1, q1⟩ => ?_
  obtain ⟨a, ex, q1⟩ := q1
  subst ex
  obtain rfl : v = Value.ref a := r1
  have fp : ∀ b ∈ [s1.heap.objs.size], FpOk X pins H1 b := fun b hb => by
    have eb : b = s1.heap.objs.size := List.mem_singleton.mp hb
    subst eb
    exact I1.fpOk (Nat.le_refl _) (I1.hok.fresh (Nat.le_refl _))
  rcases q1 with ⟨⟨xs, hq⟩, q⟩ | ⟨⟨xs, hq⟩, q⟩
  · obtain ⟨its, rv, p, hz⟩ := I1.list hq
    exact wpAny_pyIter_list p.isList ⟨_, _, _, _, H1, rfl, I1.kept (t' := s1.toks) fun b o e => Heap.get?_push_of_some _ e, turn_list a _, ⟨_, Heap.get?_push_size _ rfl, rfl, rfl⟩, fp, q⟩
  · obtain ⟨its, rv, p, hz⟩ := I1.tuple hq
    exact wpAny_pyIter_tuple (show s1.heap.IsTuple a its.toArray from p) ⟨_, _, _, _, H1, rfl, I1.kept (t' := s1.toks) fun b o e => Heap.get?_push_of_some _ e, turn_tuple a _, ⟨_, Heap.get?_push_size _ rfl, rfl, rfl⟩, fp, q⟩
theorem i_seq {tg l : Expr} {ml : WE} (hK : X.K = T.K) (hl : PE X l (canE T W ml)) : PI X tg l (canI T W (iSeq ml)) := PI.le (pi_either hl) fun σ H Rr ⟨ι, h, σm, Rm, Em, R, s, x, q, m⟩ => by
  refine canE_mk R s x m fun v h1 m1 ι1 H1 u R1 X1 s1 x1 r1 => ?_
  cases v with
  | tup xs =>
    obtain ⟨p, vs, rfl, e1, e2⟩ := r1.tup_
    exact ⟨p, rfl, .inr ⟨⟨vs, by rw [hK]; exact e1⟩, by rw [hK]; exact q _ _ m1 _ _ _ R1 X1 (srcR_tup R1 e1 e2)⟩⟩
  | cst xs =>
    obtain ⟨p, vs, rfl, e1, e2⟩ := r1.cst_
    exact ⟨p, rfl, .inl ⟨⟨vs, by rw [hK]; exact e1.l⟩, by rw [hK]; exact q _ _ m1 _ _ _ R1 X1 (srcR_cst R1 e1 e2)⟩⟩
  | ref r i =>
    have m1 : (match rd h1 r i with
      | some (.lst xs) => Rm ⟨xs, fun h' => rd h' r i = some (.lst xs)⟩ h1
      | _ => False) := m1
    split at m1
    · rename_i xs ea
      obtain ⟨p, vs, rfl, e0, e1, e2⟩ := R1.lst_ r1 ea
      exact ⟨p, rfl, .inl ⟨⟨vs, SqL.of e1⟩, by rw [hK]; exact q _ _ m1 _ _ _ R1 X1 (srcR_lst (h := h1) e0)⟩⟩
    · exact m1.elim
  | _ => exact m1.elim
theorem i_rng1 {tg a : Expr} {ma : WE} {p : Pos} (hg : Gl X "range") (hm : X.mg "range" = none) (ha : PE X a (canE T W ma)) (hs : starEach [a] X.env = [(false, eval a X.env)] := by rfl) :
    PI X tg (.Call (.Name "range" p) [a] [] pos) (canI T W (iRng1 ma)) := PI.le (pi_range1 hg hm (pa_cons ha pa_nil (by rw [hs]; rfl)) hs) fun σ H Rr ⟨ι, h, σm, Rm, Em, R, s, x, q, m⟩ => by
  refine canE_mk R s x m fun v h1 m1 ι1 H1 u R1 X1 s1 x1 r1 => ?_
  cases v with
  | int j =>
    obtain ⟨⟨b1, b2⟩, m1⟩ := m1
    cases r1.int_
    exact ⟨j, rfl, b1, b2, q _ _ m1 _ _ _ R1 X1 srcR_rng⟩
  | _ => exact m1.elim
theorem i_rng2 {tg a b : Expr} {ma mb : WE} {p : Pos} (hg : Gl X "range") (hm : X.mg "range" = none) (ha : PE X a (canE T W ma)) (hb : PE X b (canE T W mb)) (hs : starEach [a, b] X.env = [(false, eval a X.env), (false, eval b X.env)] := by rfl) (hs2 : starEach [b] X.env = [(false, eval b X.env)] := by rfl) :
    PI X tg (.Call (.Name "range" p) [a, b] [] pos) (canI T W (iRng2 ma mb)) := PI.le (pi_range2 hg hm (pa_cons ha (pa_cons hb pa_nil (by rw [hs2]; rfl)) (by rw [hs, hs2])) hs hs2) fun σ H Rr ⟨ι, h, σm, Rm, Em, R, s, x, q, m⟩ => by
  refine canE_mk R s x m fun v h1 m1 ι1 H1 u R1 X1 s1 x1 r1 => ?_
  refine canE_mk R1 s1 x1 m1 fun v2 h2 m2 ι2 H2 u2 R2 X2 s2 x2 r2 => ?_
  cases v with
  | int i =>
    cases v2 with
    | int j =>
      obtain ⟨⟨b1, b2⟩, ⟨b3, b4⟩, m2⟩ := m2
      cases r1.int_; cases r2.int_
      exact ⟨i, j, rfl, ⟨b1, b2, b3, b4⟩, q _ _ m2 _ _ _ R2 (Ext.trans R1 X1 X2) srcR_rng⟩
    | _ => exact m2.elim
  | _ => cases v2 <;> exact m2.elim
/-! ### for -/
theorem s_for {tg it : Expr} {i : WI} {g : WG} (hp : PassesOwn (model X.prog X.w) X.A X.env X.xe) (hc : X.calm = true) (hi : PI X tg it (canI T W i)) (hg : PG X tg (canG T W g)) (hb : PSs X cs (canS T W b))
    (hs : ∀ x, foldedSetIterable it X.env x = pure x := by intro _; rfl) : PS X (.For tg it cs [] pos) (canS T W (sFor i g b)) := PS.le (ps_for hp hc hi hg hb hs) fun D σ H ⟨ι, h, σm, Dm, R, s, p, m⟩ => by
  refine ⟨ι, h, σm, _, _, R, s, p.ex.at_ R s, fun src h1 m1 ι1 H1 J R1 X1 sr => ?_, m⟩
  rw [forL_eq] at m1
  refine ⟨fun i n σ' H' => ∃ ι' h' σm', Rel T ι' h' H' ∧ Ext ι1 H1 ι' H' ∧ RS T ι' H' σm' σ' ∧ n = src.xs.length - i ∧ i ≤ src.xs.length ∧ forR src.chk g b (src.xs.drop i) Dm σm' h', ⟨_, ι1, h1, σm, R1, Ext.refl, s.ext R X1, rfl, Nat.zero_le _, m1⟩, ?_⟩
  rintro i n σ2 H2 ⟨ι2, h2, σm2, R2, X2, s2, rfl, hi, m2⟩
  by_cases hlt : i < src.xs.length
  · rw [List.drop_eq_getElem_cons hlt] at m2
    obtain ⟨ck, m2⟩ := m2
    refine .inr ⟨sr.go i ι2 h2 H2 R2 X2 ck hlt, fun σ' H' => ∃ ι' h' σm', Rel T ι' h' H' ∧ Ext ι1 H1 ι' H' ∧ RS T ι' H' σm' σ' ∧ forR src.chk g b (src.xs.drop (i + 1)) Dm σm' h', ?_, fun x H3 y => ?_⟩
    · rintro σ' H' ⟨ι', h', σm', z1, z2, z3, z4⟩
      exact ⟨src.xs.length - (i + 1), by omega, ι', h', σm', z1, z2, z3, rfl, hlt, z4⟩
    · obtain ⟨R3, X3, r3⟩ := sr.yld i ι2 h2 H2 _ x H3 R2 X2 ck (List.getElem?_eq_getElem hlt) y
      have X23 := Ext.trans R2 X2 X3
      have X03 := Ext.trans R1 X1 X23
      have pp := p.ext R3 X03
      have s3 := s2.ext R2 X3
      refine ⟨ι2, h2, σm2, _, _, _, R3, s3, r3, fun σm4 h4 m4 ι4 H4 σ4 R4 X4 s4 => ?_, pp.ex.at_ R3 s3, m2⟩
      have X14 := Ext.trans R3 X23 X4
      have p4 := pp.ext R4 X4
      have nx : PP T ι4 H4 (forR src.chk g b (src.xs.drop (i + 1)) Dm) fun σ' H' => ∃ ι' h' σm', Rel T ι' h' H' ∧ Ext ι1 H1 ι' H' ∧ RS T ι' H' σm' σ' ∧ forR src.chk g b (src.xs.drop (i + 1)) Dm σm' h' :=
        fun σm5 h5 m5 ι5 H5 σ5 R5 X5 s5 => ⟨ι5, h5, σm5, R5, Ext.trans R4 X14 X5, s5, m5⟩
      exact canS_mk R4 s4 (Dm := { Dm with nx := forR src.chk g b (src.xs.drop (i + 1)) Dm, ct := forR src.chk g b (src.xs.drop (i + 1)) Dm, bk := Dm.nx }) ⟨nx, p4.rt, p4.nx, nx, p4.ex⟩ m4
  · have e : i = src.xs.length := by omega
    subst e
    rw [List.drop_length] at m2
    obtain ⟨ck, m2⟩ := m2
    exact .inl ⟨sr.stop ι2 h2 H2 R2 X2 ck, (p.ext R1 X1).nx _ _ m2 _ _ _ R2 X2 s2⟩
/-! ### raise -/
theorem s_raise {cn : String} {x m : Str} {j : Nat} {p p2 : Pos} (hK : X.K = T.K) (hc : X.calm = true) (tk : Takes X W) (he : cn ∈ T.Er) (q : PySem.W.excIn T.K (clA T.K cn) He.veBase "ValueError.__new__" = true) (gC : X.mg (st cn) = some (.ref (clA T.K cn))) (kC : PySem.W.keepIn T.K (.ref (clA T.K cn)) = true)
    (h1 : PySem.W.subIn T.K (.ref (clA T.K cn)) (.type "BaseException") = some true) (h2 : PySem.W.typeIn T.K (.ref (clA T.K cn)) = some (.type "type")) (hg : Gl X (st cn)) (hdb : (st cn == ("__debug__" : Str)) = false) :
    PS X (.Raise (some (.Call (.Name (st cn) p) [.Constant (.str m) j p2] [] pos')) none pos) (canS T W (sRaise cn)) := by
  rw [← hK] at q kC h1 h2
  refine PS.le (ps_raise hc tk (pmk_own PySem.F.excBase_ValueError q (by rw [hK]; exact gC) kC (raises_own h1 h2) hg hdb)) fun D σ H ⟨ι, h, σm, Dm, R, s, pp, m⟩ => ?_
  rw [hK]
  exact pp.ex cn σm h he m ι H σ R Ext.refl s
end
end Mi
end TxMiniS

section TxMiniT
set_option Elab.async false
set_option linter.all false
set_option autoImplicit false
set_option maxRecDepth 100000
set_option maxHeartbeats 4000000
namespace Mi
open PySem PySem.Spec PyProof.Rows L2
abbrev W0 : WX := fun _ _ _ _ => False
/-! ### what leans on the tuples alone -/
def Keeps (H H' : Hp) : Prop := ∀ p u, ((∃ xs, u = HO.tup xs) ∨ ∃ o w, u = HO.frz o w) → H p = some u → H' p = some u
section
variable {T : Tx} {ι : IA} {h : MH} {H H' : Hp}
theorem sqT_keep {p : Addr} {vs : List V} (k : Keeps H H') (e : L2.SqT T.K H p vs) : L2.SqT T.K H' p vs := by
  rcases e with (e | ⟨o, e⟩) | e
  · exact .inl (.inl (k _ _ (.inl ⟨_, rfl⟩) e))
  · exact .inl (.inr ⟨o, k _ _ (.inr ⟨_, _, rfl⟩) e⟩)
  · exact .inr e
theorem sqC_keep {p : Addr} {vs : List V} (k : Keeps H H') (e : SqC T.K H p vs) : SqC T.K H' p vs := by
  rcases e with ⟨o, e⟩ | e
  · exact .inl ⟨o, k _ _ (.inr ⟨_, _, rfl⟩) e⟩
  · exact .inr e
mutual
theorem RV.keep (k : Keeps H H') : ∀ (m : MV) (v : V), RV T.K ι H m v → RV T.K ι H' m v
  | .non, _, e => by unfold RV at e ⊢; exact e
  | .bl _, _, e => by unfold RV at e ⊢; exact e
  | .int _, _, e => by unfold RV at e ⊢; exact e
  | .str _, _, e => by unfold RV at e ⊢; exact e
  | .tup xs, _, e => by
    unfold RV at e ⊢
    obtain ⟨p, vs, e1, e2, e3⟩ := e
    exact ⟨p, vs, e1, sqT_keep k e2, RVs.keep k xs vs e3⟩
  | .cst xs, _, e => by
    unfold RV at e ⊢
    obtain ⟨p, vs, e1, e2, e3⟩ := e
    exact ⟨p, vs, e1, sqC_keep k e2, RVs.keep k xs vs e3⟩
  | .ref r i, _, e => by unfold RV at e ⊢; exact e
  | .exc _, _, e => by unfold RV at e ⊢; exact e
theorem RVs.keep (k : Keeps H H') : ∀ (ms : List MV) (vs : List V), RVs T.K ι H ms vs → RVs T.K ι H' ms vs
  | [], _, e => by unfold RVs at e ⊢; exact e
  | m :: ms, _, e => by
    unfold RVs at e ⊢
    obtain ⟨v, r, e1, e2, e3⟩ := e
    exact ⟨v, r, e1, RV.keep k m v e2, RVs.keep k ms r e3⟩
end
theorem OR.keep (k : Keeps H H') {p : Addr} {o : MO} (x : OR T ι H p o) (e : H' p = H p) : OR T ι H' p o := by
  cases o with
  | lst xs =>
    obtain ⟨vs, e1, e2⟩ := x
    exact ⟨vs, e.trans e1, RVs.keep k _ _ e2⟩
  | dic kvs =>
    obtain ⟨kws, e1, e2⟩ := x
    exact ⟨kws, e.trans e1, Paired.imp (fun a b q => ⟨q.1, RV.keep k _ _ q.2⟩) e2⟩
  | ins c fs =>
    obtain ⟨hc, hf, dx, fvs, e1, e2⟩ := x
    exact ⟨hc, hf, dx, fvs, e.trans e1, Paired.imp (fun a b q => ⟨q.1, RV.keep k _ _ q.2⟩) e2⟩
/-- a list beside what is related changes -/
theorem Rel.off (R : Rel T ι h H) {D : Addr} {xs : List V} (hd : H D = some (.lst xs)) (nd : ∀ (r i : Nat), (ι r)[i]? ≠ some D) (e : ∀ b, b ≠ D → H' b = H b) : Rel T ι h H' ∧ Keeps H H' := by
  have k : Keeps H H' := fun p u hu hp => by
    rw [e]
    · exact hp
    · intro z
      subst z
      rw [hd] at hp
      rcases hu with ⟨_, rfl⟩ | ⟨_, _, rfl⟩ <;> cases hp
  refine ⟨⟨R.len, fun r i o p e1 e2 => (R.obj r i o p e1 e2).keep k (e p fun z => ?_), R.inj⟩, k⟩
  subst z
  exact nd r i e2
end
section
variable {T : Tx} {X : Cx} {W : WX} {pos : Pos} {me : WE} {t : WT}
theorem tst_nil : PTs X [] (canT T W tYes) := ⟨fun pins s σ H Q I ⟨ι, h, σm, Qm, Em, R, sr, q, x, m⟩ => pts_nil.run pins s σ H Q I (q _ _ m _ _ R Ext.refl)⟩
theorem tst_one {c : Expr} (hc : PT X c (canT T W t)) : PTs X [c] (canT T W t) := pts_one hc
theorem px_none {ι : IA} {H : Hp} {E : XK} : PX T ι H (fun _ _ => False) E := fun _ _ _ z => z.elim
/-- the reading of a comprehension -/
theorem rd_comp {r : Nat} {wi : WI} {i : Nat} {σ : L2.St} {H : Hp} {Q : VK} (c : canE T W (wComp r wi i t me) σ H Q) : tLc (canI T W wi) (gName i) (canT T W0 t) (canE T W0 me) [i] σ H Q := by
  obtain ⟨ι, h, σm, Qm, Em, R, s, q, x, m⟩ := c
  refine ⟨ι, h, σm, _, Em, R, s, x, fun src h1 m1 ι1 H1 J R1 X1 sr => ?_, m⟩
  rw [compL_eq] at m1
  intro D hD
  obtain ⟨RD, XD⟩ := aside (O := .lst []) R1 hD
  refine ⟨fun k n H' => ∃ ι' h' am av, Rel T ι' h' H' ∧ Ext ι1 H1 ι' H' ∧ (∀ (r i : Nat), (ι' r)[i]? ≠ some D) ∧ H' D = some (.lst av) ∧ RVs T.K ι' H' am av ∧ n = src.xs.length - k ∧ k ≤ src.xs.length ∧ compR r src.chk i t me σm Qm (src.xs.drop k) am h',
    ⟨_, ι1, h1, [], [], RD, XD, R1.fresh hD, upd_same, RVs.nil, rfl, Nat.zero_le _, m1⟩, ?_⟩
  rintro k n H2 ⟨ι2, h2, am, av, R2, X2, nd, hd, ra, rfl, hk, m2⟩
  by_cases hlt : k < src.xs.length
  · rw [List.drop_eq_getElem_cons hlt] at m2
    obtain ⟨ck, m2⟩ := m2
    refine .inr ⟨sr.go k ι2 h2 H2 R2 X2 ck hlt, fun H' => ∃ ι' h' am av, Rel T ι' h' H' ∧ Ext ι1 H1 ι' H' ∧ (∀ (r i : Nat), (ι' r)[i]? ≠ some D) ∧ H' D = some (.lst av) ∧ RVs T.K ι' H' am av ∧ compR r src.chk i t me σm Qm (src.xs.drop (k + 1)) am h', ?_, fun v H3 y => ?_⟩
    · rintro H' ⟨ι', h', am', av', z1, z2, z3, z4, z5, z6⟩
      exact ⟨src.xs.length - (k + 1), by omega, ι', h', am', av', z1, z2, z3, z4, z5, rfl, hlt, z6⟩
    · obtain ⟨R3, X3, r3⟩ := sr.yld k ι2 h2 H2 _ v H3 R2 X2 ck (List.getElem?_eq_getElem hlt) y
      have d3 : H3 D = some (.lst av) := X3.oth _ _ hd nd
      have X13 := Ext.trans R2 X2 X3
      have ew : wipe σ [i] = σ.set i none := rfl
      show wipe ((wipe σ [i]).set i (some v)) [i] = wipe σ [i] ∧ _
      rw [ew, List.set_set]
      refine ⟨by show (σ.set i (some v)).set i none = _; rw [List.set_set], ?_⟩
      have s3 : RS T ι2 H3 (σm.set i (some src.xs[k])) (σ.set i (some v)) := RS.set ((s.ext R X1).ext R1 X13) i r3
      have step : ∀ {ι4 : IA} {h4 : MH} {H4 : Hp}, Rel T ι4 h4 H4 → Ext ι2 H3 ι4 H4 → Ext ι1 H1 ι4 H4 ∧ (∀ (r i : Nat), (ι4 r)[i]? ≠ some D) ∧ H4 D = some (.lst av) ∧ RVs T.K ι4 H4 am av := fun {ι4 h4 H4} R4 X4 => by
        have d4 := X4.oth _ _ d3 nd
        refine ⟨Ext.trans R3 X13 X4, fun r' i' z => ?_, d4, RVs.ext R3 X4 _ _ (RVs.ext R2 X3 _ _ ra)⟩
        obtain ⟨more, e1, e2⟩ := X4.pre r'
        rw [e1] at z
        rcases List.mem_append.mp (List.mem_of_getElem? z) with z | z
        · obtain ⟨j, hj⟩ := List.mem_iff_getElem?.mp z
          exact nd r' j hj
        · rw [e2 D z] at d3; cases d3
      refine canT_mk R3 s3 px_none m2 fun b h4 m4 ι4 H4 R4 X4 s4 x4 => ?_
      cases b with
      | false =>
        obtain ⟨y1, y2, y3, y4⟩ := step R4 X4
        exact ⟨ι4, h4, am, av, R4, y1, y2, y3, y4, m4⟩
      | true =>
        refine canE_mk R4 s4 x4 m4 fun v5 h5 m5 ι5 H5 u5 R5 X5 s5 x5 r5 => ?_
        obtain ⟨y1, y2, y3, y4⟩ := step R5 (Ext.trans R4 X4 X5)
        obtain ⟨l5, m5⟩ := m5
        refine ⟨av, y3, by rw [← y4.length]; exact lt_line l5, ?_⟩
        obtain ⟨R6, k6⟩ := R5.off (H' := upd H5 D (.lst (av ++ [u5]))) y3 y2 fun b hb => upd_ne hb
        refine ⟨ι5, h5, am ++ [v5], av ++ [u5], R6, ⟨y1.pre, fun p o e n => ?_⟩, y2, upd_same, RVs.keep k6 _ _ (y4.append (RVs.one r5)), m5⟩
        rw [upd_ne (ne_of_none e hD)]
        exact y1.oth p o e n
  · have e : k = src.xs.length := by omega
    subst e
    rw [List.drop_length] at m2
    obtain ⟨ck, m2⟩ := m2
    refine .inl ⟨sr.stop ι2 h2 H2 R2 X2 ck, ?_⟩
    -- D is taken into what is related
    let H0 : Hp := fun b => if b = D then none else H2 b
    have e0 : H0 D = none := if_pos rfl
    obtain ⟨R5, k5⟩ := R2.off (H' := H0) hd nd fun b hb => if_neg hb
    have eu : upd H0 D (.lst av) = H2 := by
      funext b
      unfold upd
      by_cases c : b = D
      · rw [if_pos c, c, hd]
      · rw [if_neg c]; exact if_neg c
    obtain ⟨R6, X6, r6⟩ := lst_at (r := r) R5 e0 (RVs.keep k5 _ _ ra)
    rw [eu] at R6 X6 r6
    refine q _ _ m2 _ _ _ R6 (Ext.trans R1 X1 ⟨fun r' => ?_, fun p o e n => X2.oth p o e n⟩) r6
    obtain ⟨m1', a1, a2⟩ := X2.pre r'
    by_cases c : r' = r
    · subst c
      refine ⟨m1' ++ [D], by rw [ia_same, a1, List.append_assoc], fun p hp => ?_⟩
      rcases List.mem_append.mp hp with z | z
      · exact a2 p z
      · rw [List.mem_singleton.mp z]; exact hD
    · exact ⟨m1', by rw [ia_ne _ _ c, a1], a2⟩
variable {elt tg it : Expr} {ifs : List Expr} {scope : Scope} {xn : Str}
theorem e_comp {r : Nat} {wi : WI} {i : Nat} (hc : X.calm = true) (hN : X.N.Nodup) (hi : PI X tg it (canI T W wi)) (ok : BlkOk X.N X.env.scope scope [(xn, i)])
    (hg : ∀ (s : Shared) (H : Hp) (C : Addr) (cl : List (Str × Addr)) (fp : List Addr), PG (X.blk s H scope (compEnvC scope cl C X.env) fp) tg (gName i)) (ht : ∀ (s : Shared) (H : Hp) (C : Addr) (cl : List (Str × Addr)) (fp : List Addr), PTs (X.blk s H scope (compEnvC scope cl C X.env) fp) ifs (canT T W0 t))
    (he : ∀ (s : Shared) (H : Hp) (C : Addr) (cl : List (Str × Addr)) (fp : List Addr), PE (X.blk s H scope (compEnvC scope cl C X.env) fp) elt (canE T W0 me)) (hs : ∀ x, foldedSetIterable it X.env x = pure x := by intro _; rfl) :
    PE X (.ListComp elt [⟨tg, it, ifs, 0⟩] scope pos) (canE T W (wComp r wi i t me)) := PE.le (pe_lc (own := [(xn, i)]) hc hN hi ok hg ht he hs) fun _ _ _ c => rd_comp c
theorem s_setLc {r : Nat} {wi : WI} {i j : Nat} {y : Str} {py spos : Pos} (hc : X.calm = true) (hN : X.N.Nodup) (hy : X.N[j]? = some y) (hyl : X.env.scope.names.lookup y = some .local) (hsw : swapsWith (.ListComp elt [⟨tg, it, ifs, 0⟩] scope pos) (some (.Name y py)) spos.line X.env = pure true)
    (hi : PI X tg it (canI T W wi)) (ok : BlkOk X.N X.env.scope scope [(xn, i)])
    (hg : ∀ (s : Shared) (H : Hp) (C : Addr) (cl : List (Str × Addr)) (fp : List Addr), PG (X.blk s H scope (compEnvC scope cl C X.env) fp) tg (gName i)) (ht : ∀ (s : Shared) (H : Hp) (C : Addr) (cl : List (Str × Addr)) (fp : List Addr), PTs (X.blk s H scope (compEnvC scope cl C X.env) fp) ifs (canT T W0 t))
    (he : ∀ (s : Shared) (H : Hp) (C : Addr) (cl : List (Str × Addr)) (fp : List Addr), PE (X.blk s H scope (compEnvC scope cl C X.env) fp) elt (canE T W0 me)) (hs : ∀ x, foldedSetIterable it X.env x = pure x := by intro _; rfl) :
    PS X (.Assign [.Name y py] (.ListComp elt [⟨tg, it, ifs, 0⟩] scope pos) spos) (canS T W (sAsg (wComp r wi i t me) (gN j))) :=
  PS.le (ps_setLc (i := j) (own := [(xn, i)]) hc hN hy hyl hsw hi ok hg ht he hs) fun D σ H ⟨ι, h, σm, Dm, R, s, p, m⟩ =>
    rd_comp (canE_mk R s (p.ex.at_ R s) m fun v h1 m1 ι1 H1 u R1 X1 s1 x1 r1 => p.nx _ _ m1 _ _ _ R1 X1 (s1.set j r1))
/-! ### try -/
variable {body suite : List Stmt} {b0 : Stmt} {n : Str} {np pos' : Pos} {b : WS} {su : String → Nat → WS} {cn : String}
theorem s_try_as {i : Nat} (hs : X.stack = X.env :: X.outer) (hf : X.env.frame = some X.env.locals) (hN : X.N.Nodup) (hi : X.N[i]? = some n) (hln : X.env.kindOf n = some .local) (hK : X.K = T.K) (hc : Names X (st cn) (.ref (clA T.K cn))) (tk : Takes X W)
    (hx : ∀ c ∈ T.Er, PySem.W.exmOne T.K (.ref (clA T.K c)) (.ref (clA T.K cn)) = some (isSub c cn))
    (hb : ∀ (W' : WX) (pn : List (Addr × Obj)) (xe : Value → Shared → Prop), Takes (X.tr pn xe) W' → PassesOwn (model X.prog X.w) X.A X.env xe → PSs (X.tr pn xe) body (canS T W' b))
    (hsu : ∀ c ∈ T.Er, isSub c cn = true → ∀ (a : Addr) (oe : Obj) (pn : List (Addr × Obj)), Zc (.ref (clA T.K c)) none oe → (∃ vs, oe.data = .fields vs) → PSs (X.suite a ((a, oe) :: pn)) (b0 :: suite) (canS T W0 (su c a))) :
    PS X (.Try body [.ExceptHandler (some (.Name (st cn) np)) (some n) (b0 :: suite) pos'] [] [] pos) (canS T W (sTry b [cn] (some i) su)) := by
  refine PS.le (ps_try_as (i := i) (tb := fun W' => canS T W' b) (ts := fun a cls d D σ H => ∃ c, c ∈ T.Er ∧ isSub c cn = true ∧ cls = .ref (clA T.K c) ∧ d = none ∧ canS T W0 (su c a) D σ H) hs hf hN hi hln hc tk hb (fun a oe cls d pn hz hv => ?_)) fun D σ H ⟨ι, h, σm, Dm, R, s, p, m⟩ => ?_
  · refine ⟨fun pins s σ H D I ⟨c, hc, hsub, e1, e2, can⟩ => ?_⟩
    subst e1 e2
    exact (hsu c hc hsub a oe pn hz hv).run pins s σ H D I can
  · refine canS_mk R s (Dm := tryEn [cn] (some i) su Dm) ⟨p.nx, p.rt, p.bk, p.ct, fun c σ1 h1 hc m1 ι1 H1 σ2 R1 X1 s1 => ?_⟩ m
    have m1 : if ([cn].any (isSub c)) = true then ∀ a : Nat, su c a (suEn (some i) Dm) (bindE (some i) a σ1) h1 else Dm.ex c σ1 h1 := m1
    refine ⟨isSub c cn, by rw [hK]; exact hx c hc, fun ht a ha => ?_, fun ht => ?_⟩
    · refine ⟨c, hc, ht, rfl, rfl, ?_⟩
      rw [if_pos (by show (isSub c cn || false) = true; rw [ht]; rfl)] at m1
      have pp := p.ext R1 X1
      have up : ∀ {Qm : MS → MH → Prop} {Q : L2.St → Hp → Prop}, PP T ι1 H1 Qm Q → PP T ι1 H1 (fun σ2 h2 => Qm (unset (some i) σ2) h2) fun σ' H' => Q (σ'.set i none) H' := fun {Qm Q} q σm h' m' ι' H' σ' R' X' s' => q _ _ m' _ _ _ R' X' (s'.unset i)
      exact canS_mk (Dm := suEn (some i) Dm) (σm := bindE (some i) a σ1) R1 (RS.set s1 i (m := .exc a) (v := .ref a) (by unfold RV; rfl)) ⟨up pp.nx, pp.rt, up pp.bk, up pp.ct, fun _ _ _ _ z => z.elim⟩ (m1 a)
    · have m1 : (if ([cn].any (isSub c)) = true then _ else _) := m1
      rw [if_neg (by show ¬ (isSub c cn || false) = true; rw [ht]; exact Bool.false_ne_true)] at m1
      exact p.ex c σ1 h1 hc m1 _ _ _ R1 X1 s1
theorem s_try (hs : X.stack = X.env :: X.outer) (hf : X.env.frame = some X.env.locals) (hK : X.K = T.K) (hc : Names X (st cn) (.ref (clA T.K cn))) (tk : Takes X W)
    (hx : ∀ c ∈ T.Er, PySem.W.exmOne T.K (.ref (clA T.K c)) (.ref (clA T.K cn)) = some (isSub c cn))
    (hb : ∀ (W' : WX) (pn : List (Addr × Obj)) (xe : Value → Shared → Prop), Takes (X.tr pn xe) W' → PassesOwn (model X.prog X.w) X.A X.env xe → PSs (X.tr pn xe) body (canS T W' b))
    (hsu : ∀ c ∈ T.Er, isSub c cn = true → ∀ (a : Addr) (oe : Obj) (pn : List (Addr × Obj)), Zc (.ref (clA T.K c)) none oe → (∃ vs, oe.data = .fields vs) → PSs (X.suite a ((a, oe) :: pn)) (b0 :: suite) (canS T W0 (su c a))) :
    PS X (.Try body [.ExceptHandler (some (.Name (st cn) np)) none (b0 :: suite) pos'] [] [] pos) (canS T W (sTry b [cn] none su)) := by
  refine PS.le (ps_try_only (tb := fun W' => canS T W' b) (ts := fun a cls d D σ H => ∃ c, c ∈ T.Er ∧ isSub c cn = true ∧ cls = .ref (clA T.K c) ∧ d = none ∧ canS T W0 (su c a) D σ H) hs hf hc tk hb (fun a oe cls d pn hz hv => ?_)) fun D σ H ⟨ι, h, σm, Dm, R, s, p, m⟩ => ?_
  · refine ⟨fun pins s σ H D I ⟨c, hc, hsub, e1, e2, can⟩ => ?_⟩
    subst e1 e2
    exact (hsu c hc hsub a oe pn hz hv).run pins s σ H D I can
  · refine canS_mk R s (Dm := tryEn [cn] none su Dm) ⟨p.nx, p.rt, p.bk, p.ct, fun c σ1 h1 hc m1 ι1 H1 σ2 R1 X1 s1 => ?_⟩ m
    have m1 : if ([cn].any (isSub c)) = true then ∀ a : Nat, su c a (suEn none Dm) (bindE none a σ1) h1 else Dm.ex c σ1 h1 := m1
    refine ⟨isSub c cn, by rw [hK]; exact hx c hc, fun ht a ha => ?_, fun ht => ?_⟩
    · refine ⟨c, hc, ht, rfl, rfl, ?_⟩
      rw [if_pos (by show (isSub c cn || false) = true; rw [ht]; rfl)] at m1
      have pp := p.ext R1 X1
      exact canS_mk (Dm := suEn none Dm) (σm := bindE none a σ1) R1 s1 ⟨pp.nx, pp.rt, pp.bk, pp.ct, fun _ _ _ _ z => z.elim⟩ (m1 a)
    · have m1 : (if ([cn].any (isSub c)) = true then _ else _) := m1
      rw [if_neg (by show ¬ (isSub c cn || false) = true; rw [ht]; exact Bool.false_ne_true)] at m1
      exact p.ex c σ1 h1 hc m1 _ _ _ R1 X1 s1
/-! ### the error of a suite -/
theorem call_isET {a D : Addr} {oe : Obj} {pn : List (Addr × Obj)} (C : ExcC X.K D) (hz : Zc (.ref D) none oe) (hf : ∃ vs, oe.data = .fields vs) :
    CallR (X.suite a ((a, oe) :: pn)) (.builtin "isinstance") (fun xs H Q => ∃ (tp : Addr) (cs : List V) (us : List Value) (b : Bool), xs = [.ref a, .ref tp] ∧ H tp = some (.tup cs) ∧ Paired ClsV cs us ∧ PySem.W.kitAny X.K (.ref D) us = some b ∧ Q (.bl b) H) := by
  intro pins s σ H xs us Q I r h
  obtain ⟨tp, cs, ws, b, rfl, hT, k, e, q⟩ := h
  cases r with
  | cons rx rr =>
    cases rr with
    | cons rt rr =>
      cases rr
      cases rx
      cases rt
      obtain ⟨hget, _⟩ := I.pin (a, oe) (List.mem_append.mpr (.inl List.mem_cons_self))
      obtain ⟨vs, hv⟩ := hf
      have J : PySem.W.InstAt s.heap a oe D none := by
        obtain ⟨oc, od, oda, osl⟩ := oe
        obtain ⟨h1, h2⟩ := hz
        simp only at h1 h2 hv
        subst h1 h2 hv
        exact ⟨hget, rfl, rfl, trivial⟩
      obtain ⟨_, its, rv, o, h1, h2, n, h3⟩ := (show ObjOk X.prog X.w H s.heap tp (.tup cs) from I.hok tp _ hT)
      have e3 := ClsV.all k rv
      subst e3
      obtain ⟨oc, od, dt, sl⟩ := o
      simp only at h2 h3
      subst h2 h3
      exact PySem.W.kia_tup (PySem.W.handS_kitx_exc C.hg C.hk C.hs C.hd C.ha C.hn C.ht C.hm) I.kIn J h1 e (fun z => nomatch z) fun tk => ⟨.bl b, H, I.kept (t' := tk) fun _ _ z => z, rfl, q⟩
end
end Mi
end TxMiniT

section TxMiniZ
set_option Elab.async false
set_option linter.all false
set_option autoImplicit false
set_option maxRecDepth 100000
set_option maxHeartbeats 4000000
namespace Mi
open PySem PySem.Spec PyProof.Rows L2
section
variable {T : Tx} {P : Program} {w : World} {mg : Str → Option Value} {base : Heap}
theorem rs_start {ι : IA} {H : Hp} {N : List Str} {nl : Nat} {ms : List MV} {vs : List V} (hn : N.length = nl) (r : RVs T.K ι H ms vs) : RS T ι H (ms.map some ++ List.replicate (nl - ms.length) none) (L2.start N vs) := by
  have e := r.length
  refine ⟨by unfold L2.start; simp [hn, e], fun i m hm => ?_⟩
  by_cases hi : i < ms.length
  · rw [List.getElem?_append_left (by simpa using hi), List.getElem?_map] at hm
    obtain ⟨m', e1, e2⟩ := Option.map_eq_some_iff.mp hm
    cases e2
    obtain ⟨v, e3, e4⟩ := r.get e1
    refine ⟨v, ?_, e4⟩
    unfold L2.start
    rw [List.getElem?_append_left (by rw [List.length_map, ← e]; exact hi), List.getElem?_map, e3]
    rfl
  · rw [List.getElem?_append_right (by simp; omega), List.getElem?_replicate] at hm
    split at hm <;> cases hm
theorem fn_rd {E : XK} {body : WS} {np nl : Nat} {N : List Str} {vs : List V} {H : Hp} {Q : VK} (hn : N.length = nl) (h : spM T (fnM np nl body) vs H Q E) :
    canS T (fun cls d _ H => E cls d H) body { nx := fun _ H' => Q .non H', rt := Q } (L2.start N vs) H := by
  obtain ⟨ι, h, ms, Qm, Em, R, rv, q, x, l, m⟩ := h
  exact ⟨ι, h, _, ⟨fun _ h' => Qm .non h', Qm, fun _ _ => False, fun _ _ => False, fun c _ h' => Em c h'⟩, R, rs_start hn rv, ⟨fun σ h' m' ι' H' σ' R' X' _ => q _ _ m' _ _ _ R' X' .non', q, fun _ _ z => z.elim, fun _ _ z => z.elim, fun c σ h' hc m' ι' H' σ' R' X' _ => x c h' hc m' _ _ R' X'⟩, m⟩
theorem sp_len {E : XK} {body : WS} {np nl : Nat} {vs : List V} {H : Hp} {Q : VK} (h : spM T (fnM np nl body) vs H Q E) : vs.length = np := by
  obtain ⟨ι, h, ms, Qm, Em, R, rv, q, x, l, m⟩ := h
  rw [← rv.length]
  exact l
/-- a def keeps its reading -/
theorem fn_ok {x qual : Str} {params : Arguments} {stmts : List Stmt} {scope : Scope} {f : Addr} {fd : FuncData} {N ps : List Str} {k np nl : Nat} {body : WS} (F : FunD T.K x qual params stmts scope [] [] f fd) (S : FnScope N ps scope) (hp : ps.length = np) (hn : N.length = nl)
    (hb : ∀ (cdv : Value) (A : Around) (outer : List Env) (s : Shared) (H : Hp) (E : XK), Room k (A.deeper (envOfC qual scope s.heap.objs.size f cdv)) →
      PSs (cxOf (L2.CX P w) P w T.K mg base N qual scope f cdv A outer s H E) stmts (canS T (fun cls d _ H => E cls d H) body)) : FnOk P w T.K mg base (L2.CX P w) (k + 1) f fd ps (spM T (fnM np nl body)) :=
  F.ok S (fun vs H Q E h => by rw [hp]; exact sp_len h) fun cdv A outer s H vs Q E hr h => ⟨_, hb cdv A outer s H E hr, fn_rd hn h⟩
theorem fnM_mk {x : String} {params : Arguments} {stmts : List Stmt} {scope : Scope} {N ps : List Str} {k np nl : Nat} {body : WS} (D : ∃ fd, FunD T.K (st x) (st x) params stmts scope [] [] (He.ga T.K (st x)) fd) (at_ : mg (st x) = some (.ref (He.ga T.K (st x)))) (S : FnScope N ps scope) (hp : ps.length = np) (hn : N.length = nl)
    (hbi : ∀ (kV doc pm : Value) (an : Option Addr) (cdv ct : Value) (us : List Value), us.length = ps.length → bindArgs (PySem.W.fnOf (st x) (st x) params stmts scope .none kV doc pm an cdv ct) ⟨us, []⟩ = pure (ps.zip us))
    (hb : ∀ (cdv : Value) (A : Around) (outer : List Env) (s : Shared) (H : Hp) (E : XK), Room k (A.deeper (envOfC (st x) scope s.heap.objs.size (He.ga T.K (st x)) cdv)) →
      PSs (cxOf (L2.CX P w) P w T.K mg base N (st x) scope (He.ga T.K (st x)) cdv A outer s H E) stmts (canS T (fun cls d _ H => E cls d H) body)) : FnM T P w mg base (k + 1) x ps (fnM np nl body) := by
  obtain ⟨fd, F⟩ := D
  exact ⟨⟨fd, fn_ok F S hp hn hb, F.bindsN hbi, let ⟨oc, od, _, _, _, _, _, _, _, osl, _, l, _⟩ := F.ex; ⟨oc, od, osl, l⟩⟩, at_, F.kp⟩
theorem mtM_mk {c m : String} {q : Str} {params : Arguments} {stmts : List Stmt} {scope : Scope} {N ps : List Str} {k np nl : Nat} {body : WS} (D : ∃ fd, FunD T.K (st m) q params stmts scope [] [] (He.ma T.K (clA T.K c) (st m)) fd) (at_ : Meth T.K (clA T.K c) (st m) (He.ma T.K (clA T.K c) (st m))) (S : FnScope N ps scope) (hp : ps.length = np) (hn : N.length = nl)
    (hbi : ∀ (kV doc pm : Value) (an : Option Addr) (cdv ct : Value) (us : List Value), us.length = ps.length → bindArgs (PySem.W.fnOf (st m) q params stmts scope .none kV doc pm an cdv ct) ⟨us, []⟩ = pure (ps.zip us))
    (hb : ∀ (cdv : Value) (A : Around) (outer : List Env) (s : Shared) (H : Hp) (E : XK), Room k (A.deeper (envOfC q scope s.heap.objs.size (He.ma T.K (clA T.K c) (st m)) cdv)) →
      PSs (cxOf (L2.CX P w) P w T.K mg base N q scope (He.ma T.K (clA T.K c) (st m)) cdv A outer s H E) stmts (canS T (fun cls d _ H => E cls d H) body)) : MtM T P w mg base (k + 1) c m ps (fnM np nl body) := by
  obtain ⟨fd, F⟩ := D
  exact ⟨⟨fd, fn_ok F S hp hn hb, F.bindsN hbi⟩, at_⟩
theorem mkM_mk {c : String} {q : Str} {params : Arguments} {stmts : List Stmt} {scope : Scope} {N ps : List Str} {k np nl : Nat} {body : WS} (cl : c ∈ T.Cl) (D : ∃ fd, FunD T.K (st "__init__") q params stmts scope [] [] (He.ma T.K (clA T.K c) (st "__init__")) fd) (mk : Mk T.K (clA T.K c) (He.ma T.K (clA T.K c) (st "__init__"))) (at_ : mg (st c) = some (.ref (clA T.K c))) (S : FnScope N ps scope) (hp : ps.length = np) (hn : N.length = nl)
    (hbi : ∀ (kV doc pm : Value) (an : Option Addr) (cdv ct : Value) (us : List Value), us.length = ps.length → bindArgs (PySem.W.fnOf (st "__init__") q params stmts scope .none kV doc pm an cdv ct) ⟨us, []⟩ = pure (ps.zip us))
    (hb : ∀ (cdv : Value) (A : Around) (outer : List Env) (s : Shared) (H : Hp) (E : XK), Room k (A.deeper (envOfC q scope s.heap.objs.size (He.ma T.K (clA T.K c) (st "__init__")) cdv)) →
      PSs (cxOf (L2.CX P w) P w T.K mg base N q scope (He.ma T.K (clA T.K c) (st "__init__")) cdv A outer s H E) stmts (canS T (fun cls d _ H => E cls d H) body)) : MkM T P w mg base (k + 1) c ps (fnM np nl body) := by
  obtain ⟨fd, F⟩ := D
  exact ⟨cl, ⟨fd, fn_ok F S hp hn hb, F.bindsN hbi⟩, mk, at_⟩
/-! ### the law -/
/-- nothing is let out -/
theorem nox_ok {k : Nat} {f : Addr} {fd : FuncData} {ps : List Str} {sp : Sp} (F : FnOk P w T.K mg base (L2.CX P w) k f fd ps sp) : FnOk P w T.K mg base L2.CX0 k f fd ps fun vs H Q _ => sp vs H Q fun _ _ _ => False :=
  ⟨fun vs H Q E h => F.len _ _ _ _ h, fun A outer s H args us vs Q E hr he hb hv hs => codeAny_mono (F.run A outer s H args us vs Q _ hr he hb hv hs) fun r s' hq => by
    cases r with
    | ok fl => cases fl <;> exact hq
    | error e =>
      obtain ⟨_, _, _, _, _, _, _, _, _, _, _, _, z⟩ := hq
      exact z.elim⟩
def h0 : MH := fun _ => []
theorem law_sp {F : WF} {H : Hp} {a : Addr} {ns : List Int} (hO : Only H) (hS : L2.SqL T.K H a (ns.map V.int)) (h : F [.cst (ns.map .int)] h0 (fun v _ => v = .bl true) fun _ _ => False) : spM T F [.ref a] H (fun v _ => v = .bl true) fun _ _ _ => False := by
  have c : SqC T.K H a (ns.map V.int) := by
    rcases hS with (e | ⟨o, e⟩) | e
    · rcases hO a with z | ⟨o, xs, z⟩
      · rw [z] at e; cases e
      · rw [z] at e; cases e
    · exact .inl ⟨o, e⟩
    · exact .inr e
  have rv : ∀ ns : List Int, RVs T.K (fun _ => []) H (ns.map .int) (ns.map V.int) := fun ns => by
    induction ns with
    | nil => exact RVs.nil
    | cons n ns ih => exact RVs.cons .int' ih
  refine ⟨fun _ => [], h0, _, _, _, ⟨fun _ => rfl, fun r i o p e => by simp [h0] at e, fun r i r' i' p e => by simp at e⟩, RVs.one (v := .ref a) ?_, ?_, fun c h' _ z => z.elim, h⟩
  · unfold RV
    exact ⟨a, _, rfl, c, rv ns⟩
  · intro v h' e ι' H' u R X r
    subst e
    exact r.bl_
end
/-! ### the head's facts, with a look of one's own -/
abbrev AlM : Type := He.AlD × Bool
def obsM (fa : List He.Fa) (fn : List He.DefD) (ex : PySem.W.Frag → Bool) (K : PySem.W.Frag) : AlM := (He.obsD fa fn K, ex K)
def valM (fn : List He.DefD) : AlM := (He.valD fn, true)
def SaysM (fa : List He.Fa) (fn : List He.DefD) (ex : PySem.W.Frag → Bool) (K : PySem.W.Frag) : Prop := obsM fa fn ex K = valM fn
def obsMG (n : Nat) (fa : List He.Fa) (fn : List He.DefD) (ex : PySem.W.Frag → Bool) (g : Addr → Option Obj) : AlM := obsM fa fn ex (He.frG g (He.asD g n))
def hookM (n : Nat) (fa : List He.Fa) (fn : List He.DefD) (ex : PySem.W.Frag → Bool) : PySem.W.Hook where
  α := AlM
  obs := fun s => obsMG n fa fn ex s.heap.get?
  val := fun _ => valM fn
  says := fun _ h => ∃ K : PySem.W.Frag, K.In h ∧ SaysM fa fn ex K
  of := fun _ _ e => ⟨_, He.frG_in, e⟩
  keeps := fun _ _ _ ⟨K, hK, c⟩ k => ⟨K, PySem.W.Frag.In.keeps hK k, c⟩
theorem obsMG_eq {n : Nat} {fa : List He.Fa} {fn : List He.DefD} {ex : PySem.W.Frag → Bool} {g : Addr → Option Obj} {s : Shared} (h : ∀ a, g a = s.heap.get? a) : obsMG n fa fn ex g = (hookM n fa fn ex).obs s := by
  have e : g = s.heap.get? := funext h
  rw [e] <;> rfl
section
variable {fa : List He.Fa} {fn : List He.DefD} {ex : PySem.W.Frag → Bool} {K : PySem.W.Frag}
theorem SaysM.d (c : SaysM fa fn ex K) : He.SaysD fa fn K := congrArg (fun z : AlM => z.1) c
theorem SaysM.x (c : SaysM fa fn ex K) : ex K = true := congrArg (fun z : AlM => z.2) c
theorem SaysM.fact (c : SaysM fa fn ex K) (i : Nat) {f : He.Fa} (h : fa[i]? = some f := by rfl) : f.ok K = true := c.d.fact i h
theorem SaysM.facts (c : SaysM fa fn ex K) {f : He.Fa} (h : f ∈ fa) : f.ok K = true := by
  obtain ⟨i, hi, e⟩ := List.mem_iff_getElem.mp h
  exact c.fact i (f := f) (by rw [List.getElem?_eq_getElem hi, e])
end
end Mi
end TxMiniZ

section TxMiniX
set_option Elab.async false
set_option linter.all false
set_option autoImplicit false
set_option maxRecDepth 100000
set_option maxHeartbeats 4000000
namespace Mi
open PySem PySem.Spec PyProof.Rows L2
/-! ### facts of the text, in bundles -/
/-- an error class that is raised -/
structure ExF (T : Tx) (mg : Str → Option Value) (c : String) : Prop where
  er : c ∈ T.Er
  q : PySem.W.excIn T.K (clA T.K c) He.veBase "ValueError.__new__" = true
  at_ : mg (st c) = some (.ref (clA T.K c))
  kp : PySem.W.keepIn T.K (.ref (clA T.K c)) = true
  sb : PySem.W.subIn T.K (.ref (clA T.K c)) (.type "BaseException") = some true
  ty : PySem.W.typeIn T.K (.ref (clA T.K c)) = some (.type "type")
/-- an error class that is caught -/
structure TrF (T : Tx) (mg : Str → Option Value) (c : String) : Prop where
  at_ : mg (st c) = some (.ref (clA T.K c))
  ex : ∀ d ∈ T.Er, PySem.W.exmOne T.K (.ref (clA T.K d)) (.ref (clA T.K c)) = some (isSub d c)
/-- what isinstance asks of errors -/
structure IsF (T : Tx) (mg : Str → Option Value) (ds : List String) : Prop where
  ec : ∀ c ∈ T.Er, ExcC T.K (clA T.K c)
  kt : ∀ c ∈ T.Er, ∀ d ∈ ds, PySem.W.kitOne T.K (.ref (clA T.K c)) (.ref (clA T.K d)) = some (isSub c d)
  kv : ∀ c ∈ T.Er, PySem.W.kitOne T.K (.ref (clA T.K c)) (.type "ValueError") = some true
  at_ : ∀ d ∈ ds, mg (st d) = some (.ref (clA T.K d))
section
variable {T : Tx} {X : Cx} {W : WX} {pos pos' : Pos}
theorem s_raise' {cn : String} {m : Str} {j : Nat} {p p2 : Pos} (f : ExF T X.mg cn) (hK : X.K = T.K) (hc : X.calm = true) (tk : Takes X W) (hg : Gl X (st cn)) (hdb : (st cn == ("__debug__" : Str)) = false) :
    PS X (.Raise (some (.Call (.Name (st cn) p) [.Constant (.str m) j p2] [] pos')) none pos) (canS T W (sRaise cn)) :=
  s_raise (x := Str.empty) hK hc tk f.er f.q f.at_ f.kp f.sb f.ty hg hdb
theorem TrF.names {cn : String} (f : TrF T X.mg cn) (hg : Gl X (st cn)) (hdb : (st cn == ("__debug__" : Str)) = false) : Names X (st cn) (.ref (clA T.K cn)) := ⟨hg, hdb, .inl f.at_⟩
theorem e_gint {x : String} {i : Int} (hm : ∃ t, X.mg (st x) = some (.int i t)) (hg : Gl X (st x)) (hdb : (st x == ("__debug__" : Str)) = false) : PE X (.Name (st x) pos) (canE T W (wC (.int i))) := by
  obtain ⟨t, hm⟩ := hm
  exact e_con (pe_glob (v := .int i) hg hm ⟨t, rfl⟩ hdb) fun _ _ => .int'
theorem e_gtup {x : String} {ms : List MV} {vs : List V} (hm : X.mg (st x) = some (.ref (He.ga T.K (st x)))) (hS : ∀ H, L2.SqT T.K H (He.ga T.K (st x)) vs) (hr : ∀ ι H, RVs T.K ι H ms vs) (hg : Gl X (st x)) (hdb : (st x == ("__debug__" : Str)) = false) :
    PE X (.Name (st x) pos) (canE T W (wC (.tup ms))) :=
  e_con (pe_glob (v := .ref _) hg hm rfl hdb) fun ι H => by unfold RV; exact ⟨_, vs, rfl, hS H, hr ι H⟩
/-! isinstance(e, ..) -/
variable {a : Addr} {oe : Obj} {pn : List (Addr × Obj)} {c : String} {ds : List String} {i : Nat} {n : Str} {p p2 p3 : Pos}
theorem is_slot {Q : VK} {σ : L2.St} {H : Hp} {b : Bool} (r : canE T W0 (wIsE i a b) σ H Q) : σ[i]? = some (some (.ref a)) ∧ ∃ ι h Qm, Rel T ι h H ∧ PQ T ι H Qm Q ∧ Qm (.bl b) h := by
  obtain ⟨ι, h, σm, Qm, Em, R, s, q, x, m1, m2⟩ := r
  obtain ⟨v, e1, e2⟩ := s.2 i _ m1
  have e2 : v = .ref a := by unfold RV at e2; exact e2
  subst e2
  exact ⟨e1, ι, h, Qm, R, q, m2⟩
theorem e_isE {d : String} (hK : X.K = T.K) (f : IsF T X.mg ds) (hc : c ∈ T.Er) (hd : d ∈ ds) (hz : Zc (.ref (clA T.K c)) none oe) (hv : ∃ vs, oe.data = .fields vs) (hg : Gl X "isinstance") (hm : X.mg "isinstance" = none) (he : PE (X.suite a ((a, oe) :: pn)) (.Name n p2) (L2.tVar i))
    (hgd : Gl X (st d)) (hdb : (st d == ("__debug__" : Str)) = false)
    (hs : starEach [.Name n p2, .Name (st d) p3] X.env = (false, eval (.Name n p2) X.env) :: starEach [.Name (st d) p3] X.env := by rfl) (hpl : (backTo pos (starEach [.Name (st d) p3] X.env)).any (·.1) = false := by rfl) :
    PE (X.suite a ((a, oe) :: pn)) (.Call (.Name "isinstance" p) [.Name n p2, .Name (st d) p3] [] pos) (canE T W0 (wIsE i a (isSub c d))) := by
  have ec := f.ec c hc
  have kt := f.kt c hc d hd
  rw [← hK] at ec kt hz
  refine PE.le (pe_callB (X := X.suite a ((a, oe) :: pn)) (call_isE ec hz hv) hg hm (by decide +kernel) (pa_cons he (pa_cons (pe_glob (X := X.suite a ((a, oe) :: pn)) (v := .ref (clA T.K d)) hgd (f.at_ d hd) rfl hdb) pa_nil) hs) (by decide) (by decide) hs hpl) fun σ H Q r => ?_
  obtain ⟨e1, ι, h, Qm, R, q, m⟩ := is_slot r
  exact ⟨_, e1, .ref (clA T.K d), .ref (clA T.K d), isSub c d, rfl, fun u r => r, by rw [hK] at kt ⊢; exact kt, q.here R m .bl'⟩
theorem e_isV (hK : X.K = T.K) (f : IsF T X.mg ds) (hc : c ∈ T.Er) (hz : Zc (.ref (clA T.K c)) none oe) (hv : ∃ vs, oe.data = .fields vs) (hg : Gl X "isinstance") (hm : X.mg "isinstance" = none) (he : PE (X.suite a ((a, oe) :: pn)) (.Name n p2) (L2.tVar i))
    (hgd : Gl X "ValueError") (hmd : X.mg "ValueError" = none)
    (hs : starEach [.Name n p2, .Name "ValueError" p3] X.env = (false, eval (.Name n p2) X.env) :: starEach [.Name "ValueError" p3] X.env := by rfl) (hpl : (backTo pos (starEach [.Name "ValueError" p3] X.env)).any (·.1) = false := by rfl) :
    PE (X.suite a ((a, oe) :: pn)) (.Call (.Name "isinstance" p) [.Name n p2, .Name "ValueError" p3] [] pos) (canE T W0 (wIsE i a true)) := by
  have ec := f.ec c hc
  have kt := f.kv c hc
  rw [← hK] at ec kt hz
  refine PE.le (pe_callB (X := X.suite a ((a, oe) :: pn)) (call_isE ec hz hv) hg hm (by decide +kernel) (pa_cons he (pa_cons (pe_bltn (X := X.suite a ((a, oe) :: pn)) (v := .ty "ValueError") hgd hmd (by decide +kernel) rfl) pa_nil) hs) (by decide) (by decide) hs hpl) fun σ H Q r => ?_
  obtain ⟨e1, ι, h, Qm, R, q, m⟩ := is_slot r
  exact ⟨_, e1, .ty "ValueError", .type "ValueError", true, rfl, fun u r => r, by rw [hK] at kt ⊢; exact kt, q.here R m .bl'⟩
theorem kitAny_of {K : PySem.W.Frag} {t : Value} {f : String → Bool} {g : String → Value} : ∀ {es : List String}, (∀ d ∈ es, PySem.W.kitOne K t (g d) = some (f d)) → PySem.W.kitAny K t (es.map g) = some (es.any f)
  | [], _ => rfl
  | d :: es, h => by
    have h1 := h d List.mem_cons_self
    have h2 := kitAny_of (fun d hd => h d (List.mem_cons_of_mem _ hd))
    show PySem.W.kitAny K t (g d :: es.map g) = _
    unfold PySem.W.kitAny
    rw [h1, List.any_cons]
    cases f d with
    | true => rfl
    | false => rw [Bool.false_or]; exact h2
theorem paired_cls {K : PySem.W.Frag} : ∀ es : List String, Paired ClsV (es.map fun d => V.ref (clA K d)) (es.map fun d => Value.ref (clA K d))
  | [] => .nil
  | d :: es => .cons (.own _) (paired_cls es)
theorem e_isET {es : List String} {xs : List Expr} {t : TA} {k : Nat} {p4 : Pos} (hK : X.K = T.K) (f : IsF T X.mg ds) (hc : c ∈ T.Er) (hd : ∀ d ∈ es, d ∈ ds) (hl : es.length ≤ 100) (hz : Zc (.ref (clA T.K c)) none oe) (hv : ∃ vs, oe.data = .fields vs) (hg : Gl X "isinstance") (hm : X.mg "isinstance" = none) (he : PE (X.suite a ((a, oe) :: pn)) (.Name n p2) (L2.tVar i))
    (ha : PA (X.suite a ((a, oe) :: pn)) xs t) (ht : ∀ σ H Q, Q (es.map fun d => V.ref (clA T.K d)) H → t σ H Q)
    (hs : starEach [.Name n p2, .Tuple xs k p4] X.env = (false, eval (.Name n p2) X.env) :: starEach [.Tuple xs k p4] X.env := by rfl) (hpl : (backTo pos (starEach [.Tuple xs k p4] X.env)).any (·.1) = false := by rfl)
    (hs2 : starEach [.Tuple xs k p4] X.env = (false, eval (.Tuple xs k p4) X.env) :: starEach [] X.env := by rfl) :
    PE (X.suite a ((a, oe) :: pn)) (.Call (.Name "isinstance" p) [.Name n p2, .Tuple xs k p4] [] pos) (canE T W0 (wIsE i a (es.any (isSub c)))) := by
  have ec := f.ec c hc
  have kt := kitAny_of (K := T.K) (g := fun d => Value.ref (clA T.K d)) (fun d h => f.kt c hc d (hd d h))
  rw [← hK] at ec kt hz
  refine PE.le (pe_callB (X := X.suite a ((a, oe) :: pn)) (call_isET ec hz hv) hg hm (by decide +kernel) (pa_cons he (pa_cons (pe_tup ha) pa_nil hs2) hs) (by decide) (by decide) hs hpl) fun σ H Q r => ?_
  obtain ⟨e1, ι, h, Qm, R, q, m⟩ := is_slot r
  refine ⟨_, e1, ht _ _ _ ⟨?_, fun tp htp => ?_⟩⟩
  · rw [List.length_map, sizeLine_eq]; omega
  · obtain ⟨R2, X2⟩ := aside (O := .tup (es.map fun d => V.ref (clA T.K d))) R htp
    refine ⟨tp, _, _, es.any (isSub c), rfl, upd_same, paired_cls es, ?_, q _ _ m _ _ _ R2 X2 .bl'⟩
    rw [hK] at kt ⊢
    exact kt
end
end Mi
namespace Mi
open PySem PySem.Spec PyProof.Rows L2
/-- the classes of instances -/
abbrev ClsF (T : Tx) : Prop := ∀ c ∈ T.Cl, Cls T.K (clA T.K c)
/-- a field's name, no attribute of a class -/
structure NoF (T : Tx) (f : String) : Prop where
  na : ∀ c ∈ T.Cl, NoAttr T.K (clA T.K c) (st f)
  mem : f ∈ T.Fl
theorem kit_int (K : PySem.W.Frag) : ∀ t ∈ tyNames, PySem.W.kitOne K (.type t) (.type "int") = some (tySub t "int") := fun t ht => kit_ty (by revert t; decide +kernel)
theorem kit_bool (K : PySem.W.Frag) : ∀ t ∈ tyNames, PySem.W.kitOne K (.type t) (.type "bool") = some (tySub t "bool") := fun t ht => kit_ty (by revert t; decide +kernel)
theorem kit_str (K : PySem.W.Frag) : ∀ t ∈ tyNames, PySem.W.kitOne K (.type t) (.type "str") = some (tySub t "str") := fun t ht => kit_ty (by revert t; decide +kernel)
theorem kit_list (K : PySem.W.Frag) : ∀ t ∈ tyNames, PySem.W.kitOne K (.type t) (.type "list") = some (tySub t "list") := fun t ht => kit_ty (by revert t; decide +kernel)
theorem kit_tuple (K : PySem.W.Frag) : ∀ t ∈ tyNames, PySem.W.kitOne K (.type t) (.type "tuple") = some (tySub t "tuple") := fun t ht => kit_ty (by revert t; decide +kernel)
end Mi
namespace Mi
open PySem PySem.Spec PyProof.Rows L2
/-! looks at what the top has made -/
def excCB (K : PySem.W.Frag) (D : Addr) : Bool :=
  He.eqO (PySem.W.findIn K (.ref D) "__getattribute__") (some (some (.builtin "BaseException.__getattribute__"))) && (He.eqO (PySem.W.findIn K (.ref D) "__getattr__") (some none) &&
  (decide (PySem.W.subIn K (.ref D) (.type "BaseException") = some true) && (PySem.W.hasDictIn K D && (He.eqO (PySem.W.findIn K (.ref D) "__class__") (some (some (.builtin "object.__class__"))) &&
  (He.eqO (PySem.W.specialIn K (.builtin "object.__class__") "__get__") (some (some (.builtin "getset_descriptor.__get__"))) && (decide (PySem.W.takesIn K (.builtin "object.__class__") = some true) && decide (PySem.W.mroIn K D (.type "object") = some true)))))))
theorem excC_of {K : PySem.W.Frag} {D : Addr} (h : excCB K D = true) : ExcC K D := by
  obtain ⟨h1, h⟩ := He.ba h
  obtain ⟨h2, h⟩ := He.ba h
  obtain ⟨h3, h⟩ := He.ba h
  obtain ⟨h4, h⟩ := He.ba h
  obtain ⟨h5, h⟩ := He.ba h
  obtain ⟨h6, h⟩ := He.ba h
  obtain ⟨h7, h8⟩ := He.ba h
  exact ⟨He.eqO_ok h1, He.eqO_ok h2, of_decide_eq_true h3, h4, He.eqO_ok h5, He.eqO_ok h6, of_decide_eq_true h7, of_decide_eq_true h8⟩
def isChk (er ds : List String) (K : PySem.W.Frag) : Bool := er.all fun c => excCB K (clA K c) && (decide (PySem.W.kitOne K (.ref (clA K c)) (.type "ValueError") = some true) && ds.all fun d => decide (PySem.W.kitOne K (.ref (clA K c)) (.ref (clA K d)) = some (isSub c d)))
theorem isF_of {T : Tx} {mg : Str → Option Value} {ds : List String} (h : isChk T.Er ds T.K = true) (g : ∀ d ∈ ds, mg (st d) = some (.ref (clA T.K d))) : IsF T mg ds := by
  have k := List.all_eq_true.mp h
  refine ⟨fun c hc => excC_of (He.ba (k c hc)).1, fun c hc d hd => ?_, fun c hc => of_decide_eq_true (He.ba (He.ba (k c hc)).2).1, g⟩
  exact of_decide_eq_true (List.all_eq_true.mp (He.ba (He.ba (k c hc)).2).2 d hd)
def trChk (er : List String) (c : String) (K : PySem.W.Frag) : Bool := er.all fun d => decide (PySem.W.exmOne K (.ref (clA K d)) (.ref (clA K c)) = some (isSub d c))
theorem trF_of {T : Tx} {mg : Str → Option Value} {c : String} (h : trChk T.Er c T.K = true) (g : mg (st c) = some (.ref (clA T.K c))) : TrF T mg c :=
  ⟨g, fun d hd => of_decide_eq_true (List.all_eq_true.mp h d hd)⟩
theorem exF_of {T : Tx} {mg : Str → Option Value} {c : String} (er : c ∈ T.Er) (h : (He.Fa.exc (st c)).ok T.K = true) (g : mg (st c) = some (.ref (clA T.K c))) : ExF T mg c :=
  let ⟨a, b, d, e⟩ := He.exc_ok h
  ⟨er, a, g, b, d, e⟩
end Mi
end TxMiniX

section TxMiniI
set_option Elab.async false
set_option linter.all false
set_option autoImplicit false
set_option maxRecDepth 100000
set_option maxHeartbeats 4000000
namespace Mi
open PySem PySem.Spec PyProof.Rows L2
section
variable {T : Tx} {X : Cx}
/-! ### xs.index(x) -/
theorem eqs_of {ι : IA} {H : Hp} {m : MV} {v : V} (r : RV T.K ι H m v) (f : Mi.flat m = true) : ∀ {ms : List MV} {vs : List V}, RVs T.K ι H ms vs → ms.all Mi.flat = true → vs.all flatV = true ∧ vs.map (fun y => eqV y v) = ms.map fun y => eqF y m
  | [], vs, rs, _ => by
    unfold RVs at rs; subst rs
    exact ⟨rfl, rfl⟩
  | m1 :: ms, vs, rs, h => by
    cases vs with
    | nil => exact absurd rs.length (by simp)
    | cons v1 vs =>
      unfold RVs at rs
      obtain ⟨_, _, ez, r1, r2⟩ := rs
      cases ez
      simp only [List.all_cons, Bool.and_eq_true] at h
      obtain ⟨a, b⟩ := flat_of r1 h.1
      obtain ⟨c, d⟩ := eqs_of r f r2 h.2
      refine ⟨by simp [a, c], ?_⟩
      rw [List.map_cons, List.map_cons, d, b m v r f]
theorem items_eq {A : Around} {s : Shared} {x : V} {w : Value} : ∀ {vs : List V} {its : List Value}, Vals vs its → L2.RelV x w → vs.all flatV = true → flatV x = true →
    ∀ (j : Nat) (h1 : j < its.length) (h2 : j < (vs.map fun y => eqV y x).length), SeqAt.EqAt A s its[j] w (decide ((vs.map fun y => eqV y x)[j] = true))
  | [], _, e, _, _, _, j, h1, h2 => absurd h2 (Nat.not_lt_zero j)
  | y :: vs, _, .cons (b := u) a e, r, h, hx, j, h1, h2 => by
    simp only [List.all_cons, Bool.and_eq_true] at h
    cases j with
    | zero => simpa using eqAt_V (A := A) (s := s) a r h.1 hx
    | succ j => exact items_eq e r h.2 hx j (Nat.lt_of_succ_lt_succ h1) (Nat.lt_of_succ_lt_succ h2)
theorem m_index (hK : X.K = T.K) : MtR X "list.index" (canM T mIndex) := by
  intro pins s σ H x xs v us Q I rx rv c
  obtain ⟨ι, h, mx, ms, Qm, R, r1, rs, q, m⟩ := c
  unfold mIndex at m
  split at m
  rotate_left
  · exact m.elim
  · rename_i x1 y h1 Q1
    obtain ⟨u, rfl, r2⟩ := rs.one_
    obtain ⟨w, rfl, rw_⟩ : ∃ w, us = [w] ∧ L2.RelV u w := by
      cases rv with
      | cons a b => cases b with
        | nil => exact ⟨_, rfl, a⟩
    split at m
    rotate_left
    · exact m.elim
    · rename_i ys ea
      obtain ⟨m1, m2, m3, m4, m5⟩ := m
      have lay : ∃ p vs, x = .ref p ∧ L2.SqL X.K H p vs ∧ RVs T.K ι H ys vs := by
        cases mx with
        | cst zs =>
          cases ea
          obtain ⟨p, vs, rfl, e1, e2⟩ := r1.cst_
          exact ⟨p, vs, rfl, by rw [hK]; exact e1.l, e2⟩
        | ref r i =>
          have ea : (match rd h r i with
            | some (.lst xs) => some xs
            | _ => none) = some ys := ea
          split at ea
          · rename_i zs eb
            cases ea
            obtain ⟨p, vs, rfl, e0, e1, e2⟩ := R.lst_ r1 eb
            exact ⟨p, vs, rfl, SqL.of e1, e2⟩
          · cases ea
        | _ => cases ea
      obtain ⟨p, vs, rfl, e1, e2⟩ := lay
      obtain ⟨f1, f2⟩ := eqs_of r2 m1 e2 m2
      obtain ⟨fx, _⟩ := flat_of r2 m1
      obtain rfl : v = Value.ref p := rx
      obtain ⟨its, e4, e5, e6⟩ := I.list e1
      refine SeqAt.call_list_index (α := Bool) (vs := its) (ks := vs.map fun y => eqV y u) (k := true) e5.isList ⟨?_, ?_⟩ ?_ ?_ ?_
      · rw [List.length_map, e4.length]
      · exact items_eq e4 rw_ f1 fx
      · rw [List.length_map]; exact e6
      · rw [f2]; exact m3
      · refine ⟨.int ((List.idxOf true (vs.map fun y => eqV y u) : Nat) : Int), H, I.tok _, ?_, ?_⟩
        · exact ⟨_, rfl⟩
        · rw [f2]
          exact q _ _ m5 _ _ _ R Ext.refl .int'
/-! ### is, of truths -/
theorem isSame_bl (a b : Bool) : isSame (.bool a) (.bool b) = pure (a == b) := by cases a <;> cases b <;> rfl
theorem o_isB : OpR X (compareOp .Is) (canR T oIsB) := by
  intro pins s σ H x y v u Q I rx ry c
  obtain ⟨ι, h, mx, my, Qm, R, r1, r2, q, m⟩ := c
  unfold oIsB at m
  split at m
  · rename_i a b
    cases r1.bl_; cases r2.bl_
    have e1 : v = .bool a := rx
    have e2 : u = .bool b := ry
    subst e1 e2
    show wpAny _ _ (isSame (.bool a) (.bool b) >>= fun z => pure (Value.bool z)) _ _ _
    rw [isSame_bl]
    exact wpAny_bind (wpAny_pure (wpAny_pure ⟨.bl _, H, I, rfl, q.here R m .bl'⟩))
  · exact m.elim
theorem o_notB : OpR X (compareOp .IsNot) (canR T oNotB) := by
  intro pins s σ H x y v u Q I rx ry c
  obtain ⟨ι, h, mx, my, Qm, R, r1, r2, q, m⟩ := c
  unfold oNotB at m
  split at m
  · rename_i a b
    cases r1.bl_; cases r2.bl_
    have e1 : v = .bool a := rx
    have e2 : u = .bool b := ry
    subst e1 e2
    show wpAny _ _ (isSame (.bool a) (.bool b) >>= fun z => pure (Value.bool !z)) _ _ _
    rw [isSame_bl]
    exact wpAny_bind (wpAny_pure (wpAny_pure ⟨.bl _, H, I, rfl, q.here R m .bl'⟩))
  · exact m.elim
variable {W : WX} {pos : Pos}
/-! ### zip, enumerate -/
theorem lst_of {ι : IA} {h : MH} {H : Hp} {m : MV} {v : V} {ys : List MV} (R : Rel T ι h H) (r : RV T.K ι H m v) (e : lstOf h m = some ys) : ∃ p vs, v = .ref p ∧ L2.SqL T.K H p vs ∧ RVs T.K ι H ys vs := by
  cases m with
  | cst zs =>
    cases e
    obtain ⟨p, vs, rfl, e1, e2⟩ := r.cst_
    exact ⟨p, vs, rfl, e1.l, e2⟩
  | ref q i =>
    have e : (match rd h q i with
      | some (.lst xs) => some xs
      | _ => none) = some ys := e
    split at e
    · rename_i zs eb
      cases e
      obtain ⟨p, vs, rfl, e0, e1, e2⟩ := R.lst_ r eb
      exact ⟨p, vs, rfl, SqL.of e1, e2⟩
    · cases e
  | _ => cases e
/-! ### targets of several names -/
def canGm (T : Tx) (W : WX) (gs : WGs) : L2.TGs := fun vs σ H Q => ∃ ι h σm ms Qm Em, Rel T ι h H ∧ RS T ι H σm σ ∧ RVs T.K ι H ms vs ∧ PP T ι H Qm Q ∧ PX T ι H Em (L2.WE W σ) ∧ gs ms σm h Qm Em
theorem PGs.le {ts : List Expr} {t t' : L2.TGs} (h : PGs X ts t) (le : ∀ vs σ H Q, t' vs σ H Q → t vs σ H Q) : PGs X ts t' := ⟨fun pins s σ H vs us Q I r q => h.run pins s σ H vs us Q I r (le _ _ _ _ q)⟩
theorem gs_nil : PGs X [] (canGm T W Mi.gNil) := PGs.le pgs_nil fun vs σ H Q ⟨ι, h, σm, ms, Qm, Em, R, s, r, q, x, m⟩ => by
  unfold Mi.gNil at m
  split at m
  · unfold RVs at r
    exact ⟨r, q _ _ m _ _ _ R Ext.refl s⟩
  · exact m.elim
theorem gs_cons {e : Expr} {es : List Expr} {g : WG} {gs : WGs} (he : PG X e (canG T W g)) (hs : PGs X es (canGm T W gs))
    (h1 : (assignEach (e :: es) X.env).map (·.2) = assign e X.env :: (assignEach es X.env).map (·.2) := by rfl) : PGs X (e :: es) (canGm T W (Mi.gCons g gs)) :=
  PGs.le (pgs_cons he hs h1) fun vs σ H Q ⟨ι, h, σm, ms, Qm, Em, R, s, r, q, x, m⟩ => by
    unfold Mi.gCons at m
    split at m
    rotate_left
    · exact m.elim
    · rename_i v0 ms1
      unfold RVs at r
      obtain ⟨u, r0, rfl, e1, e2⟩ := r
      refine ⟨u, r0, rfl, ι, h, σm, v0, _, Em, R, s, e1, ?_, x, m⟩
      intro σ1 h1 m1 ι1 H1 σ2 R1 X1 s1
      exact ⟨ι1, h1, σ1, ms1, Qm, fun _ _ => False, R1, s1, RVs.ext R X1 _ _ e2, q.ext R1 X1, fun _ _ _ z => z.elim, m1⟩
theorem g_tup {es : List Expr} {k n : Nat} {gs : WGs} (hK : X.K = T.K) (hc : X.calm = true) (h : PGs X es (canGm T W gs)) (hn : (assignEach es X.env).length = n := by rfl) (hf : (assignEach es X.env).findIdx? (fun x => x.1) = none := by rfl) :
    PG X (.Tuple es k pos) (canG T W (Mi.gTup n gs)) := PG.le (pg_tup hc h hn hf) fun v σ H Q ⟨ι, h, σm, mv, Qm, Em, R, s, r, q, x, m⟩ => by
  unfold Mi.gTup at m
  split at m
  · obtain ⟨p, vs, rfl, e1, e2⟩ := r.tup_
    exact ⟨p, vs, rfl, by rw [hK]; exact e1, by rw [← e2.length]; exact m.1, ι, h, σm, _, Qm, Em, R, s, e2, q, x, m.2⟩
  · exact m.elim
theorem srcR_zip {ι : IA} {h : MH} {H : Hp} {m1 m2 : MV} {p1 p2 : Addr} {xs ys : List MV} (R0 : Rel T ι h H) (r1 : RV T.K ι H m1 (.ref p1)) (r2 : RV T.K ι H m2 (.ref p2)) :
    SrcR T ι H ⟨(xs.zip ys).map fun p => .tup [p.1, p.2], fun h' => lstOf h' m1 = some xs ∧ lstOf h' m2 = some ys⟩ (Itz T.K p1 p2) where
  go := fun j ι' h' H' R X c hj => by
    obtain ⟨q1, vs, e1, e2, e3⟩ := lst_of R (RV.ext R0 X _ _ r1) c.1
    obtain ⟨q2, us, e4, e5, e6⟩ := lst_of R (RV.ext R0 X _ _ r2) c.2
    cases e1; cases e4
    have hj : j < ((xs.zip ys).map fun p => MV.tup [p.1, p.2]).length := hj
    rw [List.length_map, List.length_zip, e3.length, e6.length] at hj
    exact ⟨vs, us, _, _, e2, e5, List.getElem?_eq_getElem (by omega), List.getElem?_eq_getElem (by omega)⟩
  yld := fun j ι' h' H' m x H'' R X c hm y => by
    obtain ⟨q1, vs, e1, e2, e3⟩ := lst_of R (RV.ext R0 X _ _ r1) c.1
    obtain ⟨q2, us, e4, e5, e6⟩ := lst_of R (RV.ext R0 X _ _ r2) c.2
    cases e1; cases e4
    obtain ⟨t, x1, x2, rfl, hn, rfl, y1, y2⟩ := y
    have hm : ((xs.zip ys).map fun p => MV.tup [p.1, p.2])[j]? = some m := hm
    rw [List.getElem?_map] at hm
    obtain ⟨⟨a, b⟩, z1, rfl⟩ := Option.map_eq_some_iff.mp hm
    rw [List.getElem?_zip_eq_some] at z1
    obtain ⟨v, w1, w2⟩ := e3.get z1.1
    obtain ⟨u, w3, w4⟩ := e6.get z1.2
    have := y1 vs e2; rw [w1] at this; cases this
    have := y2 us e5; rw [w3] at this; cases this
    exact tup_at R hn (RVs.cons w2 (RVs.one w4))
  stop := fun ι' h' H' R X c => by
    obtain ⟨q1, vs, e1, e2, e3⟩ := lst_of R (RV.ext R0 X _ _ r1) c.1
    obtain ⟨q2, us, e4, e5, e6⟩ := lst_of R (RV.ext R0 X _ _ r2) c.2
    cases e1; cases e4
    refine ⟨vs, us, e2, e5, ?_⟩
    show vs.length ≤ ((xs.zip ys).map fun p => MV.tup [p.1, p.2]).length ∨ us.length ≤ ((xs.zip ys).map fun p => MV.tup [p.1, p.2]).length
    rw [List.length_map, List.length_zip, e3.length, e6.length]
    omega
theorem srcR_enum {ι : IA} {h : MH} {H : Hp} {m1 : MV} {p1 : Addr} {xs : List MV} (R0 : Rel T ι h H) (r1 : RV T.K ι H m1 (.ref p1)) :
    SrcR T ι H ⟨enumF 0 xs, fun h' => lstOf h' m1 = some xs⟩ (Ite T.K p1) where
  go := fun j ι' h' H' R X c hj => by
    obtain ⟨q1, vs, e1, e2, e3⟩ := lst_of R (RV.ext R0 X _ _ r1) c
    cases e1
    have hj : j < (enumF 0 xs).length := hj
    rw [enumF_len, e3.length] at hj
    exact ⟨vs, _, e2, List.getElem?_eq_getElem hj⟩
  yld := fun j ι' h' H' m x H'' R X c hm y => by
    obtain ⟨q1, vs, e1, e2, e3⟩ := lst_of R (RV.ext R0 X _ _ r1) c
    cases e1
    obtain ⟨t, x1, rfl, hn, rfl, y1⟩ := y
    have hm : (enumF 0 xs)[j]? = some m := hm
    rw [enumF_at] at hm
    obtain ⟨a, z1, rfl⟩ := Option.map_eq_some_iff.mp hm
    obtain ⟨v, w1, w2⟩ := e3.get z1
    have := y1 vs e2; rw [w1] at this; cases this
    exact tup_at R hn (RVs.cons (by rw [Nat.zero_add]; exact .int') (RVs.one w2))
  stop := fun ι' h' H' R X c => by
    obtain ⟨q1, vs, e1, e2, e3⟩ := lst_of R (RV.ext R0 X _ _ r1) c
    cases e1
    refine ⟨vs, e2, ?_⟩
    show vs.length ≤ (enumF 0 xs).length
    rw [enumF_len, e3.length]
    exact Nat.le_refl _
theorem i_zip {a b : Expr} {ma mb : WE} {p tpos : Pos} {elts : List Expr} {kk : Nat} (hK : X.K = T.K) (hg : Gl X "zip") (hm : X.mg "zip" = none) (ha : PE X a (canE T W ma)) (hb : PE X b (canE T W mb))
    (hs : starEach [a, b] X.env = (false, eval a X.env) :: starEach [b] X.env := by rfl) (hs2 : starEach [b] X.env = [(false, eval b X.env)] := by rfl) (hpl : ((backTo pos (starEach [b] X.env)).any fun x => x.1) = false := by rfl) :
    PI X (.Tuple elts kk tpos) (.Call (.Name "zip" p) [a, b] [] pos) (canI T W (Mi.iZip ma mb)) := PI.le (pi_zip hg hm (pa_cons ha (pa_cons hb pa_nil (by rw [hs2]; rfl)) hs) hs hpl) fun σ H Rr ⟨ι, h, σm, Rm, Em, R, s, x, q, m⟩ => by
  refine canE_mk R s x m fun v h1 m1 ι1 H1 u R1 X1 s1 x1 r1 => ?_
  refine canE_mk R1 s1 x1 m1 fun v2 h2 m2 ι2 H2 u2 R2 X2 s2 x2 r2 => ?_
  have r1 := RV.ext R1 X2 _ _ r1
  split at m2
  · rename_i xs ys ea eb
    obtain ⟨p1, vs, rfl, e1, e2⟩ := lst_of R2 r1 ea
    obtain ⟨p2, us, rfl, e3, e4⟩ := lst_of R2 r2 eb
    exact ⟨p1, p2, vs, us, rfl, by rw [hK]; exact e1, by rw [hK]; exact e3, by rw [hK]; exact q _ _ m2 _ _ _ R2 (Ext.trans R1 X1 X2) (srcR_zip R2 r1 r2)⟩
  · exact m2.elim
theorem i_enum {a : Expr} {ma : WE} {p tpos : Pos} {elts : List Expr} {kk : Nat} (hK : X.K = T.K) (hg : Gl X "enumerate") (hm : X.mg "enumerate" = none) (ha : PE X a (canE T W ma))
    (hs : starEach [a] X.env = [(false, eval a X.env)] := by rfl) :
    PI X (.Tuple elts kk tpos) (.Call (.Name "enumerate" p) [a] [] pos) (canI T W (Mi.iEnum ma)) := PI.le (pi_enum hg hm (pa_cons ha pa_nil (by rw [hs]; rfl)) hs) fun σ H Rr ⟨ι, h, σm, Rm, Em, R, s, x, q, m⟩ => by
  refine canE_mk R s x m fun v h1 m1 ι1 H1 u R1 X1 s1 x1 r1 => ?_
  split at m1
  · rename_i xs ea
    obtain ⟨p1, vs, rfl, e1, e2⟩ := lst_of R1 r1 ea
    exact ⟨p1, vs, rfl, by rw [hK]; exact e1, by rw [hK]; exact q _ _ m1 _ _ _ R1 X1 (srcR_enum R1 r1)⟩
  · exact m1.elim
end
end Mi
end TxMiniI

section TxMiniJ
set_option Elab.async false
set_option linter.all false
set_option autoImplicit false
set_option maxRecDepth 100000
set_option maxHeartbeats 4000000
namespace Mi
open PySem PySem.Spec PyProof.Rows L2
/-! ### an error handed to a def, within the suite that holds it -/
/-- a def's promise where the object p stands aside -/
structure FnP (P : Program) (w : World) (K : PySem.W.Frag) (mg : Str → Option Value) (base : Heap) (k : Nat) (f : Addr) (fd : FuncData) (ps : List Str) (p : Addr × Obj) (sp : Sp) : Prop where
  len : ∀ vs H Q E, sp vs H Q E → vs.length = ps.length
  run : ∀ (A : Around) (fr : List Env) (s : Shared) (H : Hp) (gs : Args) (us : List Value) (vs : List V) (Q : VK) (E : XK), L2H.RoomH k A → L2H.PinOk fr H s p → Env0 P w K mg base A fr s H → BindsTo s fd gs (ps.zip us) → Vals vs us → sp vs H Q E → codeAny (model P w) A (.call (.ref f) gs) (CR (L2.CX P w) fr P w H s Q E) s
section
variable {T : Tx} {P : Program} {w : World} {mg : Str → Option Value} {base : Heap}
theorem fnP_of {x qual : Str} {params : Arguments} {stmts : List Stmt} {scope : Scope} {f : Addr} {fd : FuncData} {N ps : List Str} {k : Nat} {sp : Sp} {p : Addr × Obj} (F : FunD T.K x qual params stmts scope [] [] f fd) (S : FnScope N ps scope)
    (len : ∀ vs H Q E, sp vs H Q E → vs.length = ps.length)
    (hb : ∀ (cdv : Value) (A : Around) (fr : List Env) (s : Shared) (H : Hp) (vs : List V) (Q : VK) (E : XK), L2H.RoomH k (A.deeper (envOfC qual scope s.heap.objs.size f cdv)) → sp vs H Q E →
      ∃ t, PSs (L2H.cxH (L2.CX P w) P w T.K mg base N qual scope f cdv A fr s H E p) stmts t ∧ t { nx := fun _ H' => Q .non H', rt := Q } (start N vs) H) : FnP P w T.K mg base (k + 1) f fd ps p sp := by
  obtain ⟨o1, o2, dV, kV, doc, pm, an, cdv, ct, o3, rfl, lk, hcd, _, _⟩ := F.ex
  constructor
  · exact len
  intro A fr s H gs us vs Q E room pin env bto vals want
  have kin := env.mod.kin.keeps (fun b o e => (env.bs b o e).1 : ∀ b o, base.get? b = some o → s.heap.get? b = some o)
  have nol := env.mod.nolimit.keeps (fun b o e => (env.bs b o e).1 : ∀ b o, base.get? b = some o → s.heap.get? b = some o)
  have kinds : ∀ y ∈ ps.zip us, scope.names.lookup y.1 = some .local ∨ (scope.names.lookup y.1 = some .cell ∧ ((cellsFrom (s.heap.objs.size + 1) scope.names []).lookup y.1).isSome = true) := by
    intro y hy
    obtain ⟨n, v⟩ := y
    have m := (List.of_mem_zip hy).1
    exact (S.par n m).elim Or.inl fun q => Or.inr ⟨q, PySem.W.cellsFrom_some _ _ _ (Or.inl q)⟩
  refine codeAny_call_function room.depth (kin _ _ lk) rfl S.co S.gen rfl (PySem.W.codeRec_of kin hcd) (bto _ _ _ _ (wpAny_newFunctionEnv_cells S.kind kinds fun env' he s1 ic => ?_))
  subst he
  refine ⟨nol.keeps ic.toInCall.keep, codeAny_func ?_⟩
  obtain ⟨t, ht, hq⟩ := hb cdv A fr s H vs Q E (room.deeper _) want
  have I := L2H.inv_startH (CX := L2.CX P w) (E := E) S pin env (len _ _ _ _ want) vals ic
  have fin : ∀ {σ2 : L2.St} {H2 : Hp} {v : V} {u : Value} {s2 : Shared}, Inv (L2H.cxH (L2.CX P w) P w T.K mg base N qual scope f cdv A fr s H E p) [] σ2 H2 s2 → RelV v u → Q v H2 → CE fr P w H s Q u s2 := fun J rv q => ⟨_, _, J.os, J.bare, J.base, J.hok, rv, q⟩
  refine wpAny_mono (ht.run [] s1 _ H _ I hq) (fun fl s2 hs => ?_) (fun _ _ z => z)
  match fl, hs with
  | .ret u, ⟨v, σ2, H2, J, rv, q⟩ => exact fin J rv q
  | .next, ⟨σ2, H2, J, q⟩ => exact fin (v := V.non) (u := Value.none) J rfl q
  | .brk, ⟨_, _, _, q⟩ => exact q.elim
  | .cont, ⟨_, _, _, q⟩ => exact q.elim
/-- a def that is handed an error of class c at address a -/
structure FnE (T : Tx) (P : Program) (w : World) (mg : Str → Option Value) (base : Heap) (k : Nat) (x : String) (ps : List Str) (G : String → Nat → WF) : Prop where
  ok : ∃ fd, (∀ (c : String) (p : Addr × Obj), c ∈ T.Er → Zc (.ref (clA T.K c)) none p.2 → (∃ vs, p.2.data = .fields vs) → FnP P w T.K mg base k (He.ga T.K (st x)) fd ps p (spM T (G c p.1))) ∧ Binds T.K fd ps []
  at_ : mg (st x) = some (.ref (He.ga T.K (st x)))
  kp : PySem.W.keepIn T.K (.ref (He.ga T.K (st x))) = true
theorem fnE_mk {x : String} {params : Arguments} {stmts : List Stmt} {scope : Scope} {N ps : List Str} {k np nl : Nat} {body : String → Nat → WS} (D : ∃ fd, FunD T.K (st x) (st x) params stmts scope [] [] (He.ga T.K (st x)) fd) (at_ : mg (st x) = some (.ref (He.ga T.K (st x)))) (S : FnScope N ps scope) (hp : ps.length = np) (hn : N.length = nl)
    (hbi : ∀ (kV doc pm : Value) (an : Option Addr) (cdv ct : Value) (us : List Value), us.length = ps.length → bindArgs (PySem.W.fnOf (st x) (st x) params stmts scope .none kV doc pm an cdv ct) ⟨us, []⟩ = pure (ps.zip us))
    (hb : ∀ (c : String) (p : Addr × Obj), c ∈ T.Er → Zc (.ref (clA T.K c)) none p.2 → (∃ vs, p.2.data = .fields vs) → ∀ (cdv : Value) (A : Around) (fr : List Env) (s : Shared) (H : Hp) (E : XK), L2H.RoomH k (A.deeper (envOfC (st x) scope s.heap.objs.size (He.ga T.K (st x)) cdv)) →
      PSs (L2H.cxH (L2.CX P w) P w T.K mg base N (st x) scope (He.ga T.K (st x)) cdv A fr s H E p) stmts (canS T (fun cls d _ H => E cls d H) (body c p.1))) : FnE T P w mg base (k + 1) x ps (fun c a => fnM np nl (body c a)) := by
  obtain ⟨fd, F⟩ := D
  refine ⟨⟨fd, fun c p hc hz hv => fnP_of F S (fun vs H Q E h => by rw [hp]; exact sp_len h) fun cdv A fr s H vs Q E hr h => ⟨_, hb c p hc hz hv cdv A fr s H E hr, fn_rd hn h⟩, F.bindsN hbi⟩, at_, F.kp⟩
end
section
variable {T : Tx} {X : Cx} {W : WX} {pos pos' : Pos} {k j : Nat} {x c : String} {ps : List Str} {G : String → Nat → WF} {es : List Expr} {as : WA} {a : Addr} {oe : Obj}
/-- the call within the suite -/
theorem e_callX {e : Expr} {p : Pos} (hK : X.K = T.K) (tk : Takes X W) (hp : (a, oe) ∈ X.pn) (hc : c ∈ T.Er) (hz : Zc (.ref (clA T.K c)) none oe) (hv : ∃ vs, oe.data = .fields vs) (f : FnE T X.prog X.w X.mg X.base j x ps G) (hj : j ≤ k) (hr : L2H.RoomH k X.A) (hg : Gl X (st x)) (ha : PA X (e :: es) (canA T W as)) (hdb : (st x == ("__debug__" : Str)) = false)
    (he : starEach (e :: es) X.env = (false, eval e X.env) :: starEach es X.env := by rfl) (hpl : (backTo pos (starEach es X.env)).any (·.1) = false := by rfl) :
    PE X (.Call (.Name (st x) p) (e :: es) [] pos) (canE T W (wCall (G c a) as)) := by
  obtain ⟨fd, g, b⟩ := f.ok
  have g := g c (a, oe) hc hz hv
  have kp := f.kp
  have at_ := f.at_
  rw [← hK] at g b kp at_
  refine ⟨fun pins s σ H Q I h => ?_⟩
  have h := show canA T W as σ H (fun vs H1 => spM T (G c a) vs H1 Q (L2.WE W σ)) from by
    obtain ⟨ι, h, σm, Qm, Em, R, sr, q, x, m⟩ := h
    exact canA_mk R sr x m fun ms h1 m1 ι1 H1 vs R1 X1 s1 x1 r1 => sp_of R1 r1 (q.ext R1 X1) x1 m1
  refine wpAny_Call_Name_kw (ld_glob I hg at_ ?_ hdb)
  refine PySem.W.callWith_K (h₀ := X.base) I.ok.mod.kin kp (thn (ha.run pos pins s σ H _ I h) fun us s1 ⟨vs, H1, I1, r, q⟩ => ⟨I1.kIn, ?_⟩) he hpl
  have pin := I1.pin (a, oe) (List.mem_append.mpr (Or.inl hp))
  have ok : L2H.PinOk X.stack H1 s1 (a, oe) := ⟨pin.1, pin.2.1, fun hm => by
    rcases List.mem_cons.mp (I1.stkSub a hm) with z | z
    · exact pin.2.2.1 z
    · exact pin.2.2.2.1 z, pin.2.2.2.2⟩
  have hl : us.length = ps.length := r.length.symm.trans (g.len _ _ _ _ q)
  have bt := b s1 us I1.kIn (by rw [List.append_nil]; exact hl)
  rw [List.append_nil] at bt
  refine wpAny_call (codeAny_mono (g.run X.A X.stack s1 H1 ⟨us, []⟩ us vs Q (L2.WE W σ) (hr.mono hj) ok I1.env0 bt r q) fun o s2 hq => ?_)
  match o, hq with
  | .error e, hq => exact passAt tk σ pins H1 s1 e s2 I1 hq
  | .ok (.ret u), hq => exact I1.after hq
  | .ok .next, hq => exact False.elim hq
  | .ok .brk, hq => exact False.elim hq
  | .ok .cont, hq => exact False.elim hq
/-! isinstance of the error that stands aside -/
theorem call_isP {D : Addr} (hp : (a, oe) ∈ X.pn) (C : ExcC X.K D) (hz : Zc (.ref D) none oe) (hf : ∃ vs, oe.data = .fields vs) : CallR X (.builtin "isinstance") (rIsE X.K D a) := by
  intro pins s σ H xs us Q I r h
  obtain ⟨cv, val, b, rfl, same, e, q⟩ := h
  match r with
  | .cons rx (.cons rt .nil) =>
    have e1 := same _ rt
    subst e1
    cases rx
    have get := (I.pin (a, oe) (List.mem_append.mpr (Or.inl hp))).1
    have J : PySem.W.InstAt s.heap a oe D none := by
      obtain ⟨o1, o2, o3, o4⟩ := oe
      obtain ⟨y1, y2⟩ := hz
      obtain ⟨fs, y3⟩ := hf
      dsimp only at y1 y2 y3
      subst y1 y2 y3
      exact ⟨get, rfl, rfl, trivial⟩
    have kx := PySem.W.handS_kitx_exc (x := a) (ox := oe) C.hg C.hk C.hs C.hd C.ha C.hn C.ht C.hm
    exact PySem.W.kia_one kx I.kIn J e (fun z => by cases z) fun tk => ⟨.bl b, H, I.kept (t' := tk) (fun _ _ z => z), rfl, q⟩
variable {ds : List String} {i : Nat} {n : Str} {p p2 p3 : Pos}
theorem is_slotW {Q : VK} {σ : L2.St} {H : Hp} {b : Bool} (r : canE T W (wIsE i a b) σ H Q) : σ[i]? = some (some (.ref a)) ∧ ∃ ι h Qm, Rel T ι h H ∧ PQ T ι H Qm Q ∧ Qm (.bl b) h := by
  obtain ⟨ι, h, σm, Qm, Em, R, sr, q, x, m1, m2⟩ := r
  obtain ⟨v, y1, y2⟩ := sr.2 i _ m1
  have y2 : v = .ref a := by unfold RV at y2; exact y2
  rw [y2] at y1
  exact ⟨y1, ι, h, Qm, R, q, m2⟩
theorem e_isPE {d : String} (hK : X.K = T.K) (f : IsF T X.mg ds) (hp : (a, oe) ∈ X.pn) (hc : c ∈ T.Er) (hd : d ∈ ds) (hz : Zc (.ref (clA T.K c)) none oe) (hv : ∃ vs, oe.data = .fields vs) (hg : Gl X "isinstance") (hm : X.mg "isinstance" = none) (he : PE X (.Name n p2) (L2.tVar i))
    (hgd : Gl X (st d)) (hdb : (st d == ("__debug__" : Str)) = false)
    (hs : starEach [.Name n p2, .Name (st d) p3] X.env = (false, eval (.Name n p2) X.env) :: starEach [.Name (st d) p3] X.env := by rfl) (hpl : (backTo pos (starEach [.Name (st d) p3] X.env)).any (·.1) = false := by rfl) :
    PE X (.Call (.Name "isinstance" p) [.Name n p2, .Name (st d) p3] [] pos) (canE T W (wIsE i a (isSub c d))) := by
  have y1 := f.ec c hc
  have y2 := f.kt c hc d hd
  rw [← hK] at y1 y2 hz
  refine PE.le (pe_callB (call_isP hp y1 hz hv) hg hm (by decide +kernel) (pa_cons he (pa_cons (pe_glob (v := .ref (clA T.K d)) hgd (f.at_ d hd) rfl hdb) pa_nil) hs) (by decide) (by decide) hs hpl) fun σ H Q r => ?_
  obtain ⟨z, ι, h, Qm, R, q, m⟩ := is_slotW r
  refine ⟨_, z, .ref (clA T.K d), .ref (clA T.K d), isSub c d, rfl, fun u r => r, ?_, q.here R m .bl'⟩
  rw [hK] at y2 ⊢
  exact y2
theorem e_isPV (hK : X.K = T.K) (f : IsF T X.mg ds) (hp : (a, oe) ∈ X.pn) (hc : c ∈ T.Er) (hz : Zc (.ref (clA T.K c)) none oe) (hv : ∃ vs, oe.data = .fields vs) (hg : Gl X "isinstance") (hm : X.mg "isinstance" = none) (he : PE X (.Name n p2) (L2.tVar i))
    (hgd : Gl X "ValueError") (hmd : X.mg "ValueError" = none)
    (hs : starEach [.Name n p2, .Name "ValueError" p3] X.env = (false, eval (.Name n p2) X.env) :: starEach [.Name "ValueError" p3] X.env := by rfl) (hpl : (backTo pos (starEach [.Name "ValueError" p3] X.env)).any (·.1) = false := by rfl) :
    PE X (.Call (.Name "isinstance" p) [.Name n p2, .Name "ValueError" p3] [] pos) (canE T W (wIsE i a true)) := by
  have y1 := f.ec c hc
  have y2 := f.kv c hc
  rw [← hK] at y1 y2 hz
  refine PE.le (pe_callB (call_isP hp y1 hz hv) hg hm (by decide +kernel) (pa_cons he (pa_cons (pe_bltn (v := .ty "ValueError") hgd hmd (by decide +kernel) rfl) pa_nil) hs) (by decide) (by decide) hs hpl) fun σ H Q r => ?_
  obtain ⟨z, ι, h, Qm, R, q, m⟩ := is_slotW r
  refine ⟨_, z, .ty "ValueError", .type "ValueError", true, rfl, fun u r => r, ?_, q.here R m .bl'⟩
  rw [hK] at y2 ⊢
  exact y2
theorem call_isPT {D : Addr} (hp : (a, oe) ∈ X.pn) (C : ExcC X.K D) (hz : Zc (.ref D) none oe) (hf : ∃ vs, oe.data = .fields vs) :
    CallR X (.builtin "isinstance") (fun xs H Q => ∃ (tp : Addr) (cs : List V) (us : List Value) (b : Bool), xs = [.ref a, .ref tp] ∧ H tp = some (.tup cs) ∧ Paired ClsV cs us ∧ PySem.W.kitAny X.K (.ref D) us = some b ∧ Q (.bl b) H) := by
  intro pins s σ H xs us Q I r h
  obtain ⟨tp, cs, ws, b, rfl, hT, pr, e, q⟩ := h
  match r with
  | .cons rx (.cons rt .nil) =>
    cases rx
    cases rt
    have get := (I.pin (a, oe) (List.mem_append.mpr (Or.inl hp))).1
    have J : PySem.W.InstAt s.heap a oe D none := by
      obtain ⟨o1, o2, o3, o4⟩ := oe
      obtain ⟨y1, y2⟩ := hz
      obtain ⟨fs, y3⟩ := hf
      dsimp only at y1 y2 y3
      subst y1 y2 y3
      exact ⟨get, rfl, rfl, trivial⟩
    obtain ⟨_, its, rv, ot, w1, w2, n, w3⟩ := (show ObjOk X.prog X.w H s.heap tp (.tup cs) from I.hok tp _ hT)
    have w4 := ClsV.all pr rv
    subst w4
    obtain ⟨t1, t2, t3, t4⟩ := ot
    dsimp only at w2 w3
    subst w2 w3
    have kx := PySem.W.handS_kitx_exc (x := a) (ox := oe) C.hg C.hk C.hs C.hd C.ha C.hn C.ht C.hm
    exact PySem.W.kia_tup kx I.kIn J w1 e (fun z => by cases z) fun tk => ⟨.bl b, H, I.kept (t' := tk) (fun _ _ z => z), rfl, q⟩
theorem e_isPT {es : List String} {xs : List Expr} {t : TA} {k : Nat} {p4 : Pos} (hK : X.K = T.K) (f : IsF T X.mg ds) (hp : (a, oe) ∈ X.pn) (hc : c ∈ T.Er) (hd : ∀ d ∈ es, d ∈ ds) (hl : es.length ≤ 100) (hz : Zc (.ref (clA T.K c)) none oe) (hv : ∃ vs, oe.data = .fields vs) (hg : Gl X "isinstance") (hm : X.mg "isinstance" = none) (he : PE X (.Name n p2) (L2.tVar i))
    (ha : PA X xs t) (ht : ∀ σ H Q, Q (es.map fun d => V.ref (clA T.K d)) H → t σ H Q)
    (hs : starEach [.Name n p2, .Tuple xs k p4] X.env = (false, eval (.Name n p2) X.env) :: starEach [.Tuple xs k p4] X.env := by rfl) (hpl : (backTo pos (starEach [.Tuple xs k p4] X.env)).any (·.1) = false := by rfl)
    (hs2 : starEach [.Tuple xs k p4] X.env = (false, eval (.Tuple xs k p4) X.env) :: starEach [] X.env := by rfl) :
    PE X (.Call (.Name "isinstance" p) [.Name n p2, .Tuple xs k p4] [] pos) (canE T W (wIsE i a (es.any (isSub c)))) := by
  have y1 := f.ec c hc
  have y2 := kitAny_of (K := T.K) (g := fun d => Value.ref (clA T.K d)) (fun d h => f.kt c hc d (hd d h))
  rw [← hK] at y1 hz
  refine PE.le (pe_callB (call_isPT hp y1 hz hv) hg hm (by decide +kernel) (pa_cons he (pa_cons (pe_tup ha) pa_nil hs2) hs) (by decide) (by decide) hs hpl) fun σ H Q r => ?_
  obtain ⟨z, ι, h, Qm, R, q, m⟩ := is_slotW r
  refine ⟨_, z, ht _ _ _ ⟨by rw [List.length_map, sizeLine_eq]; omega, fun tp htp => ?_⟩⟩
  obtain ⟨R2, X2⟩ := aside (O := .tup (es.map fun d => V.ref (clA T.K d))) R htp
  refine ⟨tp, _, _, es.any (isSub c), rfl, upd_same, paired_cls es, ?_, q _ _ m _ _ _ R2 X2 .bl'⟩
  rw [hK]
  exact y2
end
theorem roomH_u {k : Nat} {A : Around} (r : L2H.RoomH k A) : A.units + 64 < cLine := by have := r.un; omega
theorem roomS {k : Nat} {A : Around} {v : Option Value} (r : Room k A) : L2H.RoomH k (A.mark v) := ⟨r.dp, r.un⟩
end Mi
end TxMiniJ

section TxMiniK
set_option Elab.async false
set_option linter.all false
set_option autoImplicit false
set_option maxRecDepth 100000
set_option maxHeartbeats 4000000
namespace Mi
open PySem PySem.Spec PyProof.Rows L2
/-! ### constant tuples of texts -/
structure TupF (T : Tx) (mg : Str → Option Value) (x : String) (ss : List String) : Prop where
  at_ : mg (st x) = some (.ref (He.ga T.K (st x)))
  sq : ∀ H, L2.SqT T.K H (He.ga T.K (st x)) (ss.map fun s => V.str (st s))
  ob : ∃ o, T.K.lookup (He.ga T.K (st x)) = some o ∧ o.cls = .type "tuple" ∧ o.dict = none
theorem RVs.strs {K : PySem.W.Frag} {ι : IA} {H : Hp} : ∀ ss : List String, RVs K ι H (ss.map .str) (ss.map fun s => V.str (st s))
  | [] => RVs.nil
  | s :: ss => RVs.cons (by unfold RV; rfl) (RVs.strs ss)
def tupChk (x : String) (ss : List String) (K : PySem.W.Frag) : Bool := He.tupB K (st x) (ss.map fun s => .str (st s)) && (match K.lookup (He.ga K (st x)) with
  | some ⟨.type c, none, _, _⟩ => decide (c = "tuple")
  | _ => false)
theorem tupF_of {T : Tx} {mg : Str → Option Value} {x : String} {ss : List String} (h : tupChk x ss T.K = true) (g : mg (st x) = some (.ref (He.ga T.K (st x)))) : TupF T mg x ss := by
  unfold tupChk at h
  obtain ⟨h1, h2⟩ := He.ba h
  refine ⟨g, fun H => ?_, ?_⟩
  · have := He.tupB_ok h1 H
    rw [List.map_map] at this
    exact this
  · cases q : T.K.lookup (He.ga T.K (st x)) with
    | none => rw [q] at h2; cases h2
    | some o =>
      rw [q] at h2
      obtain ⟨oc, od, dt, sl⟩ := o
      cases oc with
      | type c =>
        cases od with
        | none => exact ⟨_, rfl, by rw [of_decide_eq_true h2], rfl⟩
        | some _ => cases h2
      | _ => cases h2
section
variable {T : Tx} {X : Cx} {W : WX} {pos : Pos} {x : String} {ss : List String} {e : Expr} {me : WE}
theorem e_gstrs (f : TupF T X.mg x ss) (hg : Gl X (st x)) (hdb : (st x == ("__debug__" : Str)) = false) : PE X (.Name (st x) pos) (canE T W (wC (.tup (ss.map .str)))) :=
  e_gtup f.at_ f.sq (fun ι H => RVs.strs ss) hg hdb
theorem find_first_is {ss : List String} {s : String} {n : Nat} (h : ss.findIdx? (fun t => decide (t = s)) = some n) : (ss.map st)[n]? = some (st s) ∧ ∀ m, m < n → (ss.map st)[m]? ≠ some (st s) := by
  obtain ⟨hn, h1, h2⟩ := List.findIdx?_eq_some_iff_getElem.mp h
  refine ⟨?_, fun m hm z => ?_⟩
  · rw [List.getElem?_map, List.getElem?_eq_getElem hn]
    have := of_decide_eq_true h1
    rw [this]; rfl
  · rw [List.getElem?_map, List.getElem?_eq_getElem (Nat.lt_trans hm hn)] at z
    have e1 : st (ss[m]'(Nat.lt_trans hm hn)) = st s := Option.some.inj z
    have e2 : (ss[m]'(Nat.lt_trans hm hn)) = s := by
      have b := st_beq (ss[m]'(Nat.lt_trans hm hn)) s
      rw [e1, beq_self_eq_true] at b
      exact beq_iff_eq.mp b.symm
    exact h2 m hm (decide_eq_true e2)
theorem e_gidx {p apos : Pos} (hK : X.K = T.K) (f : TupF T X.mg x ss) (hg : Gl X (st x)) (hdb : (st x == ("__debug__" : Str)) = false) (he : PE X e (canE T W me))
    (hbase : attributeBase (.Name (st x) p) "index" X.env (eval (.Name (st x) p) X.env) = eval (.Name (st x) p) X.env := by rfl)
    (hfew : ((backTo pos (starEach [e] X.env)).all (fun x => !x.1) && (backToKw pos (keywordEach [] X.env)).all (fun x => x.1.isSome)
      && decide (([e] : List Expr).length + ([] : List Keyword).length + (if ([] : List Keyword).isEmpty then 0 else 1) < 30)) = true := by rfl)
    (hline : (apos.endLine == pos.line) = true := by rfl) (hs : starEach [e] X.env = (false, eval e X.env) :: starEach [] X.env := by rfl) (hpl : (backTo pos (starEach [] X.env)).any (·.1) = false := by rfl) :
    PE X (.Call (.Attribute (.Name (st x) p) "index" apos) [e] [] pos) (canE T W (wTupIx ss me)) := by
  refine PE.le (pe_bm (T := "tuple") PySem.F.plainAttrs_tuple PySem.F.slot_tuple_index PySem.F.type_tuple_index mt_tup_index (pe_glob (v := .ref (He.ga T.K (st x))) hg f.at_ rfl hdb) (pa_cons he pa_nil hs) hbase hfew hline hs hpl) fun σ H Q r => ?_
  obtain ⟨ι, h, σm, Qm, Em, R, s, q, xx, m⟩ := r
  refine ⟨.inr (.inl ⟨rfl, by rw [hK]; exact f.ob⟩), ?_⟩
  refine canE_mk R s xx m fun v h1 m1 ι1 H1 u R1 X1 s1 x1 r1 => ?_
  cases v with
  | str z =>
    have m1 : (match ss.findIdx? fun t => decide (t = z) with
      | some n => Qm (.int n) h1
      | none => False) := m1
    cases hz : ss.findIdx? (fun t => decide (t = z)) with
    | none => rw [hz] at m1; exact m1.elim
    | some n =>
      rw [hz] at m1
      obtain ⟨a1, a2⟩ := find_first_is hz
      cases r1.str_
      refine ⟨_, ss.map st, st z, n, rfl, rfl, ?_, a1, a2, q _ _ m1 _ _ _ R1 X1 .int'⟩
      rw [List.map_map, hK]
      exact f.sq _
  | _ => exact m1.elim
end
end Mi
end TxMiniK

section TxDefs
set_option autoImplicit false
set_option linter.all false
set_option maxRecDepth 100000
namespace Mi
/-! mini terms, printed by gen.py -/
theorem O_law_well : ∃ f : WF, f = fnM 2 5 (sSeq (sAsg (wC (.int 0)) (gN 2)) (sSeq (sIf (tV (wOp oLt (wV 1) (wB bLen (aCons (wV 0) aNil)))) (sAsg (wOp oIx (wV 0) (wV 1)) (gN 2)) sNx) (sSeq (sAsg (wLst 100 (aCons (wC (.int 2147483647)) (aCons (wC (.int 2147483629)) (aCons (wC (.int 2147483587)) (aCons (wC (.int 2147483579)) (aCons (wC (.int 2147483563)) (aCons (wC (.int 2147483549)) (aCons (wC (.int 2147483543)) (aCons (wC (.int 2147483497)) aNil))))))))) (gN 3)) (sSeq (sAsg (wOp oMod (wOp (oMul 0) (wOp (oAdd 0) (wOp oMod (wV 2) (wC (.int 2147483489))) (wC (.int 1))) (wOp (oAdd 0) (wC (.int 48271)) (wOp (oMul 0) (wC (.int 2)) (wV 1)))) (wC (.int 2147483489))) (gN 4)) (sSeq (sAsg (wOp (oAdd 0) (wOp (oAdd 0) (wOp oMod (wOp (oMul 0) (wV 4) (wV 4)) (wC (.int 2147483477))) (wV 1)) (wC (.int 1))) (gN 4)) (sSeq (sIf (tV (wOp oGe (wV 2) (wOp oPow (wC (.int 10)) (wC (.int 18))))) (sRet (wLst 1 (aCons (wV 2) (aCons (wV 4) (aCons (wOp oIx (wV 3) (wOp oMod (wV 1) (wC (.int 8)))) aNil))))) sNx) (sRet (wLst 1 (aCons (wC (.int 0)) (aCons (wV 4) (aCons (wOp oIx (wV 3) (wOp oMod (wV 1) (wC (.int 8)))) aNil))))))))))) := ⟨_, rfl⟩
noncomputable def F_law_well : WF := Classical.choose O_law_well
theorem F_law_well_eq : F_law_well = fnM 2 5 (sSeq (sAsg (wC (.int 0)) (gN 2)) (sSeq (sIf (tV (wOp oLt (wV 1) (wB bLen (aCons (wV 0) aNil)))) (sAsg (wOp oIx (wV 0) (wV 1)) (gN 2)) sNx) (sSeq (sAsg (wLst 100 (aCons (wC (.int 2147483647)) (aCons (wC (.int 2147483629)) (aCons (wC (.int 2147483587)) (aCons (wC (.int 2147483579)) (aCons (wC (.int 2147483563)) (aCons (wC (.int 2147483549)) (aCons (wC (.int 2147483543)) (aCons (wC (.int 2147483497)) aNil))))))))) (gN 3)) (sSeq (sAsg (wOp oMod (wOp (oMul 0) (wOp (oAdd 0) (wOp oMod (wV 2) (wC (.int 2147483489))) (wC (.int 1))) (wOp (oAdd 0) (wC (.int 48271)) (wOp (oMul 0) (wC (.int 2)) (wV 1)))) (wC (.int 2147483489))) (gN 4)) (sSeq (sAsg (wOp (oAdd 0) (wOp (oAdd 0) (wOp oMod (wOp (oMul 0) (wV 4) (wV 4)) (wC (.int 2147483477))) (wV 1)) (wC (.int 1))) (gN 4)) (sSeq (sIf (tV (wOp oGe (wV 2) (wOp oPow (wC (.int 10)) (wC (.int 18))))) (sRet (wLst 1 (aCons (wV 2) (aCons (wV 4) (aCons (wOp oIx (wV 3) (wOp oMod (wV 1) (wC (.int 8)))) aNil))))) sNx) (sRet (wLst 1 (aCons (wC (.int 0)) (aCons (wV 4) (aCons (wOp oIx (wV 3) (wOp oMod (wV 1) (wC (.int 8)))) aNil))))))))))) := Classical.choose_spec O_law_well
theorem O_law_take : ∃ f : WF, f = fnM 2 3 (sSeq (sIf (tV (wOp oGt (wOp oIx (wV 0) (wC (.int 0))) (wC (.int 0)))) (sSeq (sAsg (wOp oMod (wOp oIx (wV 0) (wC (.int 0))) (wV 1)) (gN 2)) (sSeq (sAsg (wOp oDiv (wOp oIx (wV 0) (wC (.int 0))) (wV 1)) (gIx (wV 0) (wC (.int 0)))) (sRet (wV 2)))) sNx) (sSeq (sAsg (wOp (oAdd 0) (wOp oMod (wOp (oMul 0) (wOp oIx (wV 0) (wC (.int 1))) (wC (.int 48271))) (wOp oIx (wV 0) (wC (.int 2)))) (wC (.int 1))) (gIx (wV 0) (wC (.int 1)))) (sRet (wOp oMod (wOp oDiv (wOp oMod (wOp (oMul 0) (wOp oIx (wV 0) (wC (.int 1))) (wOp oIx (wV 0) (wC (.int 1)))) (wC (.int 2147483423))) (wC (.int 7))) (wV 1))))) := ⟨_, rfl⟩
noncomputable def F_law_take : WF := Classical.choose O_law_take
theorem F_law_take_eq : F_law_take = fnM 2 3 (sSeq (sIf (tV (wOp oGt (wOp oIx (wV 0) (wC (.int 0))) (wC (.int 0)))) (sSeq (sAsg (wOp oMod (wOp oIx (wV 0) (wC (.int 0))) (wV 1)) (gN 2)) (sSeq (sAsg (wOp oDiv (wOp oIx (wV 0) (wC (.int 0))) (wV 1)) (gIx (wV 0) (wC (.int 0)))) (sRet (wV 2)))) sNx) (sSeq (sAsg (wOp (oAdd 0) (wOp oMod (wOp (oMul 0) (wOp oIx (wV 0) (wC (.int 1))) (wC (.int 48271))) (wOp oIx (wV 0) (wC (.int 2)))) (wC (.int 1))) (gIx (wV 0) (wC (.int 1)))) (sRet (wOp oMod (wOp oDiv (wOp oMod (wOp (oMul 0) (wOp oIx (wV 0) (wC (.int 1))) (wOp oIx (wV 0) (wC (.int 1)))) (wC (.int 2147483423))) (wC (.int 7))) (wV 1))))) := Classical.choose_spec O_law_take
theorem O_law_far : ∃ f : WF, f = fnM 1 1 (sRet (wOp oIx (wLst 101 (aCons (wOp (oAdd 0) (wC (.int 1)) (wCall F_law_take (aCons (wV 0) (aCons (wC (.int 3)) aNil)))) (aCons (wOp (oAdd 0) (wC (.int 1)) (wCall F_law_take (aCons (wV 0) (aCons (wOp oPow (wC (.int 10)) (wC (.int 58))) aNil)))) aNil))) (wCall F_law_take (aCons (wV 0) (aCons (wC (.int 2)) aNil))))) := ⟨_, rfl⟩
noncomputable def F_law_far : WF := Classical.choose O_law_far
theorem F_law_far_eq : F_law_far = fnM 1 1 (sRet (wOp oIx (wLst 101 (aCons (wOp (oAdd 0) (wC (.int 1)) (wCall F_law_take (aCons (wV 0) (aCons (wC (.int 3)) aNil)))) (aCons (wOp (oAdd 0) (wC (.int 1)) (wCall F_law_take (aCons (wV 0) (aCons (wOp oPow (wC (.int 10)) (wC (.int 58))) aNil)))) aNil))) (wCall F_law_take (aCons (wV 0) (aCons (wC (.int 2)) aNil))))) := Classical.choose_spec O_law_far
theorem O_look_at_size : ∃ f : WF, f = fnM 1 1 (sIf (tOr (tV (wOp oLt (wV 0) (wC (.int 2)))) (tV (wOp oGt (wV 0) (wC (.int 8))))) (sRaise "BadSize") sNx) := ⟨_, rfl⟩
noncomputable def F_look_at_size : WF := Classical.choose O_look_at_size
theorem F_look_at_size_eq : F_look_at_size = fnM 1 1 (sIf (tOr (tV (wOp oLt (wV 0) (wC (.int 2)))) (tV (wOp oGt (wV 0) (wC (.int 8))))) (sRaise "BadSize") sNx) := Classical.choose_spec O_look_at_size
theorem O_look_at_turn : ∃ f : WF, f = fnM 2 2 (sSeq (sEx (wCall F_look_at_size (aCons (wV 0) aNil))) (sIf (tOr (tV (wOp oLt (wV 1) (wC (.int 0)))) (tV (wOp oGe (wV 1) (wOp (oMul 0) (wC (.int 2)) (wV 0))))) (sRaise "NoTurn") sNx)) := ⟨_, rfl⟩
noncomputable def F_look_at_turn : WF := Classical.choose O_look_at_turn
theorem F_look_at_turn_eq : F_look_at_turn = fnM 2 2 (sSeq (sEx (wCall F_look_at_size (aCons (wV 0) aNil))) (sIf (tOr (tV (wOp oLt (wV 1) (wC (.int 0)))) (tV (wOp oGe (wV 1) (wOp (oMul 0) (wC (.int 2)) (wV 0))))) (sRaise "NoTurn") sNx)) := Classical.choose_spec O_look_at_turn
theorem O_distance : ∃ f : WF, f = fnM 3 3 (sSeq (sEx (wCall F_look_at_turn (aCons (wV 0) (aCons (wV 1) aNil)))) (sSeq (sEx (wCall F_look_at_turn (aCons (wV 0) (aCons (wV 2) aNil)))) (sRet (wOp oMod (wOp oSub (wV 2) (wV 1)) (wOp (oMul 0) (wC (.int 2)) (wV 0)))))) := ⟨_, rfl⟩
noncomputable def F_distance : WF := Classical.choose O_distance
theorem F_distance_eq : F_distance = fnM 3 3 (sSeq (sEx (wCall F_look_at_turn (aCons (wV 0) (aCons (wV 1) aNil)))) (sSeq (sEx (wCall F_look_at_turn (aCons (wV 0) (aCons (wV 2) aNil)))) (sRet (wOp oMod (wOp oSub (wV 2) (wV 1)) (wOp (oMul 0) (wC (.int 2)) (wV 0)))))) := Classical.choose_spec O_distance
theorem O_onward : ∃ f : WF, f = fnM 3 3 (sSeq (sEx (wCall F_look_at_turn (aCons (wV 0) (aCons (wV 1) aNil)))) (sRet (wOp oMod (wOp (oAdd 0) (wV 1) (wV 2)) (wOp (oMul 0) (wC (.int 2)) (wV 0))))) := ⟨_, rfl⟩
noncomputable def F_onward : WF := Classical.choose O_onward
theorem F_onward_eq : F_onward = fnM 3 3 (sSeq (sEx (wCall F_look_at_turn (aCons (wV 0) (aCons (wV 1) aNil)))) (sRet (wOp oMod (wOp (oAdd 0) (wV 1) (wV 2)) (wOp (oMul 0) (wC (.int 2)) (wV 0))))) := Classical.choose_spec O_onward
theorem O_lap_of : ∃ f : WF, f = fnM 2 2 (sSeq (sEx (wCall F_look_at_turn (aCons (wV 0) (aCons (wV 1) aNil)))) (sRet (wOp oDiv (wV 1) (wV 0)))) := ⟨_, rfl⟩
noncomputable def F_lap_of : WF := Classical.choose O_lap_of
theorem F_lap_of_eq : F_lap_of = fnM 2 2 (sSeq (sEx (wCall F_look_at_turn (aCons (wV 0) (aCons (wV 1) aNil)))) (sRet (wOp oDiv (wV 1) (wV 0)))) := Classical.choose_spec O_lap_of
theorem O_place_of : ∃ f : WF, f = fnM 2 2 (sSeq (sEx (wCall F_look_at_turn (aCons (wV 0) (aCons (wV 1) aNil)))) (sRet (wOp oMod (wV 1) (wV 0)))) := ⟨_, rfl⟩
noncomputable def F_place_of : WF := Classical.choose O_place_of
theorem F_place_of_eq : F_place_of = fnM 2 2 (sSeq (sEx (wCall F_look_at_turn (aCons (wV 0) (aCons (wV 1) aNil)))) (sRet (wOp oMod (wV 1) (wV 0)))) := Classical.choose_spec O_place_of
theorem O_law_whole : ∃ f : WF, f = fnM 1 1 (sRet (wAndV (bIsi ["int"] (wV 0)) (wNot (tTru (bIsi ["bool"] (wV 0)))))) := ⟨_, rfl⟩
noncomputable def F_law_whole : WF := Classical.choose O_law_whole
theorem F_law_whole_eq : F_law_whole = fnM 1 1 (sRet (wAndV (bIsi ["int"] (wV 0)) (wNot (tTru (bIsi ["bool"] (wV 0)))))) := Classical.choose_spec O_law_whole
theorem O_free_mark : ∃ f : WF, f = fnM 2 2 (sRet (wOp (oMul 0) (wC (.int 2)) (wCall F_lap_of (aCons (wV 0) (aCons (wV 1) aNil))))) := ⟨_, rfl⟩
noncomputable def F_free_mark : WF := Classical.choose O_free_mark
theorem F_free_mark_eq : F_free_mark = fnM 2 2 (sRet (wOp (oMul 0) (wC (.int 2)) (wCall F_lap_of (aCons (wV 0) (aCons (wV 1) aNil))))) := Classical.choose_spec O_free_mark
theorem O_full_mark : ∃ f : WF, f = fnM 2 2 (sRet (wOp (oAdd 0) (wOp (oMul 0) (wC (.int 2)) (wCall F_lap_of (aCons (wV 0) (aCons (wV 1) aNil)))) (wC (.int 1)))) := ⟨_, rfl⟩
noncomputable def F_full_mark : WF := Classical.choose O_full_mark
theorem F_full_mark_eq : F_full_mark = fnM 2 2 (sRet (wOp (oAdd 0) (wOp (oMul 0) (wC (.int 2)) (wCall F_lap_of (aCons (wV 0) (aCons (wV 1) aNil)))) (wC (.int 1)))) := Classical.choose_spec O_full_mark
theorem O_look_at_mark : ∃ f : WF, f = fnM 1 1 (sIf (tOr (tV (wOp oLt (wV 0) (wC (.int 0)))) (tV (wOp oGt (wV 0) (wC (.int 3))))) (sRaise "BadMark") sNx) := ⟨_, rfl⟩
noncomputable def F_look_at_mark : WF := Classical.choose O_look_at_mark
theorem F_look_at_mark_eq : F_look_at_mark = fnM 1 1 (sIf (tOr (tV (wOp oLt (wV 0) (wC (.int 0)))) (tV (wOp oGt (wV 0) (wC (.int 3))))) (sRaise "BadMark") sNx) := Classical.choose_spec O_look_at_mark
theorem O_may_take : ∃ f : WF, f = fnM 3 4 (sSeq (sAsg (wCall F_lap_of (aCons (wV 0) (aCons (wV 1) aNil))) (gN 3)) (sSeq (sEx (wCall F_look_at_mark (aCons (wV 2) aNil))) (sRet (wOp oEq (wV 2) (wOp (oAdd 0) (wOp (oMul 0) (wC (.int 2)) (wV 3)) (wC (.int 1))))))) := ⟨_, rfl⟩
noncomputable def F_may_take : WF := Classical.choose O_may_take
theorem F_may_take_eq : F_may_take = fnM 3 4 (sSeq (sAsg (wCall F_lap_of (aCons (wV 0) (aCons (wV 1) aNil))) (gN 3)) (sSeq (sEx (wCall F_look_at_mark (aCons (wV 2) aNil))) (sRet (wOp oEq (wV 2) (wOp (oAdd 0) (wOp (oMul 0) (wC (.int 2)) (wV 3)) (wC (.int 1))))))) := Classical.choose_spec O_may_take
theorem O_may_give : ∃ f : WF, f = fnM 3 4 (sSeq (sAsg (wCall F_lap_of (aCons (wV 0) (aCons (wV 1) aNil))) (gN 3)) (sSeq (sEx (wCall F_look_at_mark (aCons (wV 2) aNil))) (sRet (wOp oEq (wV 2) (wOp (oMul 0) (wC (.int 2)) (wOp oSub (wC (.int 1)) (wV 3))))))) := ⟨_, rfl⟩
noncomputable def F_may_give : WF := Classical.choose O_may_give
theorem F_may_give_eq : F_may_give = fnM 3 4 (sSeq (sAsg (wCall F_lap_of (aCons (wV 0) (aCons (wV 1) aNil))) (gN 3)) (sSeq (sEx (wCall F_look_at_mark (aCons (wV 2) aNil))) (sRet (wOp oEq (wV 2) (wOp (oMul 0) (wC (.int 2)) (wOp oSub (wC (.int 1)) (wV 3))))))) := Classical.choose_spec O_may_give
theorem O_Board___init : ∃ f : WF, f = fnM 2 2 (sSeq (sEx (wCall F_look_at_size (aCons (wV 1) aNil))) (sSeq (sAsg (wV 1) (gFld (wV 0) "size")) (sSeq (sAsg (wOp (oAdd 20) (wOp (oMul 0) (wLst 190 (aCons (wC (.int 2)) (aCons (wUn uNeg (wC (.int 1))) (aCons (wC (.int 0)) (aCons (wC (.int 0)) aNil))))) (wV 1)) (wLst 191 (aCons (wUn uNeg (wC (.int 1))) (aCons (wUn uNeg (wC (.int 1))) (aCons (wC (.int 0)) (aCons (wC (.int 0)) aNil)))))) (gFld (wV 0) "kept")) (sSeq (sAsg (wC (.int 0)) (gFld (wV 0) "counted")) (sAsg (wC .non) (gFld (wV 0) "latest")))))) := ⟨_, rfl⟩
noncomputable def F_Board___init : WF := Classical.choose O_Board___init
theorem F_Board___init_eq : F_Board___init = fnM 2 2 (sSeq (sEx (wCall F_look_at_size (aCons (wV 1) aNil))) (sSeq (sAsg (wV 1) (gFld (wV 0) "size")) (sSeq (sAsg (wOp (oAdd 20) (wOp (oMul 0) (wLst 190 (aCons (wC (.int 2)) (aCons (wUn uNeg (wC (.int 1))) (aCons (wC (.int 0)) (aCons (wC (.int 0)) aNil))))) (wV 1)) (wLst 191 (aCons (wUn uNeg (wC (.int 1))) (aCons (wUn uNeg (wC (.int 1))) (aCons (wC (.int 0)) (aCons (wC (.int 0)) aNil)))))) (gFld (wV 0) "kept")) (sSeq (sAsg (wC (.int 0)) (gFld (wV 0) "counted")) (sAsg (wC .non) (gFld (wV 0) "latest")))))) := Classical.choose_spec O_Board___init
theorem O_Board_look_at_cell : ∃ f : WF, f = fnM 2 2 (sIf (tOr (tV (wOp oLt (wV 1) (wC (.int 0)))) (tV (wOp oGe (wV 1) (wB bLen (aCons (wFld (wV 0) "kept") aNil))))) (sRaise "NoCell") sNx) := ⟨_, rfl⟩
noncomputable def F_Board_look_at_cell : WF := Classical.choose O_Board_look_at_cell
theorem F_Board_look_at_cell_eq : F_Board_look_at_cell = fnM 2 2 (sIf (tOr (tV (wOp oLt (wV 1) (wC (.int 0)))) (tV (wOp oGe (wV 1) (wB bLen (aCons (wFld (wV 0) "kept") aNil))))) (sRaise "NoCell") sNx) := Classical.choose_spec O_Board_look_at_cell
theorem O_Board_touched : ∃ f : WF, f = fnM 3 3 (sSeq (sAsg (wOp (oAdd 0) (wFld (wV 0) "counted") (wC (.int 1))) (gFld (wV 0) "counted")) (sSeq (sAsg (wTup (aCons (wV 1) (aCons (wV 2) (aCons (wOp oIx (wFld (wV 0) "kept") (wV 2)) aNil)))) (gFld (wV 0) "latest")) (sRet (wOp oIx (wFld (wV 0) "kept") (wV 2))))) := ⟨_, rfl⟩
noncomputable def F_Board_touched : WF := Classical.choose O_Board_touched
theorem F_Board_touched_eq : F_Board_touched = fnM 3 3 (sSeq (sAsg (wOp (oAdd 0) (wFld (wV 0) "counted") (wC (.int 1))) (gFld (wV 0) "counted")) (sSeq (sAsg (wTup (aCons (wV 1) (aCons (wV 2) (aCons (wOp oIx (wFld (wV 0) "kept") (wV 2)) aNil)))) (gFld (wV 0) "latest")) (sRet (wOp oIx (wFld (wV 0) "kept") (wV 2))))) := Classical.choose_spec O_Board_touched
theorem O_Board_write : ∃ f : WF, f = fnM 3 3 (sSeq (sEx (wMeth (tb1 "Board" F_Board_look_at_cell) (wV 0) (aCons (wV 1) aNil))) (sSeq (sAsg (wV 2) (gIx (wFld (wV 0) "kept") (wV 1))) (sEx (wMeth (tb1 "Board" F_Board_touched) (wV 0) (aCons (wC (.str "write")) (aCons (wV 1) aNil)))))) := ⟨_, rfl⟩
noncomputable def F_Board_write : WF := Classical.choose O_Board_write
theorem F_Board_write_eq : F_Board_write = fnM 3 3 (sSeq (sEx (wMeth (tb1 "Board" F_Board_look_at_cell) (wV 0) (aCons (wV 1) aNil))) (sSeq (sAsg (wV 2) (gIx (wFld (wV 0) "kept") (wV 1))) (sEx (wMeth (tb1 "Board" F_Board_touched) (wV 0) (aCons (wC (.str "write")) (aCons (wV 1) aNil)))))) := Classical.choose_spec O_Board_write
theorem O_Board_read : ∃ f : WF, f = fnM 2 2 (sSeq (sEx (wMeth (tb1 "Board" F_Board_look_at_cell) (wV 0) (aCons (wV 1) aNil))) (sRet (wMeth (tb1 "Board" F_Board_touched) (wV 0) (aCons (wC (.str "read")) (aCons (wV 1) aNil))))) := ⟨_, rfl⟩
noncomputable def F_Board_read : WF := Classical.choose O_Board_read
theorem F_Board_read_eq : F_Board_read = fnM 2 2 (sSeq (sEx (wMeth (tb1 "Board" F_Board_look_at_cell) (wV 0) (aCons (wV 1) aNil))) (sRet (wMeth (tb1 "Board" F_Board_touched) (wV 0) (aCons (wC (.str "read")) (aCons (wV 1) aNil))))) := Classical.choose_spec O_Board_read
theorem O_law_flags_v1 : ∃ f : String → Nat → WF, f = fun c a => fnM 1 2 (sSeq (sAsg (wLst 202 (aCons (wIsE 0 a (isSub c "NoCell")) (aCons (wIsE 0 a (isSub c "BadSize")) (aCons (wIsE 0 a (isSub c "NoHand")) (aCons (wIsE 0 a true) aNil))))) (gN 1)) (sSeq (sEx (wBM "list" mAppend (wV 1) (aCons (wIsE 0 a (["BadCells", "BadMark", "BadOrder", "Crooked", "NoRow", "NoText"].any (isSub c))) aNil))) (sRet (wOp (oAdd 0) (wV 1) (wLst 203 (aCons (wIsE 0 a (["BadStand", "NoName", "NotSound", "NoTurn", "NoWaiting", "TooMany"].any (isSub c))) aNil)))))) := ⟨_, rfl⟩
noncomputable def F_law_flags_v1 : String → Nat → WF := Classical.choose O_law_flags_v1
theorem F_law_flags_v1_eq : F_law_flags_v1 = fun c a => fnM 1 2 (sSeq (sAsg (wLst 202 (aCons (wIsE 0 a (isSub c "NoCell")) (aCons (wIsE 0 a (isSub c "BadSize")) (aCons (wIsE 0 a (isSub c "NoHand")) (aCons (wIsE 0 a true) aNil))))) (gN 1)) (sSeq (sEx (wBM "list" mAppend (wV 1) (aCons (wIsE 0 a (["BadCells", "BadMark", "BadOrder", "Crooked", "NoRow", "NoText"].any (isSub c))) aNil))) (sRet (wOp (oAdd 0) (wV 1) (wLst 203 (aCons (wIsE 0 a (["BadStand", "NoName", "NotSound", "NoTurn", "NoWaiting", "TooMany"].any (isSub c))) aNil)))))) := Classical.choose_spec O_law_flags_v1
theorem O_law_touched : ∃ f : WF, f = fnM 4 7 (sSeq (sAsg (wLst 201 aNil) (gN 4)) (sSeq (sAsg (wC .non) (gN 5)) (sSeq (sTry (sIf (tTru (wV 1)) (sAsg (wMeth (tb1 "Board" F_Board_write) (wV 0) (aCons (wV 2) (aCons (wV 3) aNil))) (gN 5)) (sAsg (wMeth (tb1 "Board" F_Board_read) (wV 0) (aCons (wV 2) aNil)) (gN 5))) ["RingError"] (some 6) (fun c a => sAsg (wCall (F_law_flags_v1 c a) (aCons (wV 6) aNil)) (gN 4))) (sRet (wTup (aCons (wV 4) (aCons (wV 5) aNil))))))) := ⟨_, rfl⟩
noncomputable def F_law_touched : WF := Classical.choose O_law_touched
theorem F_law_touched_eq : F_law_touched = fnM 4 7 (sSeq (sAsg (wLst 201 aNil) (gN 4)) (sSeq (sAsg (wC .non) (gN 5)) (sSeq (sTry (sIf (tTru (wV 1)) (sAsg (wMeth (tb1 "Board" F_Board_write) (wV 0) (aCons (wV 2) (aCons (wV 3) aNil))) (gN 5)) (sAsg (wMeth (tb1 "Board" F_Board_read) (wV 0) (aCons (wV 2) aNil)) (gN 5))) ["RingError"] (some 6) (fun c a => sAsg (wCall (F_law_flags_v1 c a) (aCons (wV 6) aNil)) (gN 4))) (sRet (wTup (aCons (wV 4) (aCons (wV 5) aNil))))))) := Classical.choose_spec O_law_touched
theorem O_Board_all_cells : ∃ f : WF, f = fnM 1 1 (sRet (wB (bList 207) (aCons (wFld (wV 0) "kept") aNil))) := ⟨_, rfl⟩
noncomputable def F_Board_all_cells : WF := Classical.choose O_Board_all_cells
theorem F_Board_all_cells_eq : F_Board_all_cells = fnM 1 1 (sRet (wB (bList 207) (aCons (wFld (wV 0) "kept") aNil))) := Classical.choose_spec O_Board_all_cells
theorem O_Board_touches : ∃ f : WF, f = fnM 1 1 (sRet (wFld (wV 0) "counted")) := ⟨_, rfl⟩
noncomputable def F_Board_touches : WF := Classical.choose O_Board_touches
theorem F_Board_touches_eq : F_Board_touches = fnM 1 1 (sRet (wFld (wV 0) "counted")) := Classical.choose_spec O_Board_touches
theorem O_Board_last_touch : ∃ f : WF, f = fnM 1 1 (sRet (wFld (wV 0) "latest")) := ⟨_, rfl⟩
noncomputable def F_Board_last_touch : WF := Classical.choose O_Board_last_touch
theorem F_Board_last_touch_eq : F_Board_last_touch = fnM 1 1 (sRet (wFld (wV 0) "latest")) := Classical.choose_spec O_Board_last_touch
theorem O_law_right_v2 : ∃ f : WF, f = fnM 5 6 (sSeq (sAsg (wMeth (tb1 "Board" F_Board_all_cells) (wV 0) aNil) (gN 5)) (sSeq (sIf (tOr (tV (wOp oNe (wFld (wV 0) "size") (wV 1))) (tOr (tNot (tTru (bIsi ["list"] (wV 5)))) (tV (wOp oNe (wV 5) (wV 2))))) (sRet (wC (.bl false))) sNx) (sSeq (sEx (wBM "list" mClear (wV 5) aNil)) (sRet (wAndV (wOp oEq (wMeth (tb1 "Board" F_Board_all_cells) (wV 0) aNil) (wV 2)) (wAndV (wOp oEq (wMeth (tb1 "Board" F_Board_touches) (wV 0) aNil) (wV 3)) (wOp oEq (wMeth (tb1 "Board" F_Board_last_touch) (wV 0) aNil) (wV 4)))))))) := ⟨_, rfl⟩
noncomputable def F_law_right_v2 : WF := Classical.choose O_law_right_v2
theorem F_law_right_v2_eq : F_law_right_v2 = fnM 5 6 (sSeq (sAsg (wMeth (tb1 "Board" F_Board_all_cells) (wV 0) aNil) (gN 5)) (sSeq (sIf (tOr (tV (wOp oNe (wFld (wV 0) "size") (wV 1))) (tOr (tNot (tTru (bIsi ["list"] (wV 5)))) (tV (wOp oNe (wV 5) (wV 2))))) (sRet (wC (.bl false))) sNx) (sSeq (sEx (wBM "list" mClear (wV 5) aNil)) (sRet (wAndV (wOp oEq (wMeth (tb1 "Board" F_Board_all_cells) (wV 0) aNil) (wV 2)) (wAndV (wOp oEq (wMeth (tb1 "Board" F_Board_touches) (wV 0) aNil) (wV 3)) (wOp oEq (wMeth (tb1 "Board" F_Board_last_touch) (wV 0) aNil) (wV 4)))))))) := Classical.choose_spec O_law_right_v2
theorem O_thing_cell : ∃ f : WF, f = fnM 1 1 (sRet (wOp (oAdd 0) (wOp (oMul 0) (wC (.int 4)) (wV 0)) (wC (.int 3)))) := ⟨_, rfl⟩
noncomputable def F_thing_cell : WF := Classical.choose O_thing_cell
theorem F_thing_cell_eq : F_thing_cell = fnM 1 1 (sRet (wOp (oAdd 0) (wOp (oMul 0) (wC (.int 4)) (wV 0)) (wC (.int 3)))) := Classical.choose_spec O_thing_cell
theorem O_left_cell : ∃ f : WF, f = fnM 1 1 (sRet (wOp (oAdd 0) (wOp (oMul 0) (wC (.int 4)) (wV 0)) (wC (.int 2)))) := ⟨_, rfl⟩
noncomputable def F_left_cell : WF := Classical.choose O_left_cell
theorem F_left_cell_eq : F_left_cell = fnM 1 1 (sRet (wOp (oAdd 0) (wOp (oMul 0) (wC (.int 4)) (wV 0)) (wC (.int 2)))) := Classical.choose_spec O_left_cell
theorem O_number_cell : ∃ f : WF, f = fnM 1 1 (sRet (wOp (oAdd 0) (wOp (oMul 0) (wC (.int 4)) (wV 0)) (wC (.int 1)))) := ⟨_, rfl⟩
noncomputable def F_number_cell : WF := Classical.choose O_number_cell
theorem F_number_cell_eq : F_number_cell = fnM 1 1 (sRet (wOp (oAdd 0) (wOp (oMul 0) (wC (.int 4)) (wV 0)) (wC (.int 1)))) := Classical.choose_spec O_number_cell
theorem O_mark_cell : ∃ f : WF, f = fnM 1 1 (sRet (wOp (oMul 0) (wC (.int 4)) (wV 0))) := ⟨_, rfl⟩
noncomputable def F_mark_cell : WF := Classical.choose O_mark_cell
theorem F_mark_cell_eq : F_mark_cell = fnM 1 1 (sRet (wOp (oMul 0) (wC (.int 4)) (wV 0))) := Classical.choose_spec O_mark_cell
theorem O_look_at_hand : ∃ f : WF, f = fnM 1 1 (sIf (tV (wOp oNotIn (wV 0) (wC (.tup [.str "giver", .str "taker"])))) (sRaise "NoHand") sNx) := ⟨_, rfl⟩
noncomputable def F_look_at_hand : WF := Classical.choose O_look_at_hand
theorem F_look_at_hand_eq : F_look_at_hand = fnM 1 1 (sIf (tV (wOp oNotIn (wV 0) (wC (.tup [.str "giver", .str "taker"])))) (sRaise "NoHand") sNx) := Classical.choose_spec O_look_at_hand
theorem O_bell_cell : ∃ f : WF, f = fnM 2 2 (sSeq (sEx (wCall F_look_at_size (aCons (wV 0) aNil))) (sSeq (sEx (wCall F_look_at_hand (aCons (wV 1) aNil))) (sRet (wOp (oAdd 0) (wOp (oAdd 0) (wOp (oMul 0) (wC (.int 4)) (wV 0)) (wC (.int 2))) (wTupIx ["giver", "taker"] (wV 1)))))) := ⟨_, rfl⟩
noncomputable def F_bell_cell : WF := Classical.choose O_bell_cell
theorem F_bell_cell_eq : F_bell_cell = fnM 2 2 (sSeq (sEx (wCall F_look_at_size (aCons (wV 0) aNil))) (sSeq (sEx (wCall F_look_at_hand (aCons (wV 1) aNil))) (sRet (wOp (oAdd 0) (wOp (oAdd 0) (wOp (oMul 0) (wC (.int 4)) (wV 0)) (wC (.int 2))) (wTupIx ["giver", "taker"] (wV 1)))))) := Classical.choose_spec O_bell_cell
theorem O_card_cell : ∃ f : WF, f = fnM 2 2 (sSeq (sEx (wCall F_look_at_size (aCons (wV 0) aNil))) (sSeq (sEx (wCall F_look_at_hand (aCons (wV 1) aNil))) (sRet (wOp (oAdd 0) (wOp (oMul 0) (wC (.int 4)) (wV 0)) (wTupIx ["giver", "taker"] (wV 1)))))) := ⟨_, rfl⟩
noncomputable def F_card_cell : WF := Classical.choose O_card_cell
theorem F_card_cell_eq : F_card_cell = fnM 2 2 (sSeq (sEx (wCall F_look_at_size (aCons (wV 0) aNil))) (sSeq (sEx (wCall F_look_at_hand (aCons (wV 1) aNil))) (sRet (wOp (oAdd 0) (wOp (oMul 0) (wC (.int 4)) (wV 0)) (wTupIx ["giver", "taker"] (wV 1)))))) := Classical.choose_spec O_card_cell
theorem O_law_refused_v2 : ∃ f : WF, f = fnM 3 5 (sSeq (sAsg (wLst 217 aNil) (gN 3)) (sSeq (sTry (sIf (tV (wOp oEq (wV 0) (wC (.int 0)))) (sEx (wCall F_card_cell (aCons (wV 1) (aCons (wV 2) aNil)))) (sIf (tV (wOp oEq (wV 0) (wC (.int 1)))) (sEx (wCall F_bell_cell (aCons (wV 1) (aCons (wV 2) aNil)))) (sEx (wMake "Board" 10 F_Board___init (aCons (wV 1) aNil))))) ["RingError"] (some 4) (fun c a => sAsg (wCall (F_law_flags_v1 c a) (aCons (wV 4) aNil)) (gN 3))) (sRet (wV 3)))) := ⟨_, rfl⟩
noncomputable def F_law_refused_v2 : WF := Classical.choose O_law_refused_v2
theorem F_law_refused_v2_eq : F_law_refused_v2 = fnM 3 5 (sSeq (sAsg (wLst 217 aNil) (gN 3)) (sSeq (sTry (sIf (tV (wOp oEq (wV 0) (wC (.int 0)))) (sEx (wCall F_card_cell (aCons (wV 1) (aCons (wV 2) aNil)))) (sIf (tV (wOp oEq (wV 0) (wC (.int 1)))) (sEx (wCall F_bell_cell (aCons (wV 1) (aCons (wV 2) aNil)))) (sEx (wMake "Board" 10 F_Board___init (aCons (wV 1) aNil))))) ["RingError"] (some 4) (fun c a => sAsg (wCall (F_law_flags_v1 c a) (aCons (wV 4) aNil)) (gN 3))) (sRet (wV 3)))) := Classical.choose_spec O_law_refused_v2
theorem O_law_cells_right : ∃ f : WF, f = fnM 2 10 (sSeq (sFor (iRng1 (wV 1)) (gN 2) (sSeq (sAsg (wLst 208 (aCons (wCall F_mark_cell (aCons (wV 2) aNil)) (aCons (wCall F_number_cell (aCons (wV 2) aNil)) (aCons (wCall F_left_cell (aCons (wV 2) aNil)) (aCons (wCall F_thing_cell (aCons (wV 2) aNil)) aNil))))) (gN 4)) (sIf (tOr (tV (wOp oNe (wV 4) (wComp 209 (iRng1 (wC (.int 4))) 8 tYes (wOp (oAdd 0) (wOp (oMul 0) (wC (.int 4)) (wV 2)) (wV 8))))) (tNot (tTru (wB bAll (aCons (wComp 210 (iSeq (wV 4)) 9 tYes (wCall F_law_whole (aCons (wV 9) aNil))) aNil))))) (sRet (wC (.bl false))) sNx))) (sSeq (sAsg (wCall F_law_far (aCons (wV 0) aNil)) (gN 3)) (sSeq (sIf (tV (wOp oNe (wLst 211 (aCons (wCall F_mark_cell (aCons (wV 3) aNil)) (aCons (wCall F_number_cell (aCons (wV 3) aNil)) (aCons (wCall F_left_cell (aCons (wV 3) aNil)) (aCons (wCall F_thing_cell (aCons (wV 3) aNil)) aNil))))) (wComp 212 (iRng1 (wC (.int 4))) 8 tYes (wOp (oAdd 0) (wOp (oMul 0) (wC (.int 4)) (wV 3)) (wV 8))))) (sRet (wC (.bl false))) sNx) (sSeq (sAsg (wLst 213 (aCons (wCall F_card_cell (aCons (wV 1) (aCons (wC (.str "giver")) aNil))) (aCons (wCall F_card_cell (aCons (wV 1) (aCons (wC (.str "taker")) aNil))) (aCons (wCall F_bell_cell (aCons (wV 1) (aCons (wC (.str "giver")) aNil))) (aCons (wCall F_bell_cell (aCons (wV 1) (aCons (wC (.str "taker")) aNil))) aNil))))) (gN 4)) (sSeq (sIf (tV (wOp oNe (wV 4) (wComp 214 (iRng1 (wC (.int 4))) 8 tYes (wOp (oAdd 0) (wOp (oMul 0) (wC (.int 4)) (wV 1)) (wV 8))))) (sRet (wC (.bl false))) sNx) (sSeq (sAsg (wOp oIx (wLst 215 (aCons (wC (.int 1)) (aCons (wC (.int 9)) (aCons (wOp oSub (wC (.int 1)) (wCall F_law_far (aCons (wV 0) aNil))) (aCons (wOp (oAdd 0) (wC (.int 8)) (wCall F_law_far (aCons (wV 0) aNil))) aNil))))) (wCall F_law_take (aCons (wV 0) (aCons (wC (.int 4)) aNil)))) (gN 5)) (sSeq (sAsg (wOp oIx (wLst 216 (aCons (wC (.str "")) (aCons (wC (.str "Giver")) (aCons (wC (.str "give")) (aCons (wC (.str "takers")) (aCons (wC (.str "asker")) (aCons (wC (.str "giver ")) aNil))))))) (wCall F_law_take (aCons (wV 0) (aCons (wC (.int 6)) aNil)))) (gN 6)) (sSeq (sFor (iRng1 (wC (.int 2))) (gN 7) (sSeq (sIf (tV (wOp oNe (wCall F_law_refused_v2 (aCons (wV 7) (aCons (wV 5) (aCons (wV 6) aNil)))) (wLst 219 (aCons (wC (.bl false)) (aCons (wC (.bl true)) (aCons (wC (.bl false)) (aCons (wC (.bl true)) (aCons (wC (.bl false)) (aCons (wC (.bl false)) aNil))))))))) (sRet (wC (.bl false))) sNx) (sIf (tV (wOp oNe (wCall F_law_refused_v2 (aCons (wV 7) (aCons (wV 1) (aCons (wV 6) aNil)))) (wLst 220 (aCons (wC (.bl false)) (aCons (wC (.bl false)) (aCons (wC (.bl true)) (aCons (wC (.bl true)) (aCons (wC (.bl false)) (aCons (wC (.bl false)) aNil))))))))) (sRet (wC (.bl false))) sNx))) (sRet (wOp oEq (wCall F_law_refused_v2 (aCons (wC (.int 2)) (aCons (wV 5) (aCons (wV 6) aNil)))) (wLst 221 (aCons (wC (.bl false)) (aCons (wC (.bl true)) (aCons (wC (.bl false)) (aCons (wC (.bl true)) (aCons (wC (.bl false)) (aCons (wC (.bl false)) aNil))))))))))))))))) := ⟨_, rfl⟩
noncomputable def F_law_cells_right : WF := Classical.choose O_law_cells_right
theorem F_law_cells_right_eq : F_law_cells_right = fnM 2 10 (sSeq (sFor (iRng1 (wV 1)) (gN 2) (sSeq (sAsg (wLst 208 (aCons (wCall F_mark_cell (aCons (wV 2) aNil)) (aCons (wCall F_number_cell (aCons (wV 2) aNil)) (aCons (wCall F_left_cell (aCons (wV 2) aNil)) (aCons (wCall F_thing_cell (aCons (wV 2) aNil)) aNil))))) (gN 4)) (sIf (tOr (tV (wOp oNe (wV 4) (wComp 209 (iRng1 (wC (.int 4))) 8 tYes (wOp (oAdd 0) (wOp (oMul 0) (wC (.int 4)) (wV 2)) (wV 8))))) (tNot (tTru (wB bAll (aCons (wComp 210 (iSeq (wV 4)) 9 tYes (wCall F_law_whole (aCons (wV 9) aNil))) aNil))))) (sRet (wC (.bl false))) sNx))) (sSeq (sAsg (wCall F_law_far (aCons (wV 0) aNil)) (gN 3)) (sSeq (sIf (tV (wOp oNe (wLst 211 (aCons (wCall F_mark_cell (aCons (wV 3) aNil)) (aCons (wCall F_number_cell (aCons (wV 3) aNil)) (aCons (wCall F_left_cell (aCons (wV 3) aNil)) (aCons (wCall F_thing_cell (aCons (wV 3) aNil)) aNil))))) (wComp 212 (iRng1 (wC (.int 4))) 8 tYes (wOp (oAdd 0) (wOp (oMul 0) (wC (.int 4)) (wV 3)) (wV 8))))) (sRet (wC (.bl false))) sNx) (sSeq (sAsg (wLst 213 (aCons (wCall F_card_cell (aCons (wV 1) (aCons (wC (.str "giver")) aNil))) (aCons (wCall F_card_cell (aCons (wV 1) (aCons (wC (.str "taker")) aNil))) (aCons (wCall F_bell_cell (aCons (wV 1) (aCons (wC (.str "giver")) aNil))) (aCons (wCall F_bell_cell (aCons (wV 1) (aCons (wC (.str "taker")) aNil))) aNil))))) (gN 4)) (sSeq (sIf (tV (wOp oNe (wV 4) (wComp 214 (iRng1 (wC (.int 4))) 8 tYes (wOp (oAdd 0) (wOp (oMul 0) (wC (.int 4)) (wV 1)) (wV 8))))) (sRet (wC (.bl false))) sNx) (sSeq (sAsg (wOp oIx (wLst 215 (aCons (wC (.int 1)) (aCons (wC (.int 9)) (aCons (wOp oSub (wC (.int 1)) (wCall F_law_far (aCons (wV 0) aNil))) (aCons (wOp (oAdd 0) (wC (.int 8)) (wCall F_law_far (aCons (wV 0) aNil))) aNil))))) (wCall F_law_take (aCons (wV 0) (aCons (wC (.int 4)) aNil)))) (gN 5)) (sSeq (sAsg (wOp oIx (wLst 216 (aCons (wC (.str "")) (aCons (wC (.str "Giver")) (aCons (wC (.str "give")) (aCons (wC (.str "takers")) (aCons (wC (.str "asker")) (aCons (wC (.str "giver ")) aNil))))))) (wCall F_law_take (aCons (wV 0) (aCons (wC (.int 6)) aNil)))) (gN 6)) (sSeq (sFor (iRng1 (wC (.int 2))) (gN 7) (sSeq (sIf (tV (wOp oNe (wCall F_law_refused_v2 (aCons (wV 7) (aCons (wV 5) (aCons (wV 6) aNil)))) (wLst 219 (aCons (wC (.bl false)) (aCons (wC (.bl true)) (aCons (wC (.bl false)) (aCons (wC (.bl true)) (aCons (wC (.bl false)) (aCons (wC (.bl false)) aNil))))))))) (sRet (wC (.bl false))) sNx) (sIf (tV (wOp oNe (wCall F_law_refused_v2 (aCons (wV 7) (aCons (wV 1) (aCons (wV 6) aNil)))) (wLst 220 (aCons (wC (.bl false)) (aCons (wC (.bl false)) (aCons (wC (.bl true)) (aCons (wC (.bl true)) (aCons (wC (.bl false)) (aCons (wC (.bl false)) aNil))))))))) (sRet (wC (.bl false))) sNx))) (sRet (wOp oEq (wCall F_law_refused_v2 (aCons (wC (.int 2)) (aCons (wV 5) (aCons (wV 6) aNil)))) (wLst 221 (aCons (wC (.bl false)) (aCons (wC (.bl true)) (aCons (wC (.bl false)) (aCons (wC (.bl true)) (aCons (wC (.bl false)) (aCons (wC (.bl false)) aNil))))))))))))))))) := Classical.choose_spec O_law_cells_right
theorem O_law_v6 : ∃ f : WF, f = fnM 1 16 (sSeq (sAsg (wCall F_law_well (aCons (wV 0) (aCons (wC (.int 0)) aNil))) (gN 1)) (sSeq (sAsg (wLst 189 (aCons (wOp (oAdd 0) (wC (.int 2)) (wCall F_law_take (aCons (wV 1) (aCons (wC (.int 7)) aNil)))) (aCons (wOp (oAdd 0) (wC (.int 2)) (wCall F_law_take (aCons (wV 1) (aCons (wC (.int 7)) aNil)))) aNil))) (gN 2)) (sSeq (sAsg (wComp 192 (iSeq (wV 2)) 14 tYes (wMake "Board" 10 F_Board___init (aCons (wV 14) aNil))) (gN 3)) (sSeq (sAsg (wComp 195 (iSeq (wV 2)) 14 tYes (wOp (oAdd 0) (wOp (oMul 0) (wLst 193 (aCons (wC (.int 2)) (aCons (wUn uNeg (wC (.int 1))) (aCons (wC (.int 0)) (aCons (wC (.int 0)) aNil))))) (wV 14)) (wLst 194 (aCons (wUn uNeg (wC (.int 1))) (aCons (wUn uNeg (wC (.int 1))) (aCons (wC (.int 0)) (aCons (wC (.int 0)) aNil))))))) (gN 4)) (sSeq (sAsg (wLst 196 (aCons (wC (.int 0)) (aCons (wC (.int 0)) aNil))) (gN 5)) (sSeq (sAsg (wLst 197 (aCons (wC .non) (aCons (wC .non) aNil))) (gN 6)) (sSeq (sFor (iRng1 (wB bMax (aCons (wC (.int 1)) (aCons (wB bMin (aCons (wC (.int 40)) (aCons (wB bLen (aCons (wV 0) aNil)) aNil))) aNil)))) (gN 7) (sSeq (sAsg (wCall F_law_well (aCons (wV 0) (aCons (wV 7) aNil))) (gN 8)) (sSeq (sAsg (wCall F_law_take (aCons (wV 8) (aCons (wC (.int 2)) aNil))) (gN 9)) (sSeq (sAsg (wOp oEq (wCall F_law_take (aCons (wV 8) (aCons (wC (.int 2)) aNil))) (wC (.int 0))) (gN 10)) (sSeq (sAsg (wOp oIx (wLst 198 (aCons (wCall F_law_take (aCons (wV 8) (aCons (wC (.int 4)) aNil))) (aCons (wCall F_law_far (aCons (wV 8) aNil)) (aCons (wOp oSub (wC (.int 0)) (wCall F_law_far (aCons (wV 8) aNil))) aNil)))) (wCall F_law_take (aCons (wV 8) (aCons (wC (.int 3)) aNil)))) (gN 11)) (sSeq (sAsg (wCall F_law_take (aCons (wV 8) (aCons (wB bLen (aCons (wOp oIx (wV 4) (wV 9)) aNil)) aNil))) (gN 12)) (sSeq (sIf (tV (wOp oEq (wCall F_law_take (aCons (wV 8) (aCons (wC (.int 5)) aNil))) (wC (.int 0)))) (sSeq (sAsg (wOp oIx (wLst 199 (aCons (wUn uNeg (wC (.int 1))) (aCons (wB bLen (aCons (wOp oIx (wV 4) (wV 9)) aNil)) (aCons (wOp oSub (wC (.int 0)) (wCall F_law_far (aCons (wV 8) aNil))) (aCons (wOp (oAdd 0) (wOp oSub (wB bLen (aCons (wOp oIx (wV 4) (wV 9)) aNil)) (wC (.int 1))) (wCall F_law_far (aCons (wV 8) aNil))) aNil))))) (wCall F_law_take (aCons (wV 8) (aCons (wC (.int 4)) aNil)))) (gN 12)) (sIf (tV (wOp oNe (wCall F_law_touched (aCons (wOp oIx (wV 3) (wV 9)) (aCons (wV 10) (aCons (wV 12) (aCons (wV 11) aNil))))) (wTup (aCons (wLst 200 (aCons (wC (.bl true)) (aCons (wC (.bl false)) (aCons (wC (.bl false)) (aCons (wC (.bl true)) (aCons (wC (.bl false)) (aCons (wC (.bl false)) aNil))))))) (aCons (wC .non) aNil))))) (sRet (wC (.bl false))) sNx)) (sSeq (sAsg (wC .non) (gN 15)) (sSeq (sIf (tTru (wV 10)) (sAsg (wV 11) (gIx (wOp oIx (wV 4) (wV 9)) (wV 12))) (sAsg (wOp oIx (wOp oIx (wV 4) (wV 9)) (wV 12)) (gN 15))) (sSeq (sIf (tV (wOp oNe (wCall F_law_touched (aCons (wOp oIx (wV 3) (wV 9)) (aCons (wV 10) (aCons (wV 12) (aCons (wV 11) aNil))))) (wTup (aCons (wLst 204 aNil) (aCons (wV 15) aNil))))) (sRet (wC (.bl false))) sNx) (sSeq (sAsg (wOp (oAdd 0) (wOp oIx (wV 5) (wV 9)) (wC (.int 1))) (gIx (wV 5) (wV 9))) (sAsg (wTup (aCons (wOp oIx (wLst 205 (aCons (wC (.str "read")) (aCons (wC (.str "write")) aNil))) (wB bInt (aCons (wV 10) aNil))) (aCons (wV 12) (aCons (wOp oIx (wOp oIx (wV 4) (wV 9)) (wV 12)) aNil)))) (gIx (wV 6) (wV 9)))))))) (sFor (iRng1 (wC (.int 2))) (gN 13) (sIf (tNot (tTru (wCall F_law_right_v2 (aCons (wOp oIx (wV 3) (wV 13)) (aCons (wOp oIx (wV 2) (wV 13)) (aCons (wOp oIx (wV 4) (wV 13)) (aCons (wOp oIx (wV 5) (wV 13)) (aCons (wOp oIx (wV 6) (wV 13)) aNil)))))))) (sRet (wC (.bl false))) sNx))))))))) (sRet (wCall F_law_cells_right (aCons (wV 1) (aCons (wOp oIx (wV 2) (wC (.int 0))) aNil))))))))))) := ⟨_, rfl⟩
noncomputable def F_law_v6 : WF := Classical.choose O_law_v6
theorem F_law_v6_eq : F_law_v6 = fnM 1 16 (sSeq (sAsg (wCall F_law_well (aCons (wV 0) (aCons (wC (.int 0)) aNil))) (gN 1)) (sSeq (sAsg (wLst 189 (aCons (wOp (oAdd 0) (wC (.int 2)) (wCall F_law_take (aCons (wV 1) (aCons (wC (.int 7)) aNil)))) (aCons (wOp (oAdd 0) (wC (.int 2)) (wCall F_law_take (aCons (wV 1) (aCons (wC (.int 7)) aNil)))) aNil))) (gN 2)) (sSeq (sAsg (wComp 192 (iSeq (wV 2)) 14 tYes (wMake "Board" 10 F_Board___init (aCons (wV 14) aNil))) (gN 3)) (sSeq (sAsg (wComp 195 (iSeq (wV 2)) 14 tYes (wOp (oAdd 0) (wOp (oMul 0) (wLst 193 (aCons (wC (.int 2)) (aCons (wUn uNeg (wC (.int 1))) (aCons (wC (.int 0)) (aCons (wC (.int 0)) aNil))))) (wV 14)) (wLst 194 (aCons (wUn uNeg (wC (.int 1))) (aCons (wUn uNeg (wC (.int 1))) (aCons (wC (.int 0)) (aCons (wC (.int 0)) aNil))))))) (gN 4)) (sSeq (sAsg (wLst 196 (aCons (wC (.int 0)) (aCons (wC (.int 0)) aNil))) (gN 5)) (sSeq (sAsg (wLst 197 (aCons (wC .non) (aCons (wC .non) aNil))) (gN 6)) (sSeq (sFor (iRng1 (wB bMax (aCons (wC (.int 1)) (aCons (wB bMin (aCons (wC (.int 40)) (aCons (wB bLen (aCons (wV 0) aNil)) aNil))) aNil)))) (gN 7) (sSeq (sAsg (wCall F_law_well (aCons (wV 0) (aCons (wV 7) aNil))) (gN 8)) (sSeq (sAsg (wCall F_law_take (aCons (wV 8) (aCons (wC (.int 2)) aNil))) (gN 9)) (sSeq (sAsg (wOp oEq (wCall F_law_take (aCons (wV 8) (aCons (wC (.int 2)) aNil))) (wC (.int 0))) (gN 10)) (sSeq (sAsg (wOp oIx (wLst 198 (aCons (wCall F_law_take (aCons (wV 8) (aCons (wC (.int 4)) aNil))) (aCons (wCall F_law_far (aCons (wV 8) aNil)) (aCons (wOp oSub (wC (.int 0)) (wCall F_law_far (aCons (wV 8) aNil))) aNil)))) (wCall F_law_take (aCons (wV 8) (aCons (wC (.int 3)) aNil)))) (gN 11)) (sSeq (sAsg (wCall F_law_take (aCons (wV 8) (aCons (wB bLen (aCons (wOp oIx (wV 4) (wV 9)) aNil)) aNil))) (gN 12)) (sSeq (sIf (tV (wOp oEq (wCall F_law_take (aCons (wV 8) (aCons (wC (.int 5)) aNil))) (wC (.int 0)))) (sSeq (sAsg (wOp oIx (wLst 199 (aCons (wUn uNeg (wC (.int 1))) (aCons (wB bLen (aCons (wOp oIx (wV 4) (wV 9)) aNil)) (aCons (wOp oSub (wC (.int 0)) (wCall F_law_far (aCons (wV 8) aNil))) (aCons (wOp (oAdd 0) (wOp oSub (wB bLen (aCons (wOp oIx (wV 4) (wV 9)) aNil)) (wC (.int 1))) (wCall F_law_far (aCons (wV 8) aNil))) aNil))))) (wCall F_law_take (aCons (wV 8) (aCons (wC (.int 4)) aNil)))) (gN 12)) (sIf (tV (wOp oNe (wCall F_law_touched (aCons (wOp oIx (wV 3) (wV 9)) (aCons (wV 10) (aCons (wV 12) (aCons (wV 11) aNil))))) (wTup (aCons (wLst 200 (aCons (wC (.bl true)) (aCons (wC (.bl false)) (aCons (wC (.bl false)) (aCons (wC (.bl true)) (aCons (wC (.bl false)) (aCons (wC (.bl false)) aNil))))))) (aCons (wC .non) aNil))))) (sRet (wC (.bl false))) sNx)) (sSeq (sAsg (wC .non) (gN 15)) (sSeq (sIf (tTru (wV 10)) (sAsg (wV 11) (gIx (wOp oIx (wV 4) (wV 9)) (wV 12))) (sAsg (wOp oIx (wOp oIx (wV 4) (wV 9)) (wV 12)) (gN 15))) (sSeq (sIf (tV (wOp oNe (wCall F_law_touched (aCons (wOp oIx (wV 3) (wV 9)) (aCons (wV 10) (aCons (wV 12) (aCons (wV 11) aNil))))) (wTup (aCons (wLst 204 aNil) (aCons (wV 15) aNil))))) (sRet (wC (.bl false))) sNx) (sSeq (sAsg (wOp (oAdd 0) (wOp oIx (wV 5) (wV 9)) (wC (.int 1))) (gIx (wV 5) (wV 9))) (sAsg (wTup (aCons (wOp oIx (wLst 205 (aCons (wC (.str "read")) (aCons (wC (.str "write")) aNil))) (wB bInt (aCons (wV 10) aNil))) (aCons (wV 12) (aCons (wOp oIx (wOp oIx (wV 4) (wV 9)) (wV 12)) aNil)))) (gIx (wV 6) (wV 9)))))))) (sFor (iRng1 (wC (.int 2))) (gN 13) (sIf (tNot (tTru (wCall F_law_right_v2 (aCons (wOp oIx (wV 3) (wV 13)) (aCons (wOp oIx (wV 2) (wV 13)) (aCons (wOp oIx (wV 4) (wV 13)) (aCons (wOp oIx (wV 5) (wV 13)) (aCons (wOp oIx (wV 6) (wV 13)) aNil)))))))) (sRet (wC (.bl false))) sNx))))))))) (sRet (wCall F_law_cells_right (aCons (wV 1) (aCons (wOp oIx (wV 2) (wC (.int 0))) aNil))))))))))) := Classical.choose_spec O_law_v6
end Mi
end TxDefs

section TxSBase
set_option autoImplicit false
set_option linter.all false
set_option maxRecDepth 100000
set_option maxHeartbeats 4000000
namespace Mi
theorem dmax_eq : dmax = 1000000000000000000000000000000000000000000000000000000000000 := by decide +kernel
/-- a well lies at place i of region 1 -/
def WellAt (h : MH) (i : Nat) : Prop := ∃ a b c : Int, rd h 1 i = some (.lst [.int a, .int b, .int c]) ∧ 0 ≤ b ∧ b < 1099511627776 ∧ 0 < c ∧ c < 2147483648
theorem WellAt.lt {h : MH} {i : Nat} (w : WellAt h i) : i < (h 1).length := let ⟨_, _, _, e, _⟩ := w; (List.getElem?_eq_some_iff.mp e).1
theorem take_spec {h : MH} {i : Nat} {m : Int} {Q : QV} {E : QX} (wl : WellAt h i) (h0 : 0 < m) (h1 : m ≤ dmax) (k : ∀ (g : Int) (h' : MH), 0 ≤ g → g < m → WellAt h' i → (∀ r, r ≠ 1 → h' r = h r) → Q (.int g) h') :
    F_law_take [.ref 1 i, .int m] h Q E := by
  have hi := wl.lt
  obtain ⟨a, b, c, e, b0, b1, c0, c1⟩ := wl
  simp [F_law_take_eq, e, hi, small, dmax_eq]
  have new : ∀ a' b' : Int, 0 ≤ b' → b' < 1099511627776 → WellAt (put h 1 ((h 1).set i (.lst [.int a', .int b', .int c]))) i := fun a' b' z1 z2 =>
    ⟨a', b', c, by simp [hi], z1, z2, c0, c1⟩
  have same : ∀ l r, r ≠ 1 → put h 1 l r = h r := fun l r hr => put_ne h l hr
  rw [dmax_eq] at h1
  split
  · exact ⟨h0, h1, k _ _ (Int.emod_nonneg _ (by omega)) (Int.emod_lt_of_pos _ h0) (new _ _ b0 b1) (same _)⟩
  · have q0 := Int.emod_nonneg (b * 48271) (show c ≠ 0 by omega)
    have q1 := Int.emod_lt_of_pos (b * 48271) c0
    exact ⟨c0, ⟨by omega, by omega⟩, h0, k _ _ (Int.emod_nonneg _ (by omega)) (Int.emod_lt_of_pos _ h0) (new _ _ (by omega) (by omega)) (same _)⟩
theorem le_dmax {n : Int} (h : n ≤ 1000000000000000000000000000000000000000000000000000000000000) : n ≤ dmax := by rw [dmax_eq]; exact h
theorem WellAt.of {h h' : MH} {i : Nat} (w : WellAt h i) (e : h' 1 = h 1) : WellAt h' i := by
  obtain ⟨a, b, c, z, k⟩ := w
  exact ⟨a, b, c, by rw [← z]; unfold rd; rw [e], k⟩
theorem small_two {P : Int → Prop} {g : Int} (a : 0 ≤ g) (b : g < 2) (p0 : P 0) (p1 : P 1) : P g := by
  have : g = 0 ∨ g = 1 := by omega
  rcases this with rfl | rfl <;> assumption
theorem far_spec {h : MH} {i : Nat} {Q : QV} {E : QX} (wl : WellAt h i) (k : ∀ (g : Int) (h' : MH), 1 ≤ g → g ≤ 10000000000000000000000000000000000000000000000000000000000 → WellAt h' i → (∀ r, r ≠ 1 → r ≠ 101 → h' r = h r) → Q (.int g) h') :
    F_law_far [.ref 1 i] h Q E := by
  simp [F_law_far_eq, lim]
  refine take_spec wl (by omega) (le_dmax (by omega)) fun g1 h1 a1 b1 w1 f1 => ?_
  simp [small]
  refine take_spec w1 (by omega) (le_dmax (by omega)) fun g2 h2 a2 b2 w2 f2 => ?_
  refine take_spec (w2.of (by simp)) (by omega) (le_dmax (by omega)) fun g3 h3 a3 b3 w3 f3 => ?_
  have e3 : h3 101 = _ := f3 101 (by decide)
  have fr : ∀ r, r ≠ 1 → r ≠ 101 → h3 r = h r := fun r x y => by rw [f3 r x, put_ne h2 _ y, f2 r x, f1 r x]
  have hg : g3 = 0 ∨ g3 = 1 := by omega
  rcases hg with rfl | rfl
  · simp [rd, e3]; exact k _ _ (by omega) (by omega) w3 fr
  · simp [rd, e3]; exact k _ _ (by omega) (by omega) w3 fr
theorem well_spec {xs : List MV} {h : MH} {k : Nat} {Q : QV} {E : QX} (hi : ∀ x ∈ xs, ∃ i, x = .int i) (hk : k < 64) (q : ∀ (h' : MH), WellAt h' (h 1).length → (∀ r, r ≠ 1 → r ≠ 100 → h' r = h r) → Q (.ref 1 (h 1).length) h') :
    F_law_well [.cst xs, .int k] h Q E := by
  have main : ∀ (c s : Int) (p : Int) (l : List MO), 0 ≤ s → s < 1099511627776 → p ∈ [2147483647, 2147483629, 2147483587, 2147483579, 2147483563, 2147483549, 2147483543, 2147483497] →
      Q (.ref 1 (h 1).length) (put (put h 100 l) 1 (h 1 ++ [.lst [.int c, .int s, .int p]])) := fun c s p l s0 s1 hp =>
    q _ ⟨c, s, p, by simp, s0, s1, by simp at hp; omega, by simp at hp; omega⟩ fun r a b => by rw [put_ne _ _ a, put_ne _ _ b]
  have kk : ∃ p : Int, p ∈ [(2147483647 : Int), 2147483629, 2147483587, 2147483579, 2147483563, 2147483549, 2147483543, 2147483497] ∧ atI [MV.int 2147483647, .int 2147483629, .int 2147483587, .int 2147483579, .int 2147483563, .int 2147483549, .int 2147483543, .int 2147483497] ((k : Int) % 8) = some (.int p) := by
    have : k % 8 < 8 := Nat.mod_lt _ (by decide)
    rw [show ((k : Int) % 8) = ((k % 8 : Nat) : Int) by omega, atI_nat]
    rcases (show k % 8 = 0 ∨ k % 8 = 1 ∨ k % 8 = 2 ∨ k % 8 = 3 ∨ k % 8 = 4 ∨ k % 8 = 5 ∨ k % 8 = 6 ∨ k % 8 = 7 by omega) with e | e | e | e | e | e | e | e <;> rw [e] <;> exact ⟨_, by decide, rfl⟩
  obtain ⟨p, hp, ep⟩ := kk
  by_cases c : k < xs.length
  · obtain ⟨x, hx⟩ := hi xs[k] (List.getElem_mem c)
    simp [F_law_well_eq, lim, small, c, atI_nat, hx, rd, ep]
    have z1 := Int.emod_nonneg x (show (2147483489 : Int) ≠ 0 by decide)
    have z2 := Int.emod_lt_of_pos x (show (0 : Int) < 2147483489 by decide)
    have z3 := Int.emod_nonneg ((x % 2147483489 + 1) * (48271 + 2 * k)) (show (2147483489 : Int) ≠ 0 by decide)
    have z4 := Int.emod_lt_of_pos ((x % 2147483489 + 1) * (48271 + 2 * k)) (show (0 : Int) < 2147483489 by decide)
    have hw := Int.emod_nonneg ((x % 2147483489 + 1) * (48271 + 2 * k) % 2147483489 * ((x % 2147483489 + 1) * (48271 + 2 * k) % 2147483489)) (show (2147483477 : Int) ≠ 0 by decide)
    have hv := Int.emod_lt_of_pos ((x % 2147483489 + 1) * (48271 + 2 * k) % 2147483489 * ((x % 2147483489 + 1) * (48271 + 2 * k) % 2147483489)) (show (0 : Int) < 2147483477 by decide)
    refine ⟨Or.inl ⟨by omega, by omega⟩, ⟨by omega, by omega⟩, ?_⟩
    split <;> exact main _ _ _ _ (by omega) (by omega) hp
  · simp [F_law_well_eq, lim, small, c, atI_nat, rd, ep]
    have z3 := Int.emod_nonneg (48271 + 2 * k) (show (2147483489 : Int) ≠ 0 by decide)
    have z4 := Int.emod_lt_of_pos (48271 + 2 * k) (show (0 : Int) < 2147483489 by decide)
    have hw := Int.emod_nonneg ((48271 + 2 * (k : Int)) % 2147483489 * ((48271 + 2 * k) % 2147483489)) (show (2147483477 : Int) ≠ 0 by decide)
    have hv := Int.emod_lt_of_pos ((48271 + 2 * (k : Int)) % 2147483489 * ((48271 + 2 * k) % 2147483489)) (show (0 : Int) < 2147483477 by decide)
    exact ⟨⟨by omega, by omega⟩, main _ _ _ _ (by omega) (by omega) hp⟩
theorem whole_spec {h : MH} {n : Int} {Q : QV} {E : QX} (q : Q (.bl true) h) : F_law_whole [.int n] h Q E := by
  simp [F_law_whole_eq]
  exact q
end Mi
end TxSBase

section TxSTurns
set_option autoImplicit false
set_option linter.all false
set_option maxRecDepth 100000
set_option maxHeartbeats 4000000
namespace Mi
/-! the ring -/
theorem size_ok {h : MH} {n : Int} {Q : QV} {E : QX} (a : 2 ≤ n) (b : n ≤ 8) (q : Q .non h) : F_look_at_size [.int n] h Q E := by
  simp [F_look_at_size_eq]
  rw [if_neg (by omega), if_neg (by omega)]
  exact q
theorem size_bad {h : MH} {n : Int} {Q : QV} {E : QX} (a : n < 2 ∨ 8 < n) (q : E "BadSize" h) : F_look_at_size [.int n] h Q E := by
  simp [F_look_at_size_eq]
  by_cases c : n < 2
  · rw [if_pos c]; exact q
  · rw [if_neg c, if_pos (by omega)]; exact q
theorem turn_ok {h : MH} {n t : Int} {Q : QV} {E : QX} (a : 2 ≤ n) (b : n ≤ 8) (c : 0 ≤ t) (d : t < 2 * n) (q : Q .non h) : F_look_at_turn [.int n, .int t] h Q E := by
  simp [F_look_at_turn_eq, small]
  refine size_ok a b ?_
  rw [if_neg (by omega), if_neg (by omega)]
  exact q
theorem turn_size {h : MH} {n t : Int} {Q : QV} {E : QX} (a : n < 2 ∨ 8 < n) (q : E "BadSize" h) : F_look_at_turn [.int n, .int t] h Q E := by
  simp [F_look_at_turn_eq, small]
  exact size_bad a q
theorem turn_bad {h : MH} {n t : Int} {Q : QV} {E : QX} (a : 2 ≤ n) (b : n ≤ 8) (c : t < 0 ∨ 2 * n ≤ t) (q : E "NoTurn" h) : F_look_at_turn [.int n, .int t] h Q E := by
  simp [F_look_at_turn_eq, small]
  refine size_ok a b ?_
  by_cases z : t < 0
  · rw [if_pos z]; exact q
  · rw [if_neg z, if_pos (by omega)]; exact q
theorem place_ok {h : MH} {n t : Int} {Q : QV} {E : QX} (a : 2 ≤ n) (b : n ≤ 8) (c : 0 ≤ t) (d : t < 2 * n) (q : Q (.int (t % n)) h) : F_place_of [.int n, .int t] h Q E := by
  simp [F_place_of_eq]; refine turn_ok a b c d ?_; exact ⟨by omega, q⟩
theorem lap_ok {h : MH} {n t : Int} {Q : QV} {E : QX} (a : 2 ≤ n) (b : n ≤ 8) (c : 0 ≤ t) (d : t < 2 * n) (q : Q (.int (t / n)) h) : F_lap_of [.int n, .int t] h Q E := by
  simp [F_lap_of_eq, dmax_eq]; refine turn_ok a b c d ?_; exact ⟨by omega, by omega, q⟩
theorem onward_ok {h : MH} {n t m : Int} {Q : QV} {E : QX} (a : 2 ≤ n) (b : n ≤ 8) (c : 0 ≤ t) (d : t < 2 * n) (q : Q (.int ((t + m) % (2 * n))) h) : F_onward [.int n, .int t, .int m] h Q E := by
  simp [F_onward_eq, small]; refine turn_ok a b c d ?_; exact ⟨by omega, q⟩
theorem distance_ok {h : MH} {n t u : Int} {Q : QV} {E : QX} (a : 2 ≤ n) (b : n ≤ 8) (c : 0 ≤ t) (d : t < 2 * n) (c' : 0 ≤ u) (d' : u < 2 * n) (q : Q (.int ((u - t) % (2 * n))) h) : F_distance [.int n, .int t, .int u] h Q E := by
  simp [F_distance_eq, small]; refine turn_ok a b c d ?_; refine turn_ok a b c' d' ?_; exact ⟨by omega, q⟩
/-- what look_at_turn answers -/
inductive TurnR (n t : Int) : Option String → Prop where
  | ok (a : 2 ≤ n) (b : n ≤ 8) (c : 0 ≤ t) (d : t < 2 * n) : TurnR n t none
  | size (a : n < 2 ∨ 8 < n) : TurnR n t (some "BadSize")
  | turn (a : 2 ≤ n) (b : n ≤ 8) (c : t < 0 ∨ 2 * n ≤ t) : TurnR n t (some "NoTurn")
theorem turn_r {h : MH} {n t : Int} {o : Option String} {Q : QV} {E : QX} (r : TurnR n t o) (q : o = none → Q .non h) (e : ∀ c, o = some c → E c h) : F_look_at_turn [.int n, .int t] h Q E := by
  cases r with
  | ok a b c d => exact turn_ok a b c d (q rfl)
  | size a => exact turn_size a (e _ rfl)
  | turn a b c => exact turn_bad a b c (e _ rfl)
theorem TurnR.pos {n t : Int} {o : Option String} (r : TurnR n t o) (e : o = none) : 2 ≤ n ∧ n ≤ 8 ∧ 0 ≤ t ∧ t < 2 * n := by
  cases r with
  | ok a b c d => exact ⟨a, b, c, d⟩
  | size a => exact nomatch e
  | turn a b c => exact nomatch e
theorem place_r {h : MH} {n t : Int} {o : Option String} {Q : QV} {E : QX} (r : TurnR n t o) (q : o = none → ∀ v, Q v h) (e : ∀ c, o = some c → E c h) : F_place_of [.int n, .int t] h Q E := by
  simp [F_place_of_eq]; refine turn_r r (fun z => ?_) e; have := r.pos z; exact ⟨by omega, q z _⟩
theorem lap_r {h : MH} {n t : Int} {o : Option String} {Q : QV} {E : QX} (r : TurnR n t o) (q : o = none → ∀ v, Q v h) (e : ∀ c, o = some c → E c h) : F_lap_of [.int n, .int t] h Q E := by
  simp [F_lap_of_eq, dmax_eq]; refine turn_r r (fun z => ?_) e; have := r.pos z; exact ⟨by omega, by omega, q z _⟩
theorem onward_r {h : MH} {n t m : Int} {o : Option String} {Q : QV} {E : QX} (r : TurnR n t o) (q : o = none → ∀ v, Q v h) (e : ∀ c, o = some c → E c h) : F_onward [.int n, .int t, .int m] h Q E := by
  simp [F_onward_eq, small]; refine turn_r r (fun z => ?_) e; have := r.pos z; exact ⟨by omega, q z _⟩
theorem TurnR.other {n t u : Int} {o : Option String} (r : TurnR n t o) (hu : 2 ≤ n → n ≤ 8 → 0 ≤ u ∧ u < 2 * n) : TurnR n u none ∨ ∃ c, o = some c ∧ TurnR n u (some c) := by
  cases r with
  | ok a b c d => exact Or.inl (.ok a b (hu a b).1 (hu a b).2)
  | size a => exact Or.inr ⟨_, rfl, .size a⟩
  | turn a b c => exact Or.inl (.ok a b (hu a b).1 (hu a b).2)
theorem dist_r {h : MH} {n t u : Int} {o : Option String} {Q : QV} {E : QX} (r : TurnR n t o) (hu : 2 ≤ n → n ≤ 8 → 0 ≤ u ∧ u < 2 * n) (q : o = none → ∀ v, Q v h) (e : ∀ c, o = some c → E c h) : F_distance [.int n, .int t, .int u] h Q E := by
  simp [F_distance_eq, small]; refine turn_r r (fun z => ?_) e; have := r.pos z
  have := hu this.1 this.2.1
  exact turn_ok (by omega) (by omega) this.1 this.2 ⟨by omega, q z _⟩
theorem dist_r2 {h : MH} {n t u : Int} {o : Option String} {Q : QV} {E : QX} (r : TurnR n t o) (hu : 2 ≤ n → n ≤ 8 → 0 ≤ u ∧ u < 2 * n) (q : o = none → ∀ v, Q v h) (e : ∀ c, o = some c → E c h) : F_distance [.int n, .int u, .int t] h Q E := by
  simp [F_distance_eq, small]
  rcases r.other hu with y | ⟨c, z, y⟩
  · refine turn_r y (fun _ => ?_) (fun _ h => nomatch h)
    have := y.pos rfl
    exact turn_r r (fun z => ⟨by omega, q z _⟩) e
  · subst z
    refine turn_r y (fun h => nomatch h) (fun d z => ?_)
    cases z; exact e _ rfl
theorem TurnR.cls {n t : Int} {o : Option String} (r : TurnR n t o) {c : String} (e : o = some c) : c = "BadSize" ∨ c = "NoTurn" := by
  cases r with
  | ok a b c d => exact nomatch e
  | size a => cases e; exact Or.inl rfl
  | turn a b c => cases e; exact Or.inr rfl
end Mi
end TxSTurns

section TxSMarks
set_option autoImplicit false
set_option linter.all false
set_option maxRecDepth 100000
set_option maxHeartbeats 4000000
namespace Mi
theorem lap_v {h : MH} {n t : Int} {o : Option String} {Q : QV} {E : QX} (r : TurnR n t o) (q : o = none → Q (.int (t / n)) h) (e : ∀ c, o = some c → E c h) : F_lap_of [.int n, .int t] h Q E := by
  simp [F_lap_of_eq, dmax_eq]; refine turn_r r (fun z => ?_) e; have := r.pos z; exact ⟨by omega, by omega, q z⟩
theorem lap01 {n t : Int} (a : 2 ≤ n) (c : 0 ≤ t) (d : t < 2 * n) : t / n = if n ≤ t then 1 else 0 := by
  split
  · have h1 : 1 ≤ t / n := by rw [Int.le_ediv_iff_mul_le (by omega)]; omega
    have h2 : t / n < 2 := by rw [Int.ediv_lt_iff_lt_mul (by omega)]; omega
    omega
  · exact Int.ediv_eq_zero_of_lt c (by omega)
theorem mark_ok {h : MH} {m : Int} {Q : QV} {E : QX} (a : 0 ≤ m) (b : m ≤ 3) (q : Q .non h) : F_look_at_mark [.int m] h Q E := by
  simp [F_look_at_mark_eq]
  rw [if_neg (by omega), if_neg (by omega)]
  exact q
theorem mark_bad {h : MH} {m : Int} {Q : QV} {E : QX} (a : m < 0 ∨ 3 < m) (q : E "BadMark" h) : F_look_at_mark [.int m] h Q E := by
  simp [F_look_at_mark_eq]
  by_cases c : m < 0
  · rw [if_pos c]; exact q
  · rw [if_neg c, if_pos (by omega)]; exact q
theorem full_v {h : MH} {n t : Int} {o : Option String} {Q : QV} {E : QX} (r : TurnR n t o) (q : o = none → Q (.int (2 * (t / n) + 1)) h) (e : ∀ c, o = some c → E c h) : F_full_mark [.int n, .int t] h Q E := by
  simp [F_full_mark_eq, small]
  exact lap_v r (fun z => by simpa [small] using q z) e
theorem free_v {h : MH} {n t : Int} {o : Option String} {Q : QV} {E : QX} (r : TurnR n t o) (q : o = none → Q (.int (2 * (t / n))) h) (e : ∀ c, o = some c → E c h) : F_free_mark [.int n, .int t] h Q E := by
  simp [F_free_mark_eq, small]
  exact lap_v r (fun z => by simpa [small] using q z) e
/-- with a mark, too -/
inductive MarkR (n t m : Int) : Option String → Prop where
  | ok (a : TurnR n t none) (b : 0 ≤ m) (c : m ≤ 3) : MarkR n t m none
  | turn (c : String) (a : TurnR n t (some c)) : MarkR n t m (some c)
  | mark (a : TurnR n t none) (b : m < 0 ∨ 3 < m) : MarkR n t m (some "BadMark")
theorem give_v {h : MH} {n t m : Int} {o : Option String} {Q : QV} {E : QX} (r : MarkR n t m o) (q : o = none → Q (.bl (decide (m = 2 * (1 - t / n)))) h) (e : ∀ c, o = some c → E c h) : F_may_give [.int n, .int t, .int m] h Q E := by
  simp [F_may_give_eq, small]
  cases r with
  | ok a b c => exact lap_v a (fun _ => mark_ok b c (by simpa [small] using q rfl)) fun c z => nomatch z
  | turn c a => exact lap_v a (fun z => nomatch z) fun c' z => by cases z; exact e _ rfl
  | mark a b => exact lap_v a (fun _ => mark_bad b (e _ rfl)) fun c z => nomatch z
theorem take_v {h : MH} {n t m : Int} {o : Option String} {Q : QV} {E : QX} (r : MarkR n t m o) (q : o = none → Q (.bl (decide (m = 2 * (t / n) + 1))) h) (e : ∀ c, o = some c → E c h) : F_may_take [.int n, .int t, .int m] h Q E := by
  simp [F_may_take_eq, small]
  cases r with
  | ok a b c => exact lap_v a (fun _ => mark_ok b c (by simpa [small] using q rfl)) fun c z => nomatch z
  | turn c a => exact lap_v a (fun z => nomatch z) fun c' z => by cases z; exact e _ rfl
  | mark a b => exact lap_v a (fun _ => mark_bad b (e _ rfl)) fun c z => nomatch z
end Mi
end TxSMarks

section TxSGrow
set_option autoImplicit false
set_option linter.all false
set_option maxRecDepth 100000
set_option maxHeartbeats 4000000
namespace Mi
/-- what lay there outside of region 1 stays -/
def Grow (h h' : MH) : Prop := ∀ r i o, r ≠ 1 → rd h r i = some o → rd h' r i = some o
theorem Grow.refl (h : MH) : Grow h h := fun _ _ _ _ e => e
theorem Grow.trans {a b c : MH} (x : Grow a b) (y : Grow b c) : Grow a c := fun r i o n e => y r i o n (x r i o n e)
theorem grow_new (h : MH) (r : Nat) (o : MO) : Grow h (put h r (h r ++ [o])) := fun q i p _ e => by
  by_cases c : q = r
  · subst c
    rw [rd_put]
    have : i < (h q).length := (List.getElem?_eq_some_iff.mp e).1
    rw [List.getElem?_append_left this]
    exact e
  · rw [rd_put_ne h _ c]; exact e
theorem grow_take {h h' : MH} (f : ∀ r, r ≠ 1 → h' r = h r) : Grow h h' := fun r i o n e => by unfold rd; rw [f r n]; exact e
/-- a list of whole numbers -/
def Ints (h : MH) (v : MV) (ns : List Int) : Prop := ∃ r i, r ≠ 1 ∧ v = .ref r i ∧ rd h r i = some (.lst (ns.map .int))
theorem Ints.grow {h h' : MH} {v : MV} {ns : List Int} (g : Grow h h') (x : Ints h v ns) : Ints h' v ns := by
  obtain ⟨r, i, n, e, z⟩ := x
  exact ⟨r, i, n, e, g r i _ n z⟩
theorem ints_new (h : MH) {r : Nat} (hr : r ≠ 1) (ns : List Int) : Ints (put h r (h r ++ [.lst (ns.map .int)])) (.ref r (h r).length) ns := ⟨r, _, hr, rfl, by simp⟩
/-- a comprehension without if, by a word of the items made so far -/
theorem comp_inv {r : Nat} {chk : MH → Prop} {i : Nat} {e : WE} {σ : MS} {Q : QV} (I : Nat → List MV → MH → Prop) : ∀ (xs : List MV) (k : Nat) (acc : List MV) (h : MH), I k acc h → (∀ k acc h, I k acc h → chk h ∧ acc.length < lim) →
    (∀ (j : Nat) (x : MV) (acc : List MV) (h : MH) (N : QV), xs[j]? = some x → I (k + j) acc h → (∀ v h', I (k + j + 1) (acc ++ [v]) h' → N v h') → e (σ.set i (some x)) h N fun _ _ => False) →
    (∀ acc h, I (k + xs.length) acc h → Q (.ref r (h r).length) (put h r (h r ++ [.lst acc]))) → compL r chk i tYes e σ Q xs acc h
  | [], k, acc, h, h0, hc, hs, hd => by rw [compL_nil]; exact ⟨(hc _ _ _ h0).1, hd acc h h0⟩
  | x :: xs, k, acc, h, h0, hc, hs, hd => by
    rw [compL_cons]
    refine ⟨(hc _ _ _ h0).1, ?_⟩
    simp only [tYes, if_true]
    refine hs 0 x acc h _ rfl h0 fun v h' hI => ⟨(hc _ _ _ h0).2, ?_⟩
    refine comp_inv I xs (k + 1) (acc ++ [v]) h' hI hc (fun j y acc h N e hI hN => ?_) fun acc h hI => ?_
    · have := hs (j + 1) y acc h N (by simpa using e) (by rw [show k + (j + 1) = k + 1 + j by omega]; exact hI)
      rw [show k + (j + 1) + 1 = k + 1 + j + 1 by omega] at this
      exact this hN
    · exact hd acc h (by rw [List.length_cons, show k + (xs.length + 1) = k + 1 + xs.length by omega]; exact hI)
theorem take_g {h : MH} {i : Nat} {m : Int} {Q : QV} {E : QX} (wl : WellAt h i) (h0 : 0 < m) (h1 : m ≤ dmax) (k : ∀ (g : Int) (h' : MH), 0 ≤ g → g < m → WellAt h' i → Grow h h' → Q (.int g) h') :
    F_law_take [.ref 1 i, .int m] h Q E := take_spec wl h0 h1 fun g h' a b w f => k g h' a b w (grow_take f)
theorem far_g {h : MH} {i : Nat} {Q : QV} {E : QX} (wl : WellAt h i) (k : ∀ (g : Int) (h' : MH), 1 ≤ g → g ≤ 10000000000000000000000000000000000000000000000000000000000 → WellAt h' i → Grow h h' → Q (.int g) h') :
    F_law_far [.ref 1 i] h Q E := by
  simp [F_law_far_eq, lim]
  refine take_spec wl (by omega) (le_dmax (by omega)) fun g1 h1 a1 b1 w1 f1 => ?_
  simp [small]
  refine take_spec w1 (by omega) (le_dmax (by omega)) fun g2 h2 a2 b2 w2 f2 => ?_
  refine take_spec (w2.of (by simp)) (by omega) (le_dmax (by omega)) fun g3 h3 a3 b3 w3 f3 => ?_
  have e3 : h3 101 = _ := f3 101 (by decide)
  have fr : Grow h h3 := ((((grow_take f1).trans (grow_take f2)).trans (grow_new h2 101 _)).trans (grow_take f3))
  have hg : g3 = 0 ∨ g3 = 1 := by omega
  rcases hg with rfl | rfl
  · simp [rd, e3]; exact k _ _ (by omega) (by omega) w3 fr
  · simp [rd, e3]; exact k _ _ (by omega) (by omega) w3 fr
end Mi
end TxSGrow

section TxSUtil
set_option autoImplicit false
set_option linter.all false
set_option maxRecDepth 100000
set_option maxHeartbeats 4000000
namespace Mi
theorem grow_set {h h' : MH} (g : Grow h h') {r n : Nat} {o : MO} (e : rd h r n = none) : Grow h (put h' r ((h' r).set n o)) := fun q i p hq z => by
  have z' := g q i p hq z
  by_cases c : q = r
  · subst c
    rw [rd_put, List.getElem?_set_ne]
    · exact z'
    · intro x; subst x; rw [e] at z; cases z
  · rw [rd_put_ne _ _ c]; exact z'
theorem rd_end (h : MH) (r : Nat) : rd h r (h r).length = none := List.getElem?_eq_none (Nat.le_refl _)
theorem rd_lt {h : MH} {r i : Nat} {o : MO} (e : rd h r i = some o) : i < (h r).length := (List.getElem?_eq_some_iff.mp e).1
/-- a for of any target, by a word of the items that are taken -/
theorem forG_inv {chk : MH → Prop} {g : WG} {b : WS} {D : En} (I : Nat → MS → MH → Prop) : ∀ (xs : List MV) (k : Nat) (σ : MS) (h : MH), I k σ h → (∀ k σ h, I k σ h → chk h) →
    (∀ (j : Nat) (x : MV) (σ : MS) (h : MH) (N : MS → MH → Prop), xs[j]? = some x → I (k + j) σ h → (∀ σ h, I (k + j + 1) σ h → N σ h) → g x σ h (fun σ1 h1 => b { D with nx := N, ct := N, bk := D.nx } σ1 h1) fun c h1 => D.ex c σ h1) →
    (∀ σ h, I (k + xs.length) σ h → D.nx σ h) → forL chk g b xs D σ h
  | [], k, σ, h, h0, hc, hs, hd => by rw [forL_nil]; exact ⟨hc k σ h h0, hd σ h h0⟩
  | x :: xs, k, σ, h, h0, hc, hs, hd => by
    rw [forL_cons]
    refine ⟨hc k σ h h0, ?_⟩
    refine hs 0 x σ h _ rfl h0 fun σ h hI => ?_
    refine forG_inv I xs (k + 1) σ h hI hc (fun j y σ h N e hI hN => ?_) fun σ h hI => ?_
    · have := hs (j + 1) y σ h N (by simpa using e) (by rw [show k + (j + 1) = k + 1 + j by omega]; exact hI)
      rw [show k + (j + 1) + 1 = k + 1 + j + 1 by omega] at this
      exact this hN
    · exact hd σ h (by rw [List.length_cons, show k + (xs.length + 1) = k + 1 + xs.length by omega]; exact hI)
theorem comp_map {r : Nat} {chk : MH → Prop} {i : Nat} {e : WE} {σ : MS} {Q : QV} {h : MH} {ns : List Int} {f : Int → MV} (hl : ns.length < lim) (hc : chk h)
    (he : ∀ m ∈ ns, ∀ N : QV, N (f m) h → e (σ.set i (some (.int m))) h N fun _ _ => False) (q : Q (.ref r (h r).length) (put h r (h r ++ [.lst (ns.map f)]))) : compL r chk i tYes e σ Q (ns.map .int) [] h := by
  refine comp_inv (fun k acc h' => h' = h ∧ k ≤ ns.length ∧ acc = (ns.take k).map f) _ 0 [] h ⟨rfl, Nat.zero_le _, rfl⟩ ?_ ?_ ?_
  · rintro k acc h' ⟨rfl, a, rfl⟩
    refine ⟨hc, ?_⟩
    rw [List.length_map, List.length_take]; omega
  · rintro j x acc h' N hj ⟨rfl, a, rfl⟩ hN
    rw [List.getElem?_map] at hj
    obtain ⟨m, e1, rfl⟩ := Option.map_eq_some_iff.mp hj
    have hlt : j < ns.length := (List.getElem?_eq_some_iff.mp e1).1
    refine he m (List.mem_of_getElem? e1) N (hN _ _ ⟨rfl, by omega, ?_⟩)
    rw [Nat.zero_add, List.take_succ, e1]
    simp
  · rintro acc h' ⟨rfl, a, rfl⟩
    rw [List.length_map, Nat.zero_add, List.take_length]
    exact q
theorem allB_const : ∀ ns : List Int, allB (ns.map fun _ => MV.bl true) = some (ns.map fun _ => true)
  | [] => rfl
  | n :: ns => by simp [allB_const ns]
theorem comp_filter {r : Nat} {chk : MH → Prop} {i : Nat} {t : WT} {e : WE} {σ : MS} {Q : QV} {h : MH} {p : Int → Bool} (hc : chk h) : ∀ (ns : List Int) (acc : List MV), acc.length + ns.length < lim →
    (∀ m ∈ ns, ∀ N : Bool → MH → Prop, N (p m) h → t (σ.set i (some (.int m))) h N fun _ _ => False) → (∀ m ∈ ns, ∀ N : QV, N (.int m) h → e (σ.set i (some (.int m))) h N fun _ _ => False) →
    (Q (.ref r (h r).length) (put h r (h r ++ [.lst (acc ++ (ns.filter p).map .int)]))) → compL r chk i t e σ Q (ns.map .int) acc h
  | [], acc, hl, ht, he, q => by rw [List.map_nil, compL_nil]; exact ⟨hc, by simpa using q⟩
  | n :: ns, acc, hl, ht, he, q => by
    rw [List.map_cons, compL_cons]
    refine ⟨hc, ht n List.mem_cons_self _ ?_⟩
    rw [List.length_cons] at hl
    by_cases c : p n = true
    · rw [if_pos c]
      refine he n List.mem_cons_self _ ⟨by omega, comp_filter hc ns _ (by simp; omega) (fun m hm => ht m (List.mem_cons_of_mem _ hm)) (fun m hm => he m (List.mem_cons_of_mem _ hm)) ?_⟩
      rw [List.filter_cons_of_pos c] at q
      simpa using q
    · rw [if_neg c]
      refine comp_filter hc ns _ (by omega) (fun m hm => ht m (List.mem_cons_of_mem _ hm)) (fun m hm => he m (List.mem_cons_of_mem _ hm)) ?_
      rw [List.filter_cons_of_neg c] at q
      exact q
theorem comp_rng {r : Nat} {i : Nat} {e : WE} {σ : MS} {Q : QV} {h : MH} {n : Nat} {f : Nat → MV} (hl : n < lim)
    (he : ∀ k, k < n → ∀ N : QV, N (f k) h → e (σ.set i (some (.int (k : Int)))) h N fun _ _ => False) (q : Q (.ref r (h r).length) (put h r (h r ++ [.lst ((List.range n).map f)]))) : compL r (fun _ => True) i tYes e σ Q (rng 0 n) [] h := by
  refine comp_inv (fun k acc h' => h' = h ∧ k ≤ n ∧ acc = (List.range k).map f) _ 0 [] h ⟨rfl, Nat.zero_le _, rfl⟩ ?_ ?_ ?_
  · rintro k acc h' ⟨rfl, a, rfl⟩
    refine ⟨trivial, ?_⟩
    rw [List.length_map, List.length_range]; omega
  · rintro j x acc h' N hj ⟨rfl, a, rfl⟩ hN
    obtain ⟨hj2, rfl⟩ := rng_at hj
    rw [Int.zero_add]
    refine he j hj2 N (hN _ _ ⟨rfl, by omega, ?_⟩)
    rw [Nat.zero_add, List.range_succ, List.map_append]; rfl
  · rintro acc h' ⟨rfl, a, rfl⟩
    rw [rng_size, Nat.zero_add]
    exact q
mutual
theorem PD.eqv_refl : ∀ d : PD, PD.eqv d d = true
  | .non => by simp
  | .bl b => by simp
  | .int i => by simp
  | .str s => by simp
  | .tup xs => by rw [eqv_tup]; exact PD.eqvs_refl xs
  | .lst xs => by rw [eqv_lst]; exact PD.eqvs_refl xs
theorem PD.eqvs_refl : ∀ d : List PD, PD.eqvs d d = true
  | [] => by simp
  | x :: xs => by rw [eqvs_cc, PD.eqv_refl x, PD.eqvs_refl xs]; rfl
end
theorem datL_bls (h : MH) (n : Nat) : ∀ ns : List Bool, datL h n (ns.map .bl) = some (ns.map .bl)
  | [] => rfl
  | i :: ns => by simp [datL_bls h n ns]
theorem dat_bls {h : MH} {r i : Nat} {ns : List Bool} (e : rd h r i = some (.lst (ns.map .bl))) : dat h deep (.ref r i) = some (.lst (ns.map .bl)) := by
  rw [dat_ref, e]
  simp only [datL_bls, Option.map_some]
theorem eqvs_bls : ∀ a b : List Bool, PD.eqvs (a.map .bl) (b.map .bl) = decide (a = b)
  | [], [] => by simp
  | [], b :: bs => by simp
  | a :: as, [] => by simp
  | a :: as, b :: bs => by
    rw [List.map_cons, List.map_cons, eqvs_cc, eqv_bl, eqvs_bls as bs]
    by_cases c : a = b <;> simp [c]
theorem rep_one (x : MV) : ∀ n : Nat, rep [x] n = List.replicate n x
  | 0 => rfl
  | n + 1 => by
    unfold rep
    rw [List.replicate_succ, List.flatten_cons, List.replicate_succ, ← rep_one x n]
    rfl
theorem grow_app {h g : MH} (x : Grow h g) (r : Nat) (l : List MO) : Grow h (put g r (h r ++ l)) := fun q i p n e => by
  by_cases c : q = r
  · subst c
    rw [rd_put]
    have : i < (h q).length := (List.getElem?_eq_some_iff.mp e).1
    rw [List.getElem?_append_left this]
    exact e
  · rw [rd_put_ne g _ c]; exact x q i p n e
theorem dat_ints {h : MH} {r i : Nat} {ns : List Int} (e : rd h r i = some (.lst (ns.map .int))) : dat h deep (.ref r i) = some (.lst (ns.map .int)) := by
  rw [dat_ref, e]
  simp only [datL_ints, Option.map_some]
theorem cut_to {α : Type} (xs : List α) {q : Int} (h : 0 ≤ q) : cut xs none (some q) = xs.take q.toNat := by
  have e : sIx xs.length xs.length (some q) = min q.toNat xs.length := by
    show (if q < 0 then (q + xs.length).toNat else min q.toNat xs.length) = _
    rw [if_neg (by omega)]
  have e0 : sIx xs.length 0 none = 0 := rfl
  unfold cut
  rw [e, e0, List.drop_zero, Nat.sub_zero]
  by_cases c : q.toNat ≤ xs.length
  · rw [Nat.min_eq_left c]
  · rw [Nat.min_eq_right (by omega), List.take_length, List.take_of_length_le (by omega)]
theorem rep_map (xs : List Int) : ∀ n : Nat, rep (xs.map MV.int) n = (List.replicate n xs).flatten.map MV.int
  | 0 => rfl
  | n + 1 => by
    have := rep_map xs n
    unfold rep at this ⊢
    rw [List.replicate_succ, List.flatten_cons, this, List.replicate_succ, List.flatten_cons, List.map_append]
theorem rep_len (xs : List Int) (n : Nat) : (List.replicate n xs).flatten.length = n * xs.length := by simp

theorem cut_from {α : Type} (xs : List α) (R : Nat) (h : R ≤ xs.length) : cut xs (some (R : Int)) none = xs.drop R := by
  have e : sIx xs.length 0 (some (R : Int)) = R := by
    show (if (R : Int) < 0 then ((R : Int) + xs.length).toNat else min (R : Int).toNat xs.length) = R
    rw [if_neg (by omega), Int.toNat_natCast, Nat.min_eq_left h]
  unfold cut
  rw [e]
  exact List.take_of_length_le (by rw [List.length_drop]; exact Nat.le_refl _)
end Mi
end TxSUtil

section TxSGr
set_option autoImplicit false
set_option linter.all false
set_option maxRecDepth 100000
set_option maxHeartbeats 4000000
namespace Mi
/-- what lay there stays, wells stay wells -/
def Gr (h h' : MH) : Prop := Grow h h' ∧ ∀ i, WellAt h i → WellAt h' i
theorem Gr.refl (h : MH) : Gr h h := ⟨Grow.refl h, fun _ w => w⟩
theorem Gr.trans {a b c : MH} (x : Gr a b) (y : Gr b c) : Gr a c := ⟨x.1.trans y.1, fun i w => y.2 i (x.2 i w)⟩
theorem Gr.rd {h h' : MH} (g : Gr h h') {r i : Nat} {o : MO} (e : rd h r i = some o) (n : r ≠ 1 := by decide) : rd h' r i = some o := g.1 r i o n e
theorem Gr.w {h h' : MH} (g : Gr h h') {i : Nat} (w : WellAt h i) : WellAt h' i := g.2 i w
theorem Ints.gr {h h' : MH} {v : MV} {ns : List Int} (x : Ints h v ns) (g : Gr h h') : Ints h' v ns := x.grow g.1
theorem gr_of {h h' : MH} (g : Grow h h') (k : h' 1 = h 1) : Gr h h' := ⟨g, fun i w => w.of k⟩
theorem gr_new (h : MH) {r : Nat} (hr : r ≠ 1) (o : MO) : Gr h (put h r (h r ++ [o])) := gr_of (grow_new h r o) (put_ne _ _ (fun e => hr e.symm))
theorem gr_set {h h' : MH} (g : Gr h h') {r n : Nat} {o : MO} (hr : r ≠ 1) (e : rd h r n = none) : Gr h (put h' r ((h' r).set n o)) := ⟨grow_set g.1 e, fun i w => (g.2 i w).of (put_ne _ _ (fun e => hr e.symm))⟩
theorem new_of {h h' : MH} {r : Nat} {o : MO} (e : put h r (h r ++ [o]) = h') (hr : r ≠ 1) : Gr h h' ∧ rd h' r (h r).length = some o := by
  rw [← e]; exact ⟨gr_new h hr o, by simp⟩
/-- all stays but one object -/
def Ke (r i : Nat) (h h' : MH) : Prop := (∀ q j o, q ≠ 1 → (q ≠ r ∨ j ≠ i) → Mi.rd h q j = some o → Mi.rd h' q j = some o) ∧ ∀ i, WellAt h i → WellAt h' i
theorem Ke.rd {h h' : MH} {r i : Nat} (g : Ke r i h h') {q j : Nat} {o : MO} (e : Mi.rd h q j = some o) (n : q ≠ 1 := by decide) (m : q ≠ r ∨ j ≠ i := by exact Or.inl (by decide)) : Mi.rd h' q j = some o := g.1 q j o n m e
theorem Ke.w {h h' : MH} {r i : Nat} (g : Ke r i h h') {j : Nat} (w : WellAt h j) : WellAt h' j := g.2 j w
theorem set_of {h h' : MH} {r i : Nat} {o p : MO} (e : put h r ((h r).set i o) = h') (x : rd h r i = some p) (hr : r ≠ 1) : Ke r i h h' ∧ rd h' r i = some o := by
  rw [← e]
  refine ⟨⟨fun q j u hq m z => ?_, fun j w => w.of (put_ne _ _ (fun e => hr e.symm))⟩, ?_⟩
  · by_cases c : q = r
    · subst c
      rw [rd_put, List.getElem?_set_ne (fun z => by rcases m with m | m <;> omega)]
      exact z
    · rw [rd_put_ne _ _ c]; exact z
  · have := rd_lt x
    rw [rd_put]; simp [this]
theorem take_gr {h : MH} {i : Nat} {m : Int} {Q : QV} {E : QX} (wl : WellAt h i) (h0 : 0 < m) (h1 : m ≤ dmax) (k : ∀ (g : Int) (h' : MH), 0 ≤ g → g < m → Gr h h' → Q (.int g) h') :
    F_law_take [.ref 1 i, .int m] h Q E := by
  have hi := wl.lt
  obtain ⟨a, b, c, e, b0, b1, c0, c1⟩ := wl
  simp [F_law_take_eq, e, hi, small, dmax_eq]
  have new : ∀ a' b' : Int, 0 ≤ b' → b' < 1099511627776 → Gr h (put h 1 ((h 1).set i (.lst [.int a', .int b', .int c]))) := fun a' b' z1 z2 => by
    refine ⟨grow_take fun r hr => put_ne h _ hr, fun j w => ?_⟩
    by_cases cj : j = i
    · subst cj
      exact ⟨a', b', c, by simp [hi], z1, z2, c0, c1⟩
    · obtain ⟨x, y, z, e2, w2⟩ := w
      exact ⟨x, y, z, by rw [rd_put, List.getElem?_set_ne (fun q => cj q.symm)]; exact e2, w2⟩
  rw [dmax_eq] at h1
  split
  · exact ⟨h0, h1, k _ _ (Int.emod_nonneg _ (by omega)) (Int.emod_lt_of_pos _ h0) (new _ _ b0 b1)⟩
  · have q0 := Int.emod_nonneg (b * 48271) (show c ≠ 0 by omega)
    have q1 := Int.emod_lt_of_pos (b * 48271) c0
    exact ⟨c0, ⟨by omega, by omega⟩, h0, k _ _ (Int.emod_nonneg _ (by omega)) (Int.emod_lt_of_pos _ h0) (new _ _ (by omega) (by omega))⟩
theorem far_gr {h : MH} {i : Nat} {Q : QV} {E : QX} (wl : WellAt h i) (k : ∀ (g : Int) (h' : MH), 1 ≤ g → g ≤ 10000000000000000000000000000000000000000000000000000000000 → Gr h h' → Q (.int g) h') :
    F_law_far [.ref 1 i] h Q E := by
  simp [F_law_far_eq, lim]
  refine take_gr wl (by omega) (le_dmax (by omega)) fun g1 h1 a1 b1 G1 => ?_
  simp [small]
  refine take_gr (G1.w wl) (by omega) (le_dmax (by omega)) fun g2 h2 a2 b2 G2 => ?_
  try dsimp only
  generalize hh : put h2 101 _ = h3
  obtain ⟨G3, z3⟩ := new_of hh (by decide)
  refine take_gr (((G1.trans G2).trans G3).w wl) (by omega) (le_dmax (by omega)) fun g3 h4 a3 b3 G4 => ?_
  have z := G4.rd z3
  have fr := ((G1.trans G2).trans G3).trans G4
  have hg : g3 = 0 ∨ g3 = 1 := by omega
  rcases hg with rfl | rfl
  · simp [z]; exact k _ _ (by omega) (by omega) fr
  · simp [z]; exact k _ _ (by omega) (by omega) fr
theorem well_gr {xs : List MV} {h : MH} {k : Nat} {Q : QV} {E : QX} (hi : ∀ x ∈ xs, ∃ i, x = .int i) (hk : k < 64) (q : ∀ (h' : MH), WellAt h' (h 1).length → Gr h h' → Q (.ref 1 (h 1).length) h') :
    F_law_well [.cst xs, .int k] h Q E := by
  have main : ∀ (c s : Int) (p : Int) (l : MO), 0 ≤ s → s < 1099511627776 → p ∈ [2147483647, 2147483629, 2147483587, 2147483579, 2147483563, 2147483549, 2147483543, 2147483497] →
      Q (.ref 1 (h 1).length) (put (put h 100 (h 100 ++ [l])) 1 (h 1 ++ [.lst [.int c, .int s, .int p]])) := fun c s p l s0 s1 hp => by
    have ok : WellAt (put (put h 100 (h 100 ++ [l])) 1 (h 1 ++ [.lst [.int c, .int s, .int p]])) (h 1).length := ⟨c, s, p, by simp, s0, s1, by simp at hp; omega, by simp at hp; omega⟩
    refine q _ ok ⟨fun r i o hr e => ?_, fun j w => ?_⟩
    · rw [rd_put_ne _ _ hr]
      exact (grow_new h 100 l) _ _ _ hr e
    · obtain ⟨x, y, z, e2, w2⟩ := w
      exact ⟨x, y, z, by rw [rd_put, List.getElem?_append_left (rd_lt e2)]; exact e2, w2⟩
  have kk : ∃ p : Int, p ∈ [(2147483647 : Int), 2147483629, 2147483587, 2147483579, 2147483563, 2147483549, 2147483543, 2147483497] ∧ atI [MV.int 2147483647, .int 2147483629, .int 2147483587, .int 2147483579, .int 2147483563, .int 2147483549, .int 2147483543, .int 2147483497] ((k : Int) % 8) = some (.int p) := by
    have : k % 8 < 8 := Nat.mod_lt _ (by decide)
    rw [show ((k : Int) % 8) = ((k % 8 : Nat) : Int) by omega, atI_nat]
    rcases (show k % 8 = 0 ∨ k % 8 = 1 ∨ k % 8 = 2 ∨ k % 8 = 3 ∨ k % 8 = 4 ∨ k % 8 = 5 ∨ k % 8 = 6 ∨ k % 8 = 7 by omega) with e | e | e | e | e | e | e | e <;> rw [e] <;> exact ⟨_, by decide, rfl⟩
  obtain ⟨p, hp, ep⟩ := kk
  by_cases c : k < xs.length
  · obtain ⟨x, hx⟩ := hi xs[k] (List.getElem_mem c)
    simp [F_law_well_eq, lim, small, c, atI_nat, hx, rd, ep]
    have z1 := Int.emod_nonneg x (show (2147483489 : Int) ≠ 0 by decide)
    have z2 := Int.emod_lt_of_pos x (show (0 : Int) < 2147483489 by decide)
    have z3 := Int.emod_nonneg ((x % 2147483489 + 1) * (48271 + 2 * k)) (show (2147483489 : Int) ≠ 0 by decide)
    have z4 := Int.emod_lt_of_pos ((x % 2147483489 + 1) * (48271 + 2 * k)) (show (0 : Int) < 2147483489 by decide)
    have hw := Int.emod_nonneg ((x % 2147483489 + 1) * (48271 + 2 * k) % 2147483489 * ((x % 2147483489 + 1) * (48271 + 2 * k) % 2147483489)) (show (2147483477 : Int) ≠ 0 by decide)
    have hv := Int.emod_lt_of_pos ((x % 2147483489 + 1) * (48271 + 2 * k) % 2147483489 * ((x % 2147483489 + 1) * (48271 + 2 * k) % 2147483489)) (show (0 : Int) < 2147483477 by decide)
    refine ⟨Or.inl ⟨by omega, by omega⟩, ⟨by omega, by omega⟩, ?_⟩
    split <;> exact main _ _ _ _ (by omega) (by omega) hp
  · simp [F_law_well_eq, lim, small, c, atI_nat, rd, ep]
    have z3 := Int.emod_nonneg (48271 + 2 * k) (show (2147483489 : Int) ≠ 0 by decide)
    have z4 := Int.emod_lt_of_pos (48271 + 2 * k) (show (0 : Int) < 2147483489 by decide)
    have hw := Int.emod_nonneg ((48271 + 2 * (k : Int)) % 2147483489 * ((48271 + 2 * k) % 2147483489)) (show (2147483477 : Int) ≠ 0 by decide)
    have hv := Int.emod_lt_of_pos ((48271 + 2 * (k : Int)) % 2147483489 * ((48271 + 2 * k) % 2147483489)) (show (0 : Int) < 2147483477 by decide)
    exact ⟨⟨by omega, by omega⟩, main _ _ _ _ (by omega) (by omega) hp⟩
/-- [a, b, ..][take] of a list made just now -/
theorem pick_gr {h : MH} {i r : Nat} {m : Int} {xs : List MV} {K : QV} {E : QX} (wl : WellAt h i) (hr : r ≠ 1) (hm : m = xs.length) (m0 : 0 < m) (m1 : m ≤ 1000)
    (q : ∀ (x : MV) (h' : MH), x ∈ xs → Gr h h' → K x h') :
    F_law_take [.ref 1 i, .int m] (put h r (h r ++ [.lst xs])) (fun z h2 => match (match rd h2 r (h r).length, z with
      | some (.lst xs), .int i => atI xs i
      | some (.dic kvs), k => if (match k with
        | .int _ => true
        | .str _ => true
        | _ => false) = true then atKey k kvs else none
      | _, _ => none) with
      | some v => K v h2
      | none => False) E := by
  generalize hh : put h r _ = h1
  obtain ⟨G, z⟩ := new_of hh hr
  refine take_gr (G.w wl) m0 (le_dmax (by omega)) fun g h2 a b G2 => ?_
  have z2 := G2.rd z hr
  obtain ⟨n, rfl⟩ : ∃ n : Nat, g = n := ⟨g.toNat, by omega⟩
  have hn : n < xs.length := by omega
  simp only [z2, atI_nat, List.getElem?_eq_getElem hn]
  exact q _ _ (List.getElem_mem hn) (G.trans G2)
/-- the same of numbers -/
theorem pickI_gr {h : MH} {i r : Nat} {m : Int} {ns : List Int} {xs : List MV} {P : Int → Prop} {K : QV} {E : QX} (wl : WellAt h i) (hr : r ≠ 1) (e : xs = ns.map .int) (hm : m = ns.length) (m0 : 0 < m) (m1 : m ≤ 1000) (hP : ∀ n ∈ ns, P n)
    (q : ∀ (n : Int) (h' : MH), P n → Gr h h' → K (.int n) h') :
    F_law_take [.ref 1 i, .int m] (put h r (h r ++ [.lst xs])) (fun z h2 => match (match rd h2 r (h r).length, z with
      | some (.lst xs), .int i => atI xs i
      | some (.dic kvs), k => if (match k with
        | .int _ => true
        | .str _ => true
        | _ => false) = true then atKey k kvs else none
      | _, _ => none) with
      | some v => K v h2
      | none => False) E := by
  subst e
  refine pick_gr wl hr (by rw [List.length_map]; exact hm) m0 m1 fun x h' hx G => ?_
  obtain ⟨n, hn, rfl⟩ := List.mem_map.mp hx
  exact q n h' (hP n hn) G
theorem gr_app {h g : MH} (x : Gr h g) {r : Nat} (hr : r ≠ 1) (l : List MO) : Gr h (put g r (h r ++ l)) := ⟨grow_app x.1 r l, fun i w => (x.2 i w).of (put_ne _ _ (fun e => hr e.symm))⟩
theorem rd_app (h g : MH) (r : Nat) (l : List MO) (n : Nat) : rd (put g r (h r ++ l)) r ((h r).length + n) = l[n]? := by
  rw [rd_put, List.getElem?_append_right (by omega)]; congr 1; omega
end Mi
end TxSGr

section TxSBoard
set_option autoImplicit false
set_option linter.all false
set_option maxRecDepth 100000
set_option maxHeartbeats 4000000
namespace Mi
/-- all stays but what S names -/
def Kx (S : Nat → Nat → Prop) (h h' : MH) : Prop := (∀ q j o, q ≠ 1 → ¬ S q j → Mi.rd h q j = some o → Mi.rd h' q j = some o) ∧ ∀ i, WellAt h i → WellAt h' i
theorem Kx.rd {S : Nat → Nat → Prop} {h h' : MH} (g : Kx S h h') {q j : Nat} {o : MO} (e : Mi.rd h q j = some o) (n : q ≠ 1 := by decide) (m : ¬ S q j := by (simp; done)) : Mi.rd h' q j = some o := g.1 q j o n m e
theorem Kx.w {S : Nat → Nat → Prop} {h h' : MH} (g : Kx S h h') {j : Nat} (w : WellAt h j) : WellAt h' j := g.2 j w
theorem Kx.refl (S : Nat → Nat → Prop) (h : MH) : Kx S h h := ⟨fun _ _ _ _ _ e => e, fun _ w => w⟩
theorem Kx.trans {S : Nat → Nat → Prop} {a b c : MH} (x : Kx S a b) (y : Kx S b c) : Kx S a c := ⟨fun q j o n m e => y.1 q j o n m (x.1 q j o n m e), fun i w => y.2 i (x.2 i w)⟩
theorem Gr.x {h h' : MH} (g : Gr h h') (S : Nat → Nat → Prop) : Kx S h h' := ⟨fun q j o n _ e => g.1 q j o n e, g.2⟩
theorem Ke.x {r i : Nat} {h h' : MH} (g : Ke r i h h') {S : Nat → Nat → Prop} (s : S r i) : Kx S h h' := ⟨fun q j o n m e => g.1 q j o n (by
  by_cases c : q = r
  · refine Or.inr fun d => m ?_
    rw [c, d]; exact s
  · exact Or.inl c) e, g.2⟩
theorem Kx.mono {S S' : Nat → Nat → Prop} {h h' : MH} (g : Kx S h h') (s : ∀ r i, S r i → S' r i) : Kx S' h h' := ⟨fun q j o n m e => g.1 q j o n (fun z => m (s q j z)) e, g.2⟩
/-! ### boards: instances in region 10, their cells in region 20 -/
structure Bd where
  size : Nat
  cells : List Int
  cnt : Int
  last : Option (String × Int × Int)
def lastV : Option (String × Int × Int) → MV
  | none => .non
  | some (d, c, v) => .tup [.str d, .int c, .int v]
def BoardAt (h : MH) (i k : Nat) (b : Bd) : Prop := rd h 10 i = some (.ins "Board" [("size", .int b.size), ("kept", .ref 20 k), ("counted", .int b.cnt), ("latest", lastV b.last)]) ∧ rd h 20 k = some (.lst (b.cells.map .int))
/-- what a touch of the board may change -/
def SB (i k : Nat) : Nat → Nat → Prop := fun q j => (q = 10 ∧ j = i) ∨ (q = 20 ∧ j = k)
def newBd (n : Nat) : Bd := ⟨n, (List.replicate n [2, -1, 0, 0]).flatten ++ [-1, -1, 0, 0], 0, none⟩
theorem BoardAt.gr {h h' : MH} {i k : Nat} {b : Bd} (x : BoardAt h i k b) (g : Gr h h') : BoardAt h' i k b := ⟨g.rd x.1, g.rd x.2⟩
theorem BoardAt.kx {S : Nat → Nat → Prop} {h h' : MH} {i k : Nat} {b : Bd} (x : BoardAt h i k b) (g : Kx S h h') (s1 : ¬ S 10 i) (s2 : ¬ S 20 k) : BoardAt h' i k b := ⟨g.rd x.1 (by decide) s1, g.rd x.2 (by decide) s2⟩
theorem rep_length (xs : List MV) (n : Nat) : (rep xs n).length = n * xs.length := by simp [rep]
theorem rep4 (n : Nat) (a b c d : Int) : rep [MV.int a, .int b, .int c, .int d] n = ((List.replicate n [a, b, c, d]).flatten).map .int := rep_map [a, b, c, d] n
theorem board_make {h : MH} {n : Nat} {K : QV} {E : QX} (n2 : 2 ≤ n) (n8 : n ≤ 8) (q : ∀ h', BoardAt h' (h 10).length (h 20).length (newBd n) → Gr h h' → K .non h') :
    F_Board___init [.ref 10 (h 10).length, .int n] (put h 10 (h 10 ++ [.ins "Board" []])) K E := by
  ((try simp [-sSeq, -dat_ref, sSeqK, small, lim, big, F_Board___init_eq]); (repeat (first | ((with_reducible refine kont_go ?_); try simp [-sSeq, -dat_ref, sSeqK, small, lim, big, F_Board___init_eq]) | ((with_reducible refine And.intro ?_ ?_); · omega))))
  refine size_ok (by omega) (by omega) ?_
  ((try simp [-sSeq, -dat_ref, sSeqK, small, lim, big, rep_length]); (repeat (first | ((with_reducible refine kont_go ?_); try simp [-sSeq, -dat_ref, sSeqK, small, lim, big, rep_length]) | ((with_reducible refine And.intro ?_ ?_); · omega))))
  refine q _ ⟨?_, ?_⟩ (by (repeat (refine gr_app ?_ (by decide) _)); exact Gr.refl _)
  · simp [newBd, lastV]
  · simp [rep4, newBd]
theorem board_bad {h : MH} {n : Int} {K : QV} {E : QX} (c : n < 2 ∨ 8 < n) (q : ∀ h', Gr h h' → E "BadSize" h') :
    F_Board___init [.ref 10 (h 10).length, .int n] (put h 10 (h 10 ++ [.ins "Board" []])) K E := by
  ((try simp [-sSeq, -dat_ref, sSeqK, small, lim, big, F_Board___init_eq]); (repeat (first | ((with_reducible refine kont_go ?_); try simp [-sSeq, -dat_ref, sSeqK, small, lim, big, F_Board___init_eq]) | ((with_reducible refine And.intro ?_ ?_); · omega))))
  exact size_bad c (q _ (gr_new _ (by decide) _))
/-- a touch told -/
def Bd.touch (b : Bd) (d : String) (c : Nat) (v : Int) : Bd := { b with cnt := b.cnt + 1, last := some (d, c, v) }
theorem touched_spec {h : MH} {i k c : Nat} {d : String} {v : Int} {b : Bd} {Q : QV} {E : QX} (x : BoardAt h i k b) (e : b.cells[c]? = some v) (q : ∀ h', BoardAt h' i k (b.touch d c v) → Kx (SB i k) h h' → Q (.int v) h') : F_Board_touched [.ref 10 i, .str d, .int c] h Q E := by
  obtain ⟨x1, x2⟩ := x
  have hi := rd_lt x1
  ((try simp [-sSeq, -dat_ref, sSeqK, small, lim, big, F_Board_touched_eq, x1, x2, hi, atI_nat, e]); (repeat (first | ((with_reducible refine kont_go ?_); try simp [-sSeq, -dat_ref, sSeqK, small, lim, big, F_Board_touched_eq, x1, x2, hi, atI_nat, e]) | ((with_reducible refine And.intro ?_ ?_); · omega))))
  generalize hh : put h 10 _ = h1
  obtain ⟨K1, z1⟩ := set_of hh x1 (by decide)
  exact q _ ⟨z1, K1.rd x2⟩ (K1.x (Or.inl ⟨rfl, rfl⟩))
theorem lookcell_ok {h : MH} {i k : Nat} {c : Nat} {b : Bd} {Q : QV} {E : QX} (x : BoardAt h i k b) (e : c < b.cells.length) (q : Q .non h) : F_Board_look_at_cell [.ref 10 i, .int c] h Q E := by
  obtain ⟨x1, x2⟩ := x
  ((try simp [-sSeq, -dat_ref, sSeqK, small, lim, big, F_Board_look_at_cell_eq, x1, x2]); (repeat (first | ((with_reducible refine kont_go ?_); try simp [-sSeq, -dat_ref, sSeqK, small, lim, big, F_Board_look_at_cell_eq, x1, x2]) | ((with_reducible refine And.intro ?_ ?_); · omega))))
  rw [if_neg (by omega), if_neg (by omega)]
  exact q
theorem lookcell_bad {h : MH} {i k : Nat} {c : Int} {b : Bd} {Q : QV} {E : QX} (x : BoardAt h i k b) (e : c < 0 ∨ b.cells.length ≤ c) (q : E "NoCell" h) : F_Board_look_at_cell [.ref 10 i, .int c] h Q E := by
  obtain ⟨x1, x2⟩ := x
  ((try simp [-sSeq, -dat_ref, sSeqK, small, lim, big, F_Board_look_at_cell_eq, x1, x2]); (repeat (first | ((with_reducible refine kont_go ?_); try simp [-sSeq, -dat_ref, sSeqK, small, lim, big, F_Board_look_at_cell_eq, x1, x2]) | ((with_reducible refine And.intro ?_ ?_); · omega))))
  by_cases d : c < 0
  · rw [if_pos d]; exact q
  · rw [if_neg d, if_pos (by omega)]; exact q
theorem read_ok {h : MH} {i k c : Nat} {v : Int} {b : Bd} {Q : QV} {E : QX} (x : BoardAt h i k b) (e : b.cells[c]? = some v) (q : ∀ h', BoardAt h' i k (b.touch "read" c v) → Kx (SB i k) h h' → Q (.int v) h') : F_Board_read [.ref 10 i, .int c] h Q E := by
  ((try simp [-sSeq, -dat_ref, sSeqK, small, lim, big, F_Board_read_eq, x.1]); (repeat (first | ((with_reducible refine kont_go ?_); try simp [-sSeq, -dat_ref, sSeqK, small, lim, big, F_Board_read_eq, x.1]) | ((with_reducible refine And.intro ?_ ?_); · omega))))
  refine lookcell_ok x (List.getElem?_eq_some_iff.mp e).1 ?_
  ((try simp [-sSeq, -dat_ref, sSeqK, small, lim, big, x.1]); (repeat (first | ((with_reducible refine kont_go ?_); try simp [-sSeq, -dat_ref, sSeqK, small, lim, big, x.1]) | ((with_reducible refine And.intro ?_ ?_); · omega))))
  exact touched_spec x e q
theorem read_bad {h : MH} {i k : Nat} {c : Int} {b : Bd} {Q : QV} {E : QX} (x : BoardAt h i k b) (e : c < 0 ∨ b.cells.length ≤ c) (q : E "NoCell" h) : F_Board_read [.ref 10 i, .int c] h Q E := by
  ((try simp [-sSeq, -dat_ref, sSeqK, small, lim, big, F_Board_read_eq, x.1]); (repeat (first | ((with_reducible refine kont_go ?_); try simp [-sSeq, -dat_ref, sSeqK, small, lim, big, F_Board_read_eq, x.1]) | ((with_reducible refine And.intro ?_ ?_); · omega))))
  exact lookcell_bad x e q
def Bd.put (b : Bd) (c : Nat) (v : Int) : Bd := { b with cells := b.cells.set c v, cnt := b.cnt + 1, last := some ("write", c, v) }
theorem write_ok {h : MH} {i k c : Nat} {v : Int} {b : Bd} {Q : QV} {E : QX} (x : BoardAt h i k b) (e : c < b.cells.length) (q : ∀ h', BoardAt h' i k (b.put c v) → Kx (SB i k) h h' → Q .non h') : F_Board_write [.ref 10 i, .int c, .int v] h Q E := by
  ((try simp [-sSeq, -dat_ref, sSeqK, small, lim, big, F_Board_write_eq, x.1]); (repeat (first | ((with_reducible refine kont_go ?_); try simp [-sSeq, -dat_ref, sSeqK, small, lim, big, F_Board_write_eq, x.1]) | ((with_reducible refine And.intro ?_ ?_); · omega))))
  refine lookcell_ok x e ?_
  refine kont_go ?_
  simp [-sSeq, -dat_ref, sSeqK, small, lim, x.1, x.2, ixN_nat, e]
  generalize hh : put h 20 _ = h1
  obtain ⟨K1, z1⟩ := set_of hh x.2 (by decide)
  rw [show (b.cells.map MV.int).set c (.int v) = (b.cells.set c v).map .int by rw [List.map_set]] at z1
  have x1 : BoardAt h1 i k { b with cells := b.cells.set c v } := ⟨K1.rd x.1, z1⟩
  ((try simp [-sSeq, -dat_ref, sSeqK, small, lim, big, x1.1]); (repeat (first | ((with_reducible refine kont_go ?_); try simp [-sSeq, -dat_ref, sSeqK, small, lim, big, x1.1]) | ((with_reducible refine And.intro ?_ ?_); · omega))))
  refine touched_spec x1 (c := c) (v := v) (by simp [e]) fun h2 x2 K2 => ?_
  ((try simp [-sSeq, -dat_ref, sSeqK, small, lim, big]); (repeat (first | ((with_reducible refine kont_go ?_); try simp [-sSeq, -dat_ref, sSeqK, small, lim, big]) | ((with_reducible refine And.intro ?_ ?_); · omega))))
  exact q _ x2 ((K1.x (Or.inr ⟨rfl, rfl⟩)).trans K2)
theorem write_bad {h : MH} {i k : Nat} {c v : Int} {b : Bd} {Q : QV} {E : QX} (x : BoardAt h i k b) (e : c < 0 ∨ b.cells.length ≤ c) (q : E "NoCell" h) : F_Board_write [.ref 10 i, .int c, .int v] h Q E := by
  ((try simp [-sSeq, -dat_ref, sSeqK, small, lim, big, F_Board_write_eq, x.1]); (repeat (first | ((with_reducible refine kont_go ?_); try simp [-sSeq, -dat_ref, sSeqK, small, lim, big, F_Board_write_eq, x.1]) | ((with_reducible refine And.intro ?_ ?_); · omega))))
  exact lookcell_bad x e q
theorem all_cells_spec {h : MH} {i k : Nat} {b : Bd} {Q : QV} {E : QX} (x : BoardAt h i k b) (q : ∀ h', rd h' 207 (h 207).length = some (.lst (b.cells.map .int)) → Gr h h' → Q (.ref 207 (h 207).length) h') : F_Board_all_cells [.ref 10 i] h Q E := by
  ((try simp [-sSeq, -dat_ref, sSeqK, small, lim, big, F_Board_all_cells_eq, x.1, x.2]); (repeat (first | ((with_reducible refine kont_go ?_); try simp [-sSeq, -dat_ref, sSeqK, small, lim, big, F_Board_all_cells_eq, x.1, x.2]) | ((with_reducible refine And.intro ?_ ?_); · omega))))
  (try dsimp only); generalize hh : put h 207 _ = h1 at *; obtain ⟨G1, z1⟩ := new_of hh (by decide); clear hh
  exact q _ z1 G1
theorem touches_spec {h : MH} {i k : Nat} {b : Bd} {Q : QV} {E : QX} (x : BoardAt h i k b) (q : Q (.int b.cnt) h) : F_Board_touches [.ref 10 i] h Q E := by
  ((try simp [-sSeq, -dat_ref, sSeqK, small, lim, big, F_Board_touches_eq, x.1]); (repeat (first | ((with_reducible refine kont_go ?_); try simp [-sSeq, -dat_ref, sSeqK, small, lim, big, F_Board_touches_eq, x.1]) | ((with_reducible refine And.intro ?_ ?_); · omega))))
  exact q
theorem last_touch_spec {h : MH} {i k : Nat} {b : Bd} {Q : QV} {E : QX} (x : BoardAt h i k b) (q : Q (lastV b.last) h) : F_Board_last_touch [.ref 10 i] h Q E := by
  ((try simp [-sSeq, -dat_ref, sSeqK, small, lim, big, F_Board_last_touch_eq, x.1]); (repeat (first | ((with_reducible refine kont_go ?_); try simp [-sSeq, -dat_ref, sSeqK, small, lim, big, F_Board_last_touch_eq, x.1]) | ((with_reducible refine And.intro ?_ ?_); · omega))))
  exact q
/-! ### cells' numbers -/
theorem mark_cell_spec {h : MH} {p : Int} {Q : QV} {E : QX} (q : Q (.int (4 * p)) h) : F_mark_cell [.int p] h Q E := by ((try simp [-sSeq, -dat_ref, sSeqK, small, lim, big, F_mark_cell_eq]); (repeat (first | ((with_reducible refine kont_go ?_); try simp [-sSeq, -dat_ref, sSeqK, small, lim, big, F_mark_cell_eq]) | ((with_reducible refine And.intro ?_ ?_); · omega)))); exact q
theorem number_cell_spec {h : MH} {p : Int} {Q : QV} {E : QX} (q : Q (.int (4 * p + 1)) h) : F_number_cell [.int p] h Q E := by ((try simp [-sSeq, -dat_ref, sSeqK, small, lim, big, F_number_cell_eq]); (repeat (first | ((with_reducible refine kont_go ?_); try simp [-sSeq, -dat_ref, sSeqK, small, lim, big, F_number_cell_eq]) | ((with_reducible refine And.intro ?_ ?_); · omega)))); exact q
theorem left_cell_spec {h : MH} {p : Int} {Q : QV} {E : QX} (q : Q (.int (4 * p + 2)) h) : F_left_cell [.int p] h Q E := by ((try simp [-sSeq, -dat_ref, sSeqK, small, lim, big, F_left_cell_eq]); (repeat (first | ((with_reducible refine kont_go ?_); try simp [-sSeq, -dat_ref, sSeqK, small, lim, big, F_left_cell_eq]) | ((with_reducible refine And.intro ?_ ?_); · omega)))); exact q
theorem thing_cell_spec {h : MH} {p : Int} {Q : QV} {E : QX} (q : Q (.int (4 * p + 3)) h) : F_thing_cell [.int p] h Q E := by ((try simp [-sSeq, -dat_ref, sSeqK, small, lim, big, F_thing_cell_eq]); (repeat (first | ((with_reducible refine kont_go ?_); try simp [-sSeq, -dat_ref, sSeqK, small, lim, big, F_thing_cell_eq]) | ((with_reducible refine And.intro ?_ ?_); · omega)))); exact q
/-- 0 for the giver, 1 for the taker -/
def handN (s : String) : Int := if s = "giver" then 0 else 1
def isHand (s : String) : Prop := s = "giver" ∨ s = "taker"
theorem hand_ok {h : MH} {s : String} {Q : QV} {E : QX} (a : isHand s) (q : Q .non h) : F_look_at_hand [.str s] h Q E := by
  rcases a with rfl | rfl <;> (((try simp [-sSeq, -dat_ref, sSeqK, small, lim, big, F_look_at_hand_eq, inB]); (repeat (first | ((with_reducible refine kont_go ?_); try simp [-sSeq, -dat_ref, sSeqK, small, lim, big, F_look_at_hand_eq, inB]) | ((with_reducible refine And.intro ?_ ?_); · omega)))); exact q)
theorem hand_bad {h : MH} {s : String} {Q : QV} {E : QX} (a : ¬ isHand s) (q : E "NoHand" h) : F_look_at_hand [.str s] h Q E := by
  have a1 : ¬ "giver" = s := fun e => a (Or.inl e.symm)
  have a2 : ¬ "taker" = s := fun e => a (Or.inr e.symm)
  ((try simp [-sSeq, -dat_ref, sSeqK, small, lim, big, F_look_at_hand_eq, inB, a1, a2]); (repeat (first | ((with_reducible refine kont_go ?_); try simp [-sSeq, -dat_ref, sSeqK, small, lim, big, F_look_at_hand_eq, inB, a1, a2]) | ((with_reducible refine And.intro ?_ ?_); · omega))))
  exact q
theorem card_cell_spec {h : MH} {n : Int} {s : String} {Q : QV} {E : QX} (n2 : 2 ≤ n) (n8 : n ≤ 8) (a : isHand s) (q : Q (.int (4 * n + handN s)) h) : F_card_cell [.int n, .str s] h Q E := by
  ((try simp [-sSeq, -dat_ref, sSeqK, small, lim, big, F_card_cell_eq]); (repeat (first | ((with_reducible refine kont_go ?_); try simp [-sSeq, -dat_ref, sSeqK, small, lim, big, F_card_cell_eq]) | ((with_reducible refine And.intro ?_ ?_); · omega))))
  refine size_ok n2 n8 ?_
  ((try simp [-sSeq, -dat_ref, sSeqK, small, lim, big]); (repeat (first | ((with_reducible refine kont_go ?_); try simp [-sSeq, -dat_ref, sSeqK, small, lim, big]) | ((with_reducible refine And.intro ?_ ?_); · omega))))
  refine hand_ok a ?_
  rcases a with rfl | rfl <;> (((try simp [-sSeq, -dat_ref, sSeqK, small, lim, big, wTupIx, handN, List.findIdx?_cons]); (repeat (first | ((with_reducible refine kont_go ?_); try simp [-sSeq, -dat_ref, sSeqK, small, lim, big, wTupIx, handN, List.findIdx?_cons]) | ((with_reducible refine And.intro ?_ ?_); · omega)))); simpa [handN] using q)
theorem bell_cell_spec {h : MH} {n : Int} {s : String} {Q : QV} {E : QX} (n2 : 2 ≤ n) (n8 : n ≤ 8) (a : isHand s) (q : Q (.int (4 * n + 2 + handN s)) h) : F_bell_cell [.int n, .str s] h Q E := by
  ((try simp [-sSeq, -dat_ref, sSeqK, small, lim, big, F_bell_cell_eq]); (repeat (first | ((with_reducible refine kont_go ?_); try simp [-sSeq, -dat_ref, sSeqK, small, lim, big, F_bell_cell_eq]) | ((with_reducible refine And.intro ?_ ?_); · omega))))
  refine size_ok n2 n8 ?_
  ((try simp [-sSeq, -dat_ref, sSeqK, small, lim, big]); (repeat (first | ((with_reducible refine kont_go ?_); try simp [-sSeq, -dat_ref, sSeqK, small, lim, big]) | ((with_reducible refine And.intro ?_ ?_); · omega))))
  refine hand_ok a ?_
  rcases a with rfl | rfl <;> (((try simp [-sSeq, -dat_ref, sSeqK, small, lim, big, wTupIx, handN, List.findIdx?_cons]); (repeat (first | ((with_reducible refine kont_go ?_); try simp [-sSeq, -dat_ref, sSeqK, small, lim, big, wTupIx, handN, List.findIdx?_cons]) | ((with_reducible refine And.intro ?_ ?_); · omega)))); simpa [handN] using q)
theorem card_cell_bad {h : MH} {n : Int} {s : String} {c : String} {Q : QV} {E : QX} (a : ((n < 2 ∨ 8 < n) ∧ c = "BadSize") ∨ (2 ≤ n ∧ n ≤ 8 ∧ ¬ isHand s ∧ c = "NoHand")) (q : E c h) : F_card_cell [.int n, .str s] h Q E := by
  ((try simp [-sSeq, -dat_ref, sSeqK, small, lim, big, F_card_cell_eq]); (repeat (first | ((with_reducible refine kont_go ?_); try simp [-sSeq, -dat_ref, sSeqK, small, lim, big, F_card_cell_eq]) | ((with_reducible refine And.intro ?_ ?_); · omega))))
  rcases a with ⟨a, rfl⟩ | ⟨a1, a2, a3, rfl⟩
  · exact size_bad a q
  · refine size_ok a1 a2 ?_
    ((try simp [-sSeq, -dat_ref, sSeqK, small, lim, big]); (repeat (first | ((with_reducible refine kont_go ?_); try simp [-sSeq, -dat_ref, sSeqK, small, lim, big]) | ((with_reducible refine And.intro ?_ ?_); · omega))))
    exact hand_bad a3 q
theorem bell_cell_bad {h : MH} {n : Int} {s : String} {c : String} {Q : QV} {E : QX} (a : ((n < 2 ∨ 8 < n) ∧ c = "BadSize") ∨ (2 ≤ n ∧ n ≤ 8 ∧ ¬ isHand s ∧ c = "NoHand")) (q : E c h) : F_bell_cell [.int n, .str s] h Q E := by
  ((try simp [-sSeq, -dat_ref, sSeqK, small, lim, big, F_bell_cell_eq]); (repeat (first | ((with_reducible refine kont_go ?_); try simp [-sSeq, -dat_ref, sSeqK, small, lim, big, F_bell_cell_eq]) | ((with_reducible refine And.intro ?_ ?_); · omega))))
  rcases a with ⟨a, rfl⟩ | ⟨a1, a2, a3, rfl⟩
  · exact size_bad a q
  · refine size_ok a1 a2 ?_
    ((try simp [-sSeq, -dat_ref, sSeqK, small, lim, big]); (repeat (first | ((with_reducible refine kont_go ?_); try simp [-sSeq, -dat_ref, sSeqK, small, lim, big]) | ((with_reducible refine And.intro ?_ ?_); · omega))))
    exact hand_bad a3 q
end Mi
end TxSBoard

section TxK06
set_option autoImplicit false
set_option linter.all false
set_option maxRecDepth 100000
set_option maxHeartbeats 4000000
namespace Mi
def flags6 (c : String) : List Bool := [c == "NoCell", c == "BadSize", c == "NoHand", true, false, false]
theorem flags6_spec {h : MH} {c : String} {a : Nat} {Q : QV} {E : QX} (hc : c = "NoCell" ∨ c = "BadSize" ∨ c = "NoHand") (q : ∀ i h', rd h' 0 i = some (.lst ((flags6 c).map .bl)) → Gr h h' → Q (.ref 0 i) h') : F_law_flags_v1 c a [.exc a] h Q E := by
  rcases hc with rfl | rfl | rfl <;> (((try simp [-sSeq, -dat_ref, sSeqK, small, lim, big, F_law_flags_v1_eq]); (repeat (first | ((with_reducible refine kont_go ?_); try simp [-sSeq, -dat_ref, sSeqK, small, lim, big, F_law_flags_v1_eq]) | ((with_reducible refine And.intro ?_ ?_); · omega)))); (refine q _ _ ?_ (by (repeat (refine gr_app ?_ (by decide) _)); exact Gr.refl _)); rw [rd_put, List.getElem?_append_right (by omega), Nat.sub_self]; rfl)
theorem touch_ok {h : MH} {i k c : Nat} {w : Bool} {v x : Int} {b : Bd} {Q : QV} {E : QX} (y : BoardAt h i k b) (e : b.cells[c]? = some x)
    (q : ∀ j h', rd h' 201 j = some (.lst []) → BoardAt h' i k (if w then b.put c v else b.touch "read" c x) → Kx (SB i k) h h' → Q (.tup [.ref 201 j, if w then .non else .int x]) h') : F_law_touched [.ref 10 i, .bl w, .int c, .int v] h Q E := by
  ((try simp [-sSeq, -dat_ref, sSeqK, small, lim, big, F_law_touched_eq, y.1]); (repeat (first | ((with_reducible refine kont_go ?_); try simp [-sSeq, -dat_ref, sSeqK, small, lim, big, F_law_touched_eq, y.1]) | ((with_reducible refine And.intro ?_ ?_); · omega))))
  (try dsimp only); generalize hh : put h 201 _ = h1 at *; obtain ⟨G1, z1⟩ := new_of hh (by decide); clear hh
  have y := y.gr G1
  cases w with
  | true =>
    ((try simp [-sSeq, -dat_ref, sSeqK, small, lim, big, y.1]); (repeat (first | ((with_reducible refine kont_go ?_); try simp [-sSeq, -dat_ref, sSeqK, small, lim, big, y.1]) | ((with_reducible refine And.intro ?_ ?_); · omega))))
    refine write_ok y (List.getElem?_eq_some_iff.mp e).1 fun h2 y2 K2 => ?_
    ((try simp [-sSeq, -dat_ref, sSeqK, small, lim, big]); (repeat (first | ((with_reducible refine kont_go ?_); try simp [-sSeq, -dat_ref, sSeqK, small, lim, big]) | ((with_reducible refine And.intro ?_ ?_); · omega))))
    exact q _ _ (K2.rd z1 (by decide) (by simp [SB])) y2 ((G1.x _).trans K2)
  | false =>
    ((try simp [-sSeq, -dat_ref, sSeqK, small, lim, big, y.1]); (repeat (first | ((with_reducible refine kont_go ?_); try simp [-sSeq, -dat_ref, sSeqK, small, lim, big, y.1]) | ((with_reducible refine And.intro ?_ ?_); · omega))))
    refine read_ok y e fun h2 y2 K2 => ?_
    ((try simp [-sSeq, -dat_ref, sSeqK, small, lim, big]); (repeat (first | ((with_reducible refine kont_go ?_); try simp [-sSeq, -dat_ref, sSeqK, small, lim, big]) | ((with_reducible refine And.intro ?_ ?_); · omega))))
    exact q _ _ (K2.rd z1 (by decide) (by simp [SB])) y2 ((G1.x _).trans K2)
theorem touch_bad {h : MH} {i k : Nat} {w : Bool} {c v : Int} {b : Bd} {Q : QV} {E : QX} (y : BoardAt h i k b) (e : c < 0 ∨ b.cells.length ≤ c)
    (q : ∀ j h', rd h' 0 j = some (.lst ((flags6 "NoCell").map .bl)) → Gr h h' → Q (.tup [.ref 0 j, .non]) h') : F_law_touched [.ref 10 i, .bl w, .int c, .int v] h Q E := by
  ((try simp [-sSeq, -dat_ref, sSeqK, small, lim, big, F_law_touched_eq, y.1]); (repeat (first | ((with_reducible refine kont_go ?_); try simp [-sSeq, -dat_ref, sSeqK, small, lim, big, F_law_touched_eq, y.1]) | ((with_reducible refine And.intro ?_ ?_); · omega))))
  (try dsimp only); generalize hh : put h 201 _ = h1 at *; obtain ⟨G1, z1⟩ := new_of hh (by decide); clear hh
  have y := y.gr G1
  cases w with
  | true =>
    ((try simp [-sSeq, -dat_ref, sSeqK, small, lim, big, y.1]); (repeat (first | ((with_reducible refine kont_go ?_); try simp [-sSeq, -dat_ref, sSeqK, small, lim, big, y.1]) | ((with_reducible refine And.intro ?_ ?_); · omega))))
    refine write_bad y e ?_
    intro a
    refine flags6_spec (by simp) fun j h2 z2 G2 => ?_
    ((try simp [-sSeq, -dat_ref, sSeqK, small, lim, big]); (repeat (first | ((with_reducible refine kont_go ?_); try simp [-sSeq, -dat_ref, sSeqK, small, lim, big]) | ((with_reducible refine And.intro ?_ ?_); · omega))))
    exact q _ _ z2 (G1.trans G2)
  | false =>
    ((try simp [-sSeq, -dat_ref, sSeqK, small, lim, big, y.1]); (repeat (first | ((with_reducible refine kont_go ?_); try simp [-sSeq, -dat_ref, sSeqK, small, lim, big, y.1]) | ((with_reducible refine And.intro ?_ ?_); · omega))))
    refine read_bad y e ?_
    intro a
    refine flags6_spec (by simp) fun j h2 z2 G2 => ?_
    ((try simp [-sSeq, -dat_ref, sSeqK, small, lim, big]); (repeat (first | ((with_reducible refine kont_go ?_); try simp [-sSeq, -dat_ref, sSeqK, small, lim, big]) | ((with_reducible refine And.intro ?_ ?_); · omega))))
    exact q _ _ z2 (G1.trans G2)
def lastD : Option (String × Int × Int) → PD
  | none => .non
  | some (d, c, v) => .tup [.str d, .int c, .int v]
theorem dat_last (h : MH) (l : Option (String × Int × Int)) : dat h deep (lastV l) = some (lastD l) := by
  cases l with
  | none => simp [lastV, lastD]
  | some x => obtain ⟨d, c, v⟩ := x; simp [lastV, lastD]
theorem right6_spec {h : MH} {i k j : Nat} {b : Bd} {Q : QV} {E : QX} (y : BoardAt h i k b) (z : rd h 0 j = some (.lst (b.cells.map .int))) (q : ∀ h', Gr h h' → Q (.bl true) h') :
    F_law_right_v2 [.ref 10 i, .int b.size, .ref 0 j, .int b.cnt, lastV b.last] h Q E := by
  ((try simp [-sSeq, -dat_ref, sSeqK, small, lim, big, F_law_right_v2_eq, y.1]); (repeat (first | ((with_reducible refine kont_go ?_); try simp [-sSeq, -dat_ref, sSeqK, small, lim, big, F_law_right_v2_eq, y.1]) | ((with_reducible refine And.intro ?_ ?_); · omega))))
  refine all_cells_spec y fun h1 z1 G1 => ?_
  have y1 := y.gr G1
  have z2 := G1.rd z
  refine kont_go ?_
  simp [-sSeq, -dat_ref, sSeqK, small, lim, y1.1, dat_ints z1, dat_ints z2, eqvs_ints, z1]
  refine kont_go ?_
  simp [-sSeq, -dat_ref, sSeqK, small, lim, z1]
  generalize hh : put h1 207 _ = h2
  obtain ⟨K2, z3⟩ := set_of hh z1 (by decide)
  have y2 : BoardAt h2 i k b := ⟨K2.rd y1.1, K2.rd y1.2⟩
  have y2 : BoardAt h2 i k b := ⟨K2.rd y1.1, K2.rd y1.2⟩
  have z4 := K2.rd z2
  ((try simp [-sSeq, -dat_ref, sSeqK, small, lim, big, y2.1]); (repeat (first | ((with_reducible refine kont_go ?_); try simp [-sSeq, -dat_ref, sSeqK, small, lim, big, y2.1]) | ((with_reducible refine And.intro ?_ ?_); · omega))))
  refine all_cells_spec y2 fun h3 z5 G3 => ?_
  have y3 := y2.gr G3
  ((try simp [-sSeq, -dat_ref, sSeqK, small, lim, big, dat_ints z5, dat_ints (G3.rd z4), eqvs_ints, y3.1]); (repeat (first | ((with_reducible refine kont_go ?_); try simp [-sSeq, -dat_ref, sSeqK, small, lim, big, dat_ints z5, dat_ints (G3.rd z4), eqvs_ints, y3.1]) | ((with_reducible refine And.intro ?_ ?_); · omega))))
  refine touches_spec y3 ?_
  ((try simp [-sSeq, -dat_ref, sSeqK, small, lim, big, y3.1]); (repeat (first | ((with_reducible refine kont_go ?_); try simp [-sSeq, -dat_ref, sSeqK, small, lim, big, y3.1]) | ((with_reducible refine And.intro ?_ ?_); · omega))))
  refine last_touch_spec y3 ?_
  ((try simp [-sSeq, -dat_ref, sSeqK, small, lim, big, dat_last, PD.eqv_refl]); (repeat (first | ((with_reducible refine kont_go ?_); try simp [-sSeq, -dat_ref, sSeqK, small, lim, big, dat_last, PD.eqv_refl]) | ((with_reducible refine And.intro ?_ ?_); · omega))))
  have GG := gr_set (o := .lst []) G1 (by decide) (rd_end h 207)
  rw [hh] at GG
  exact q _ (GG.trans G3)
theorem refused6_spec {h : MH} {way : Nat} {n : Int} {s c : String} {Q : QV} {E : QX} (hw : way < 3) (a : ((n < 2 ∨ 8 < n) ∧ c = "BadSize") ∨ (way < 2 ∧ 2 ≤ n ∧ n ≤ 8 ∧ ¬ isHand s ∧ c = "NoHand"))
    (q : ∀ j h', rd h' 0 j = some (.lst ((flags6 c).map .bl)) → Gr h h' → Q (.ref 0 j) h') : F_law_refused_v2 [.int way, .int n, .str s] h Q E := by
  simp [-sSeq, -dat_ref, sSeqK, small, lim, F_law_refused_v2_eq]
  (try dsimp only); generalize hh : put h 217 _ = h1 at *; obtain ⟨G1, z1⟩ := new_of hh (by decide); clear hh
  ((try simp [-sSeq, -dat_ref, sSeqK, small, lim, big]); (repeat (first | ((with_reducible refine kont_go ?_); try simp [-sSeq, -dat_ref, sSeqK, small, lim, big]) | ((with_reducible refine And.intro ?_ ?_); · omega))))
  have hc : c = "NoCell" ∨ c = "BadSize" ∨ c = "NoHand" := by rcases a with ⟨_, e⟩ | ⟨_, _, _, _, e⟩ <;> simp [e]
  have fin : ∀ x h2, Gr h1 h2 → ∀ a, F_law_flags_v1 c a [MV.exc a] h2 (fun x h1 => kont (sRet (wV 3)) { nx := fun x h' => Q MV.non h', rt := Q, bk := fun x x_1 => False, ct := fun x x_1 => False, ex := fun c x h' => E c h' } [some (MV.int ↑way), some (.int n), some (.str s), some x, none] h1) x := fun x h2 G2 a => by
    refine flags6_spec hc fun i h3 z3 G3 => ?_
    ((try simp [-sSeq, -dat_ref, sSeqK, small, lim, big]); (repeat (first | ((with_reducible refine kont_go ?_); try simp [-sSeq, -dat_ref, sSeqK, small, lim, big]) | ((with_reducible refine And.intro ?_ ?_); · omega))))
    exact q i h3 z3 ((G1.trans G2).trans G3)
  by_cases w0 : way = 0
  · rw [if_pos (by omega)]
    exact card_cell_bad (a.imp id fun z => z.2) (fin _ _ (Gr.refl _))
  · rw [if_neg (by omega)]
    by_cases w1 : way = 1
    · rw [if_pos (by omega)]
      exact bell_cell_bad (a.imp id fun z => z.2) (fin _ _ (Gr.refl _))
    · rw [if_neg (by omega)]
      rcases a with ⟨a, rfl⟩ | ⟨a, _⟩
      · refine board_bad a fun h2 G2 => ?_
        exact fin _ _ G2
      · omega
theorem cells6_spec {h : MH} {i n : Nat} {Q : QV} {E : QX} (wl : WellAt h i) (n2 : 2 ≤ n) (n8 : n ≤ 8) (q : ∀ h', Gr h h' → Q (.bl true) h') : F_law_cells_right [.ref 1 i, .int n] h Q E := by
  have four : ∀ p : Int, (List.range 4).map (fun (k : Nat) => MV.int (4 * p + k)) = [4 * p, 4 * p + 1, 4 * p + 2, 4 * p + 3].map MV.int := fun p => by simp [List.range_succ]
  ((try simp [-sSeq, -dat_ref, sSeqK, small, lim, big, F_law_cells_right_eq]); (repeat (first | ((with_reducible refine kont_go ?_); try simp [-sSeq, -dat_ref, sSeqK, small, lim, big, F_law_cells_right_eq]) | ((with_reducible refine And.intro ?_ ?_); · omega))))
  refine forL_inv (fun _ σ h' => Gr h h' ∧ ∃ a b c d e f g j, σ = [some (.ref 1 i), some (.int n), a, b, c, d, e, f, g, j]) _ 0 _ _ ⟨Gr.refl h, _, _, _, _, _, _, _, _, rfl⟩ (fun _ _ _ _ => trivial) ?_ ?_
  · rintro p x σ h1 N hp ⟨G1, y1, y2, y3, y4, y5, y6, y7, y8, rfl⟩ hN
    obtain ⟨hp2, rfl⟩ := rng_at hp
    ((try simp [-sSeq, -dat_ref, sSeqK, small, lim, big]); (repeat (first | ((with_reducible refine kont_go ?_); try simp [-sSeq, -dat_ref, sSeqK, small, lim, big]) | ((with_reducible refine And.intro ?_ ?_); · omega))))
    refine mark_cell_spec ?_
    refine number_cell_spec ?_
    refine left_cell_spec ?_
    refine thing_cell_spec ?_
    (try dsimp only); generalize hh : put h1 208 _ = h2 at *; obtain ⟨G2, z2⟩ := new_of hh (by decide); clear hh
    ((try simp [-sSeq, -dat_ref, sSeqK, small, lim, big]); (repeat (first | ((with_reducible refine kont_go ?_); try simp [-sSeq, -dat_ref, sSeqK, small, lim, big]) | ((with_reducible refine And.intro ?_ ?_); · omega))))
    refine comp_rng (n := 4) (f := fun k => .int (4 * p + k)) (by unfold lim; omega) (fun k hk N hN => by simp; exact ⟨Or.inl (by unfold small; omega), hN⟩) ?_
    rw [four]
    (try dsimp only); generalize hh : put h2 209 _ = h3 at *; obtain ⟨G3, z3⟩ := new_of hh (by decide); clear hh
    have z2 := G3.rd z2
    have z2' : rd h3 208 (h1 208).length = some (.lst (([4 * (p : Int), 4 * p + 1, 4 * p + 2, 4 * p + 3] : List Int).map .int)) := z2
    ((try simp [-sSeq, -dat_ref, sSeqK, small, lim, big, dat_ints z2', dat_ints z3, eqvs_ints]); (repeat (first | ((with_reducible refine kont_go ?_); try simp [-sSeq, -dat_ref, sSeqK, small, lim, big, dat_ints z2', dat_ints z3, eqvs_ints]) | ((with_reducible refine And.intro ?_ ?_); · omega))))
    rw [z2']
    refine comp_map (f := fun _ => .bl true) (by simp [lim]) z2' (fun m _ N hN => by simp; exact whole_spec hN) ?_
    (try dsimp only); generalize hh : put h3 210 _ = h4 at *; obtain ⟨G4, z4⟩ := new_of hh (by decide); clear hh
    ((try simp [-sSeq, -dat_ref, sSeqK, small, lim, big, z4]); (repeat (first | ((with_reducible refine kont_go ?_); try simp [-sSeq, -dat_ref, sSeqK, small, lim, big, z4]) | ((with_reducible refine And.intro ?_ ?_); · omega))))
    exact hN _ _ ⟨(((G1.trans G2).trans G3).trans G4), _, _, _, _, _, _, _, _, rfl⟩
  · rintro σ h1 ⟨G1, y1, y2, y3, y4, y5, y6, y7, y8, rfl⟩
    have wl := G1.w wl
    ((try simp [-sSeq, -dat_ref, sSeqK, small, lim, big]); (repeat (first | ((with_reducible refine kont_go ?_); try simp [-sSeq, -dat_ref, sSeqK, small, lim, big]) | ((with_reducible refine And.intro ?_ ?_); · omega))))
    refine far_gr wl fun far h2 f0 f1 G2 => ?_
    have wl := G2.w wl
    ((try simp [-sSeq, -dat_ref, sSeqK, small, lim, big]); (repeat (first | ((with_reducible refine kont_go ?_); try simp [-sSeq, -dat_ref, sSeqK, small, lim, big]) | ((with_reducible refine And.intro ?_ ?_); · omega))))
    refine mark_cell_spec ?_
    refine number_cell_spec ?_
    refine left_cell_spec ?_
    refine thing_cell_spec ?_
    (try dsimp only); generalize hh : put h2 211 _ = h3 at *; obtain ⟨G3, z3⟩ := new_of hh (by decide); clear hh
    have wl := G3.w wl
    ((try simp [-sSeq, -dat_ref, sSeqK, small, lim, big]); (repeat (first | ((with_reducible refine kont_go ?_); try simp [-sSeq, -dat_ref, sSeqK, small, lim, big]) | ((with_reducible refine And.intro ?_ ?_); · omega))))
    refine comp_rng (n := 4) (f := fun k => .int (4 * far + k)) (by unfold lim; omega) (fun k hk N hN => by simp; exact ⟨Or.inl (by unfold small; omega), hN⟩) ?_
    rw [four]
    (try dsimp only); generalize hh : put h3 212 _ = h4 at *; obtain ⟨G4, z4⟩ := new_of hh (by decide); clear hh
    have wl := G4.w wl; have z3 := G4.rd z3
    have z3' : rd h4 211 (h2 211).length = some (.lst (([4 * far, 4 * far + 1, 4 * far + 2, 4 * far + 3] : List Int).map .int)) := z3
    ((try simp [-sSeq, -dat_ref, sSeqK, small, lim, big, dat_ints z3', dat_ints z4, eqvs_ints]); (repeat (first | ((with_reducible refine kont_go ?_); try simp [-sSeq, -dat_ref, sSeqK, small, lim, big, dat_ints z3', dat_ints z4, eqvs_ints]) | ((with_reducible refine And.intro ?_ ?_); · omega))))
    refine card_cell_spec (by omega) (by omega) (by simp [isHand]) ?_
    refine card_cell_spec (by omega) (by omega) (by simp [isHand]) ?_
    refine bell_cell_spec (by omega) (by omega) (by simp [isHand]) ?_
    refine bell_cell_spec (by omega) (by omega) (by simp [isHand]) ?_
    (try dsimp only); generalize hh : put h4 213 _ = h5 at *; obtain ⟨G5, z5⟩ := new_of hh (by decide); clear hh
    have wl := G5.w wl
    have z5' : rd h5 213 (h4 213).length = some (.lst (([4 * (n : Int), 4 * n + 1, 4 * n + 2, 4 * n + 3] : List Int).map .int)) := by rw [z5]; simp [handN, Int.add_assoc]
    ((try simp [-sSeq, -dat_ref, sSeqK, small, lim, big]); (repeat (first | ((with_reducible refine kont_go ?_); try simp [-sSeq, -dat_ref, sSeqK, small, lim, big]) | ((with_reducible refine And.intro ?_ ?_); · omega))))
    refine comp_rng (n := 4) (f := fun k => .int (4 * n + k)) (by unfold lim; omega) (fun k hk N hN => by simp; exact ⟨Or.inl (by unfold small; omega), hN⟩) ?_
    rw [four]
    (try dsimp only); generalize hh : put h5 214 _ = h6 at *; obtain ⟨G6, z6⟩ := new_of hh (by decide); clear hh
    have wl := G6.w wl; have z5' := G6.rd z5'
    ((try simp [-sSeq, -dat_ref, sSeqK, small, lim, big, dat_ints z5', dat_ints z6, eqvs_ints]); (repeat (first | ((with_reducible refine kont_go ?_); try simp [-sSeq, -dat_ref, sSeqK, small, lim, big, dat_ints z5', dat_ints z6, eqvs_ints]) | ((with_reducible refine And.intro ?_ ?_); · omega))))
    refine far_gr wl fun far2 h7 f2 f3 G7 => ?_
    have wl := G7.w wl
    ((try simp [-sSeq, -dat_ref, sSeqK, small, lim, big]); (repeat (first | ((with_reducible refine kont_go ?_); try simp [-sSeq, -dat_ref, sSeqK, small, lim, big]) | ((with_reducible refine And.intro ?_ ?_); · omega))))
    refine far_gr wl fun far3 h8 f4 f5 G8 => ?_
    have wl := G8.w wl
    ((try simp [-sSeq, -dat_ref, sSeqK, small, lim, big]); (repeat (first | ((with_reducible refine kont_go ?_); try simp [-sSeq, -dat_ref, sSeqK, small, lim, big]) | ((with_reducible refine And.intro ?_ ?_); · omega))))
    refine pickI_gr (P := fun m => m < 2 ∨ 8 < m) (ns := [1, 9, 1 - far2, 8 + far3]) wl (by decide) rfl rfl (by omega) (by omega) (by simp; omega) fun bad h9 pb G9 => ?_
    have wl := G9.w wl
    ((try simp [-sSeq, -dat_ref, sSeqK, small, lim, big]); (repeat (first | ((with_reducible refine kont_go ?_); try simp [-sSeq, -dat_ref, sSeqK, small, lim, big]) | ((with_reducible refine And.intro ?_ ?_); · omega))))
    refine pick_gr wl (by decide) rfl (by decide) (by decide) fun x h10 hx G10 => ?_
    have hs : ∃ s, x = .str s ∧ ¬ isHand s := by
      simp only [List.mem_cons, List.not_mem_nil, or_false] at hx
      rcases hx with rfl | rfl | rfl | rfl | rfl | rfl <;> exact ⟨_, rfl, by simp [isHand]⟩
    obtain ⟨s, rfl, hs⟩ := hs
    ((try simp [-sSeq, -dat_ref, sSeqK, small, lim, big]); (repeat (first | ((with_reducible refine kont_go ?_); try simp [-sSeq, -dat_ref, sSeqK, small, lim, big]) | ((with_reducible refine And.intro ?_ ?_); · omega))))
    have GG := ((((((((G1.trans G2).trans G3).trans G4).trans G5).trans G6).trans G7).trans G8).trans G9).trans G10
    clear G2 G3 G4 G5 G6 G7 G8 G9 G10 z3 z3' z4 z5 z5' z6
    have k1 : flags6 "BadSize" = [false, true, false, true, false, false] := by decide
    have k2 : flags6 "NoHand" = [false, false, true, true, false, false] := by decide
    refine forL_inv (fun _ σ h' => Gr h10 h' ∧ ∃ a b c e, σ = [some (.ref 1 i), some (.int n), a, b, c, some (.int bad), some (.str s), e, y7, y8]) _ 0 _ _ ⟨Gr.refl h10, _, _, _, _, rfl⟩ (fun _ _ _ _ => trivial) ?_ ?_
    · rintro way x σ h11 N hw ⟨G11, q1, q2, q3, q4, rfl⟩ hN
      obtain ⟨hw2, rfl⟩ := rng_at hw
      have hw2 : way < 2 := hw2
      ((try simp [-sSeq, -dat_ref, sSeqK, small, lim, big]); (repeat (first | ((with_reducible refine kont_go ?_); try simp [-sSeq, -dat_ref, sSeqK, small, lim, big]) | ((with_reducible refine And.intro ?_ ?_); · omega))))
      refine refused6_spec (c := "BadSize") (by omega) (Or.inl ⟨pb, rfl⟩) fun j1 h12 z12 G12 => ?_
      rw [k1] at z12
      (try dsimp only); generalize hh : put h12 219 _ = h13 at *; obtain ⟨G13, z13⟩ := new_of hh (by decide); clear hh
      have z12 := G13.rd z12
      have z13' : rd h13 219 (h12 219).length = some (.lst (([false, true, false, true, false, false] : List Bool).map .bl)) := z13
      ((try simp [-sSeq, -dat_ref, sSeqK, small, lim, big, dat_bls z12, dat_bls z13', eqvs_bls]); (repeat (first | ((with_reducible refine kont_go ?_); try simp [-sSeq, -dat_ref, sSeqK, small, lim, big, dat_bls z12, dat_bls z13', eqvs_bls]) | ((with_reducible refine And.intro ?_ ?_); · omega))))
      refine refused6_spec (c := "NoHand") (by omega) (Or.inr ⟨hw2, by omega, by omega, hs, rfl⟩) fun j2 h14 z14 G14 => ?_
      rw [k2] at z14
      (try dsimp only); generalize hh : put h14 220 _ = h15 at *; obtain ⟨G15, z15⟩ := new_of hh (by decide); clear hh
      have z14 := G15.rd z14
      have z15' : rd h15 220 (h14 220).length = some (.lst (([false, false, true, true, false, false] : List Bool).map .bl)) := z15
      ((try simp [-sSeq, -dat_ref, sSeqK, small, lim, big, dat_bls z14, dat_bls z15', eqvs_bls]); (repeat (first | ((with_reducible refine kont_go ?_); try simp [-sSeq, -dat_ref, sSeqK, small, lim, big, dat_bls z14, dat_bls z15', eqvs_bls]) | ((with_reducible refine And.intro ?_ ?_); · omega))))
      exact hN _ _ ⟨(((G11.trans G12).trans G13).trans G14).trans G15, _, _, _, _, rfl⟩
    · rintro σ h11 ⟨G11, q1, q2, q3, q4, rfl⟩
      ((try simp [-sSeq, -dat_ref, sSeqK, small, lim, big]); (repeat (first | ((with_reducible refine kont_go ?_); try simp [-sSeq, -dat_ref, sSeqK, small, lim, big]) | ((with_reducible refine And.intro ?_ ?_); · omega))))
      refine refused6_spec (way := 2) (c := "BadSize") (by omega) (Or.inl ⟨pb, rfl⟩) fun j1 h12 z12 G12 => ?_
      rw [k1] at z12
      (try dsimp only); generalize hh : put h12 221 _ = h13 at *; obtain ⟨G13, z13⟩ := new_of hh (by decide); clear hh
      have z12 := G13.rd z12
      have z13' : rd h13 221 (h12 221).length = some (.lst (([false, true, false, true, false, false] : List Bool).map .bl)) := z13
      ((try simp [-sSeq, -dat_ref, sSeqK, small, lim, big, dat_bls z12, dat_bls z13', eqvs_bls]); (repeat (first | ((with_reducible refine kont_go ?_); try simp [-sSeq, -dat_ref, sSeqK, small, lim, big, dat_bls z12, dat_bls z13', eqvs_bls]) | ((with_reducible refine And.intro ?_ ?_); · omega))))
      exact q _ (((GG.trans G11).trans G12).trans G13)
structure Inv6 (h : MH) (w : Nat) (I Kk P : Nat → Nat) (xb xr xc xl xs : Nat) (n : Nat → Nat) (B : Nat → Bd) (L : Nat → List Int) (C : Nat → Int) (Z : Nat → MV) : Prop where
  w : WellAt h w
  b : ∀ j, j < 2 → BoardAt h (I j) (Kk j) (B j) ∧ rd h 0 (P j) = some (.lst ((L j).map .int))
  xb : rd h 192 xb = some (.lst [.ref 10 (I 0), .ref 10 (I 1)])
  xr : rd h 195 xr = some (.lst [.ref 0 (P 0), .ref 0 (P 1)])
  xc : rd h 196 xc = some (.lst [.int (C 0), .int (C 1)])
  xl : rd h 197 xl = some (.lst [Z 0, Z 1])
  xs : rd h 189 xs = some (.lst [.int (n 0), .int (n 1)])
section
variable {h h' : MH} {w : Nat} {I Kk P : Nat → Nat} {xb xr xc xl xs : Nat} {n : Nat → Nat} {B : Nat → Bd} {L : Nat → List Int} {C : Nat → Int} {Z : Nat → MV}
theorem Inv6.gr (v : Inv6 h w I Kk P xb xr xc xl xs n B L C Z) (g : Gr h h') : Inv6 h' w I Kk P xb xr xc xl xs n B L C Z :=
  ⟨g.w v.w, fun j hj => ⟨(v.b j hj).1.gr g, g.rd (v.b j hj).2⟩, g.rd v.xb, g.rd v.xr, g.rd v.xc, g.rd v.xl, g.rd v.xs⟩
theorem inj2 {f : Nat → Nat} (h : f 0 ≠ f 1) {i j : Nat} (hi : i < 2) (hj : j < 2) (e : i ≠ j) : f i ≠ f j := by
  rcases (show i = 0 ∨ i = 1 by omega) with rfl | rfl <;> rcases (show j = 0 ∨ j = 1 by omega) with rfl | rfl
  · exact absurd rfl e
  · exact h
  · exact fun z => h z.symm
  · exact absurd rfl e
theorem Inv6.row (v : Inv6 h w I Kk P xb xr xc xl xs n B L C Z) (p : P 0 ≠ P 1) {a : Nat} (ha : a < 2) {l : List Int} (g : Ke 0 (P a) h h') (z : rd h' 0 (P a) = some (.lst (l.map .int))) : Inv6 h' w I Kk P xb xr xc xl xs n B (fun i => if i = a then l else L i) C Z := by
  refine ⟨g.w v.w, fun j hj => ⟨⟨g.rd (v.b j hj).1.1, g.rd (v.b j hj).1.2⟩, ?_⟩, g.rd v.xb, g.rd v.xr, g.rd v.xc, g.rd v.xl, g.rd v.xs⟩
  by_cases c : j = a
  · subst c; rw [if_pos rfl]; exact z
  · rw [if_neg c]; exact g.rd (v.b j hj).2 (by decide) (Or.inr (inj2 p hj ha c))
theorem Inv6.board (v : Inv6 h w I Kk P xb xr xc xl xs n B L C Z) (p : I 0 ≠ I 1) (q : Kk 0 ≠ Kk 1) {a : Nat} (ha : a < 2) {nb : Bd} (g : Kx (SB (I a) (Kk a)) h h') (z : BoardAt h' (I a) (Kk a) nb) : Inv6 h' w I Kk P xb xr xc xl xs n (fun i => if i = a then nb else B i) L C Z := by
  refine ⟨g.w v.w, fun j hj => ⟨?_, g.rd (v.b j hj).2 (by decide) (by simp [SB])⟩, g.rd v.xb (by decide) (by simp [SB]), g.rd v.xr (by decide) (by simp [SB]), g.rd v.xc (by decide) (by simp [SB]), g.rd v.xl (by decide) (by simp [SB]), g.rd v.xs (by decide) (by simp [SB])⟩
  by_cases c : j = a
  · subst c; rw [if_pos rfl]; exact z
  · rw [if_neg c]
    refine (v.b j hj).1.kx g ?_ ?_
    · simp [SB]; exact inj2 p hj ha c
    · simp [SB]; exact inj2 q hj ha c
theorem Inv6.count (v : Inv6 h w I Kk P xb xr xc xl xs n B L C Z) {C' : Nat → Int} (g : Ke 196 xc h h') (z : rd h' 196 xc = some (.lst [.int (C' 0), .int (C' 1)])) : Inv6 h' w I Kk P xb xr xc xl xs n B L C' Z :=
  ⟨g.w v.w, fun j hj => ⟨⟨g.rd (v.b j hj).1.1, g.rd (v.b j hj).1.2⟩, g.rd (v.b j hj).2⟩, g.rd v.xb, g.rd v.xr, z, g.rd v.xl, g.rd v.xs⟩
theorem Inv6.latest (v : Inv6 h w I Kk P xb xr xc xl xs n B L C Z) {Z' : Nat → MV} (g : Ke 197 xl h h') (z : rd h' 197 xl = some (.lst [Z' 0, Z' 1])) : Inv6 h' w I Kk P xb xr xc xl xs n B L C Z' :=
  ⟨g.w v.w, fun j hj => ⟨⟨g.rd (v.b j hj).1.1, g.rd (v.b j hj).1.2⟩, g.rd (v.b j hj).2⟩, g.rd v.xb, g.rd v.xr, g.rd v.xc, z, g.rd v.xs⟩
/-- between two turns of the loop -/
def Ok6 (h : MH) (w : Nat) (I Kk P : Nat → Nat) (xb xr xc xl xs : Nat) (n : Nat → Nat) (B : Nat → Bd) : Prop :=
  Inv6 h w I Kk P xb xr xc xl xs n B (fun j => (B j).cells) (fun j => (B j).cnt) (fun j => lastV (B j).last) ∧ ∀ j, j < 2 → (B j).size = n j ∧ (B j).cells.length = 4 * n j + 4
end
theorem at2 {α : Type} (f : Nat → α) {j : Nat} (hj : j < 2) : atI [f 0, f 1] (j : Int) = some (f j) := by
  rcases (show j = 0 ∨ j = 1 by omega) with rfl | rfl <;> rfl
theorem set2 {α : Type} (f : Nat → α) {j : Nat} (hj : j < 2) (v : α) : [f 0, f 1].set j v = [(fun i => if i = j then v else f i) 0, (fun i => if i = j then v else f i) 1] := by
  rcases (show j = 0 ∨ j = 1 by omega) with rfl | rfl <;> rfl
theorem law_true_v6 (ns : List Int) (hn : ns.length ≤ 63) (h : MH) (E : QX) : F_law_v6 [.cst (ns.map .int)] h (fun v _ => v = .bl true) E := by
  ((try simp [-sSeq, -dat_ref, sSeqK, small, lim, big, F_law_v6_eq]); (repeat (first | ((with_reducible refine kont_go ?_); try simp [-sSeq, -dat_ref, sSeqK, small, lim, big, F_law_v6_eq]) | ((with_reducible refine And.intro ?_ ?_); · omega))))
  refine well_gr (k := 0) (by simp) (by omega) fun h1 w G1 => ?_
  ((try simp [-sSeq, -dat_ref, sSeqK, small, lim, big]); (repeat (first | ((with_reducible refine kont_go ?_); try simp [-sSeq, -dat_ref, sSeqK, small, lim, big]) | ((with_reducible refine And.intro ?_ ?_); · omega))))
  refine take_gr w (by omega) (le_dmax (by omega)) fun g1 h2 a1 b1 G2 => ?_
  have w := G2.w w
  ((try simp [-sSeq, -dat_ref, sSeqK, small, lim, big]); (repeat (first | ((with_reducible refine kont_go ?_); try simp [-sSeq, -dat_ref, sSeqK, small, lim, big]) | ((with_reducible refine And.intro ?_ ?_); · omega))))
  refine take_gr w (by omega) (le_dmax (by omega)) fun g2 h3 a2 b2 G3 => ?_
  have w := G3.w w
  obtain ⟨n0, hn0⟩ : ∃ n : Nat, 2 + g1 = n := ⟨(2 + g1).toNat, by omega⟩
  obtain ⟨n1, hn1⟩ : ∃ n : Nat, 2 + g2 = n := ⟨(2 + g2).toNat, by omega⟩
  simp only [oAdd, hn0, hn1]
  (try dsimp only); generalize hh : put h3 189 _ = h4 at *; obtain ⟨G4, z4⟩ := new_of hh (by decide); clear hh
  have w := G4.w w
  ((try simp [-sSeq, -dat_ref, sSeqK, small, lim, big, z4]); (repeat (first | ((with_reducible refine kont_go ?_); try simp [-sSeq, -dat_ref, sSeqK, small, lim, big, z4]) | ((with_reducible refine And.intro ?_ ?_); · omega))))
  refine board_make (by omega) (by omega) fun h5 y0 G5 => ?_
  have w := G5.w w; have z4 := G5.rd z4
  ((try simp [-sSeq, -dat_ref, sSeqK, small, lim, big, z4]); (repeat (first | ((with_reducible refine kont_go ?_); try simp [-sSeq, -dat_ref, sSeqK, small, lim, big, z4]) | ((with_reducible refine And.intro ?_ ?_); · omega))))
  refine board_make (by omega) (by omega) fun h6 y1 G6 => ?_
  have w := G6.w w; have z4 := G6.rd z4
  have ne1 := rd_lt y0.1
  have ne2 := rd_lt y0.2
  have y0 := y0.gr G6
  simp [-sSeq, -dat_ref, sSeqK, small, lim, z4]
  (try dsimp only); generalize hh : put h6 192 _ = h7 at *; obtain ⟨G7, z7⟩ := new_of hh (by decide); clear hh
  have w := G7.w w; have z4 := G7.rd z4
  have y0 := y0.gr G7
  have y1 := y1.gr G7
  refine kont_go ?_
  simp [-sSeq, -dat_ref, sSeqK, small, lim, z4, rep_length]
  (repeat ((with_reducible refine And.intro ?_ ?_); · omega))
  generalize hh : put _ 195 _ = h8
  have G8 : Gr h7 h8 := by rw [← hh]; (repeat (refine gr_app ?_ (by decide) _)); exact Gr.refl _
  have z8 : rd h8 195 (h7 195).length = some (.lst [.ref 0 ((h7 0).length + 1), .ref 0 ((h7 0).length + 3)]) := by rw [← hh]; simp
  have r0 : rd h8 0 ((h7 0).length + 1) = some (.lst ((newBd n0).cells.map .int)) := by
    rw [← hh]; simp [newBd, rep4]
  have r1 : rd h8 0 ((h7 0).length + 3) = some (.lst ((newBd n1).cells.map .int)) := by
    rw [← hh]; simp [newBd, rep4]
  clear hh
  have w := G8.w w; have z4 := G8.rd z4; have z7 := G8.rd z7
  have y0 := y0.gr G8
  have y1 := y1.gr G8
  refine kont_go ?_; simp [-sSeq, -dat_ref, sSeqK, small, lim, big]
  (try dsimp only); generalize hh : put h8 196 _ = h9 at *; obtain ⟨G9, z9⟩ := new_of hh (by decide); clear hh
  have w := G9.w w; have z4 := G9.rd z4; have z7 := G9.rd z7; have z8 := G9.rd z8; have r0 := G9.rd r0; have r1 := G9.rd r1
  have y0 := y0.gr G9
  have y1 := y1.gr G9
  refine kont_go ?_; simp [-sSeq, -dat_ref, sSeqK, small, lim, big]
  (try dsimp only); generalize hh : put h9 197 _ = h10 at *; obtain ⟨G10, z10⟩ := new_of hh (by decide); clear hh
  have w := G10.w w; have z4 := G10.rd z4; have z7 := G10.rd z7; have z8 := G10.rd z8; have z9 := G10.rd z9; have r0 := G10.rd r0; have r1 := G10.rd r1
  have y0 := y0.gr G10
  have y1 := y1.gr G10
  ((try simp [-sSeq, -dat_ref, sSeqK, small, lim, big]); (repeat (first | ((with_reducible refine kont_go ?_); try simp [-sSeq, -dat_ref, sSeqK, small, lim, big]) | ((with_reducible refine And.intro ?_ ?_); · omega))))
  refine forL_inv (fun _ σ h' => ∃ B, Ok6 h' (h 1).length (fun j => if j = 0 then (h4 10).length else (h5 10).length) (fun j => if j = 0 then (h4 20).length else (h5 20).length) (fun j => if j = 0 then (h7 0).length + 1 else (h7 0).length + 3) (h6 192).length (h7 195).length (h8 196).length (h9 197).length (h3 189).length (fun j => if j = 0 then n0 else n1) B ∧
    ∃ a b c d e f g j k, σ = [some (.cst (ns.map .int)), some (.ref 1 (h 1).length), some (.ref 189 (h3 189).length), some (.ref 192 (h6 192).length), some (.ref 195 (h7 195).length), some (.ref 196 (h8 196).length), some (.ref 197 (h9 197).length), a, b, c, d, e, f, g, j, k]) _ 0 _ _ ?_ (fun _ _ _ _ => trivial) ?_ ?_
  · refine ⟨fun j => if j = 0 then newBd n0 else newBd n1, ⟨⟨w, fun j hj => ?_, z7, z8, by simpa [newBd] using z9, by simpa [newBd, lastV] using z10, by simpa using z4⟩, fun j hj => ?_⟩, _, _, _, _, _, _, _, _, _, rfl⟩
    rcases (show j = 0 ∨ j = 1 by omega) with rfl | rfl
    · exact ⟨y0, r0⟩
    · exact ⟨y1, r1⟩
    rcases (show j = 0 ∨ j = 1 by omega) with rfl | rfl
    · exact ⟨rfl, by simp [newBd]; omega⟩
    · exact ⟨rfl, by simp [newBd]; omega⟩
  · have nI : (h4 10).length ≠ (h5 10).length := by omega
    have nK : (h4 20).length ≠ (h5 20).length := by omega
    have nP : (h7 0).length + 1 ≠ (h7 0).length + 3 := by omega
    have i0 : (fun j => if j = 0 then (h4 10).length else (h5 10).length) 0 ≠ (fun j => if j = 0 then (h4 10).length else (h5 10).length) 1 := by simpa using nI
    have kk0 : (fun j => if j = 0 then (h4 20).length else (h5 20).length) 0 ≠ (fun j => if j = 0 then (h4 20).length else (h5 20).length) 1 := by simpa using nK
    have p0 : (fun j => if j = 0 then (h7 0).length + 1 else (h7 0).length + 3) 0 ≠ (fun j => if j = 0 then (h7 0).length + 1 else (h7 0).length + 3) 1 := by simpa using nP
    have nn : ∀ j, 2 ≤ (fun j => if j = 0 then n0 else n1) j ∧ (fun j => if j = 0 then n0 else n1) j ≤ 8 := fun j => by
      dsimp only
      split <;> omega
    clear z4 z7 z8 z9 z10 r0 r1 y0 y1 ne1 ne2 w nI nK nP G1 G2 G3 G4 G5 G6 G7 G8 G9 G10
    generalize (fun j => if j = 0 then (h4 10).length else (h5 10).length) = I at *
    generalize (fun j => if j = 0 then (h4 20).length else (h5 20).length) = Kk at *
    generalize (fun j => if j = 0 then (h7 0).length + 1 else (h7 0).length + 3) = P at *
    generalize (fun j => if j = 0 then n0 else n1) = n at *
    generalize (h6 192).length = xb at *
    generalize (h7 195).length = xr at *
    generalize (h8 196).length = xc at *
    generalize (h9 197).length = xl at *
    generalize (h3 189).length = xs at *
    generalize (h 1).length = w0 at *
    rintro k x σ h0 N hk ⟨B, ⟨v, vv⟩, y1, y2, y3, y4, y5, y6, y7, y8, y9, rfl⟩ hN
    obtain ⟨hk2, rfl⟩ := rng_at hk
    ((try simp [-sSeq, -dat_ref, sSeqK, small, lim, big]); (repeat (first | ((with_reducible refine kont_go ?_); try simp [-sSeq, -dat_ref, sSeqK, small, lim, big]) | ((with_reducible refine And.intro ?_ ?_); · omega))))
    refine well_gr (k := k) (by simp) (by omega) fun h1 ww G1 => ?_
    replace v := v.gr G1
    ((try simp [-sSeq, -dat_ref, sSeqK, small, lim, big]); (repeat (first | ((with_reducible refine kont_go ?_); try simp [-sSeq, -dat_ref, sSeqK, small, lim, big]) | ((with_reducible refine And.intro ?_ ?_); · omega))))
    refine take_gr ww (by omega) (le_dmax (by omega)) fun at' h2 a1 b1 G2 => ?_
    have ww := G2.w ww
    replace v := v.gr G2
    obtain ⟨at', rfl⟩ : ∃ m : Nat, at' = m := ⟨at'.toNat, by omega⟩
    have ha : at' < 2 := by omega
    ((try simp [-sSeq, -dat_ref, sSeqK, small, lim, big]); (repeat (first | ((with_reducible refine kont_go ?_); try simp [-sSeq, -dat_ref, sSeqK, small, lim, big]) | ((with_reducible refine And.intro ?_ ?_); · omega))))
    refine take_gr ww (by omega) (le_dmax (by omega)) fun wr h3 a2 b2 G3 => ?_
    have ww := G3.w ww
    replace v := v.gr G3
    ((try simp [-sSeq, -dat_ref, sSeqK, small, lim, big]); (repeat (first | ((with_reducible refine kont_go ?_); try simp [-sSeq, -dat_ref, sSeqK, small, lim, big]) | ((with_reducible refine And.intro ?_ ?_); · omega))))
    generalize decide (wr = 0) = wb
    refine take_gr ww (by omega) (le_dmax (by omega)) fun u1 h4 a3 b3 G4 => ?_
    have ww := G4.w ww
    replace v := v.gr G4
    ((try simp [-sSeq, -dat_ref, sSeqK, small, lim, big]); (repeat (first | ((with_reducible refine kont_go ?_); try simp [-sSeq, -dat_ref, sSeqK, small, lim, big]) | ((with_reducible refine And.intro ?_ ?_); · omega))))
    refine far_gr ww fun u2 h5 a4 b4 G5 => ?_
    have ww := G5.w ww
    replace v := v.gr G5
    ((try simp [-sSeq, -dat_ref, sSeqK, small, lim, big]); (repeat (first | ((with_reducible refine kont_go ?_); try simp [-sSeq, -dat_ref, sSeqK, small, lim, big]) | ((with_reducible refine And.intro ?_ ?_); · omega))))
    refine far_gr ww fun u3 h6 a5 b5 G6 => ?_
    have ww := G6.w ww
    replace v := v.gr G6
    ((try simp [-sSeq, -dat_ref, sSeqK, small, lim, big]); (repeat (first | ((with_reducible refine kont_go ?_); try simp [-sSeq, -dat_ref, sSeqK, small, lim, big]) | ((with_reducible refine And.intro ?_ ?_); · omega))))
    refine pickI_gr (P := fun m => True) (ns := [u1, u2, -u3]) ww (by decide) rfl rfl (by omega) (by omega) (by simp) fun num h7 _ G7 => ?_
    have ww := G7.w ww
    replace v := v.gr G7
    have er := at2 (fun j => MV.ref 0 (P j)) ha
    have eb := at2 (fun j => MV.ref 10 (I j)) ha
    obtain ⟨vb1, vb2⟩ := v.b at' ha
    obtain ⟨vb3, vb4⟩ := vv at' ha
    have vb5 := nn at'
    ((try simp [-sSeq, -dat_ref, sSeqK, small, lim, big, v.xr, er, vb2]); (repeat (first | ((with_reducible refine kont_go ?_); try simp [-sSeq, -dat_ref, sSeqK, small, lim, big, v.xr, er, vb2]) | ((with_reducible refine And.intro ?_ ?_); · omega))))
    refine take_gr ww (by omega) (le_dmax (by omega)) fun c h8 a6 b6 G8 => ?_
    have ww := G8.w ww
    replace v := v.gr G8
    have vb1 := (vb1.gr G8)
    have vb2 := G8.rd vb2
    obtain ⟨c, rfl⟩ : ∃ m : Nat, c = m := ⟨c.toNat, by omega⟩
    have hc : c < (B at').cells.length := by omega
    try dsimp only
    refine kont_go ?_
    refine seq_cut (fun σ h => ∃ B, Ok6 h w0 I Kk P xb xr xc xl xs n B ∧ ∃ a b c d e f g j k, σ = [some (.cst (ns.map .int)), some (.ref 1 w0), some (.ref 189 xs), some (.ref 192 xb), some (.ref 195 xr), some (.ref 196 xc), some (.ref 197 xl), a, b, c, d, e, f, g, j, k]) (fun N' hN' => ?_) ?_
    · ((try simp [-sSeq, -dat_ref, sSeqK, small, lim, big]); (repeat (first | ((with_reducible refine kont_go ?_); try simp [-sSeq, -dat_ref, sSeqK, small, lim, big]) | ((with_reducible refine And.intro ?_ ?_); · omega))))
      refine take_gr ww (by omega) (le_dmax (by omega)) fun five h9 a7 b7 G9 => ?_
      have ww := G9.w ww; have vb2 := G9.rd vb2
      replace v := v.gr G9
      replace vb1 := vb1.gr G9
      ((try simp [-sSeq, -dat_ref, sSeqK, small, lim, big]); (repeat (first | ((with_reducible refine kont_go ?_); try simp [-sSeq, -dat_ref, sSeqK, small, lim, big]) | ((with_reducible refine And.intro ?_ ?_); · omega))))
      by_cases h5 : five = 0
      · rw [if_pos h5]
        ((try simp [-sSeq, -dat_ref, sSeqK, small, lim, big, v.xr, er, vb2]); (repeat (first | ((with_reducible refine kont_go ?_); try simp [-sSeq, -dat_ref, sSeqK, small, lim, big, v.xr, er, vb2]) | ((with_reducible refine And.intro ?_ ?_); · omega))))
        refine far_gr ww fun u4 h10 a8 b8 G10 => ?_
        have ww := G10.w ww; have vb2 := G10.rd vb2
        replace v := v.gr G10
        replace vb1 := vb1.gr G10
        ((try simp [-sSeq, -dat_ref, sSeqK, small, lim, big, v.xr, er, vb2]); (repeat (first | ((with_reducible refine kont_go ?_); try simp [-sSeq, -dat_ref, sSeqK, small, lim, big, v.xr, er, vb2]) | ((with_reducible refine And.intro ?_ ?_); · omega))))
        refine far_gr ww fun u5 h11 a9 b9 G11 => ?_
        have ww := G11.w ww
        replace v := v.gr G11
        replace vb1 := vb1.gr G11
        ((try simp [-sSeq, -dat_ref, sSeqK, small, lim, big]); (repeat (first | ((with_reducible refine kont_go ?_); try simp [-sSeq, -dat_ref, sSeqK, small, lim, big]) | ((with_reducible refine And.intro ?_ ?_); · omega))))
        refine pickI_gr (P := fun m => m < 0 ∨ ((B at').cells.length : Int) ≤ m) (ns := [-1, (B at').cells.length, -u4, (B at').cells.length - 1 + u5]) ww (by decide) rfl rfl (by omega) (by omega) (by simp; omega) fun cell h12 pc G12 => ?_
        replace v := v.gr G12
        replace vb1 := vb1.gr G12
        ((try simp [-sSeq, -dat_ref, sSeqK, small, lim, big, v.xb, eb]); (repeat (first | ((with_reducible refine kont_go ?_); try simp [-sSeq, -dat_ref, sSeqK, small, lim, big, v.xb, eb]) | ((with_reducible refine And.intro ?_ ?_); · omega))))
        refine touch_bad vb1 pc fun j h13 z13 G13 => ?_
        replace v := v.gr G13
        have z13' : rd h13 0 j = some (.lst (([true, false, false, true, false, false] : List Bool).map .bl)) := z13
        (try dsimp only); generalize hh : put h13 200 _ = h14 at *; obtain ⟨G14, z14⟩ := new_of hh (by decide); clear hh
        have z13' := G14.rd z13'
        ((try simp [-sSeq, -dat_ref, sSeqK, small, lim, big, z13']); (repeat (first | ((with_reducible refine kont_go ?_); try simp [-sSeq, -dat_ref, sSeqK, small, lim, big, z13']) | ((with_reducible refine And.intro ?_ ?_); · omega))))
        exact hN' _ _ ⟨B, ⟨v.gr G14, vv⟩, _, _, _, _, _, _, _, _, _, rfl⟩
      · rw [if_neg h5]
        have ecnt := at2 (fun j => MV.int (B j).cnt) ha
        have hcell : (B at').cells[c]? = some (B at').cells[c] := List.getElem?_eq_getElem hc
        obtain ⟨cv, hcv⟩ : ∃ cv, (B at').cells[c]? = some cv := ⟨_, hcell⟩
        obtain ⟨nb, hnb⟩ : ∃ nb, nb = if wb = true then (B at').put c num else (B at').touch "read" c cv := ⟨_, rfl⟩
        have nb1 : nb.cells = if wb = true then (B at').cells.set c num else (B at').cells := by rw [hnb]; cases wb <;> rfl
        have nb2 : nb.cnt = (B at').cnt + 1 := by rw [hnb]; cases wb <;> rfl
        have nb3 : nb.size = (B at').size := by rw [hnb]; cases wb <;> rfl
        obtain ⟨lv, hlv⟩ : ∃ lv, nb.cells[c]? = some lv := by
          rw [nb1]; cases wb
          · exact ⟨cv, hcv⟩
          · exact ⟨num, by simp [hc]⟩
        have nb4 : nb.last = some (if wb = true then "write" else "read", (c : Int), lv) := by
          cases wb with
          | true => rw [hnb]; rw [nb1] at hlv; simp [hc] at hlv; rw [← hlv]; rfl
          | false => rw [hnb]; rw [nb1] at hlv; simp at hlv; rw [hcv] at hlv; cases hlv; rfl
        clear hcell
        (try simp [-sSeq, -dat_ref, sSeqK, small, lim])
        refine kont_go ?_
        refine seq_cut (fun σ h => Inv6 h w0 I Kk P xb xr xc xl xs n B (fun i => if i = at' then nb.cells else (B i).cells) (fun j => (B j).cnt) (fun j => lastV (B j).last) ∧ σ = [some (.cst (ns.map .int)), some (.ref 1 w0), some (.ref 189 xs), some (.ref 192 xb), some (.ref 195 xr), some (.ref 196 xc), some (.ref 197 xl), some (.int k), some (.ref 1 (h0 1).length), some (.int at'), some (.bl wb), some (.int num), some (.int c), y7, y8, some (if wb = true then .non else .int cv)]) (fun N2 hN2 => ?_) ?_
        · cases wb with
          | true =>
            simp [-sSeq, -dat_ref, sSeqK, small, lim, v.xr, er, vb2, ixN_nat, hc]
            generalize hh : put h9 0 _ = h10
            obtain ⟨K10, z10⟩ := set_of hh vb2 (by decide)
            rw [show ((B at').cells.map MV.int).set c (.int num) = nb.cells.map .int by rw [nb1, if_pos rfl, List.map_set]] at z10
            exact hN2 _ _ ⟨v.row p0 ha K10 z10, rfl⟩
          | false =>
            simp [-sSeq, -dat_ref, sSeqK, small, lim, v.xr, er, vb2, atI_nat, hcv]
            refine hN2 _ _ ⟨?_, rfl⟩
            have : (fun i => if i = at' then nb.cells else (B i).cells) = fun i => (B i).cells := by
              funext i
              by_cases c : i = at'
              · rw [if_pos c, nb1, c]; rfl
              · rw [if_neg c]
            rw [this]
            exact v
        · clear v vb1 vb2
          rintro σ h10 ⟨v, rfl⟩
          ((try simp [-sSeq, -dat_ref, sSeqK, small, lim, big, v.xb, eb]); (repeat (first | ((with_reducible refine kont_go ?_); try simp [-sSeq, -dat_ref, sSeqK, small, lim, big, v.xb, eb]) | ((with_reducible refine And.intro ?_ ?_); · omega))))
          refine touch_ok (v.b at' ha).1 hcv fun j h11 z11 y11 K11 => ?_
          rw [← hnb] at y11
          have v := v.board i0 kk0 ha K11 y11
          (try dsimp only); generalize hh : put h11 204 _ = h12 at *; obtain ⟨G12, z12⟩ := new_of hh (by decide); clear hh
          have z11 := G12.rd z11
          replace v := v.gr G12
          have tdd : dat h12 7 (if wb = true then MV.non else .int cv) = some (if wb = true then PD.non else .int cv) := by cases wb <;> simp
          simp [-sSeq, -dat_ref, sSeqK, small, lim, z11, tdd, PD.eqv_refl]
          refine kont_go ?_; simp [-sSeq, -dat_ref, sSeqK, small, lim, big, v.xc, ecnt, ixN_nat, ha]
          generalize hh : put h12 196 _ = h13
          obtain ⟨K13, z13⟩ := set_of hh v.xc (by decide)
          rw [set2 (fun j => MV.int (B j).cnt) ha] at z13
          have v := v.count (C' := fun j => if j = at' then (B at').cnt + 1 else (B j).cnt) K13 (by
            rw [z13]
            rcases (show at' = 0 ∨ at' = 1 by omega) with rfl | rfl <;> rfl)
          clear z13
          have r13 : rd h13 0 (P at') = some (.lst (nb.cells.map .int)) := by
            have := (v.b at' ha).2
            rw [if_pos rfl] at this
            exact this
          have hw : atI [MV.str "read", MV.str "write"] (if wb = true then 1 else 0) = some (.str (if wb = true then "write" else "read")) := by cases wb <;> rfl
          refine kont_go ?_; simp [-sSeq, -dat_ref, sSeqK, small, lim, big, hw, v.xr, er, r13, atI_nat, hlv, v.xl, ixN_nat, ha]
          generalize hh : put _ 197 _ = h14
          generalize hg : put h13 205 _ = h15 at hh
          obtain ⟨G15, _⟩ := new_of hg (by decide)
          have v := v.gr G15
          have hx : h13 197 = h15 197 := by rw [← hg]; simp
          rw [hx] at hh
          obtain ⟨K14, z14⟩ := set_of hh v.xl (by decide)
          rw [set2 (fun j => lastV (B j).last) ha] at z14
          have v := v.latest (Z' := fun j => lastV ((fun i => if i = at' then nb else B i) j).last) K14 (by
            rw [z14]
            rcases (show at' = 0 ∨ at' = 1 by omega) with rfl | rfl <;> simp [nb4, lastV])
          refine hN' _ _ ⟨fun i => if i = at' then nb else B i, ⟨?_, fun j hj => ?_⟩, _, _, _, _, _, _, _, _, _, rfl⟩
          · have e1 : (fun i => if i = at' then nb.cells else (B i).cells) = fun j => ((fun i => if i = at' then nb else B i) j).cells := by
              funext i; dsimp only; split <;> rfl
            have e2 : (fun j => if j = at' then (B at').cnt + 1 else (B j).cnt) = fun j => ((fun i => if i = at' then nb else B i) j).cnt := by
              funext i; dsimp only; split
              · rw [nb2]
              · rfl
            rw [e1, e2] at v
            exact v
          · dsimp only
            split
            · rename_i e
              subst e
              refine ⟨by rw [nb3, vb3], ?_⟩
              rw [nb1]
              cases wb <;> simp [vb4]
            · exact vv j hj
    · rintro σ h9 ⟨B, ⟨v, vv⟩, y1, y2, y3, y4, y5, y6, y7, y8, y9, rfl⟩
      ((try simp [-sSeq, -dat_ref, sSeqK, small, lim, big]); (repeat (first | ((with_reducible refine kont_go ?_); try simp [-sSeq, -dat_ref, sSeqK, small, lim, big]) | ((with_reducible refine And.intro ?_ ?_); · omega))))
      refine forL_inv (fun _ σ h => Inv6 h w0 I Kk P xb xr xc xl xs n B (fun j => (B j).cells) (fun j => (B j).cnt) (fun j => lastV (B j).last) ∧ ∃ a b c d e f g j k, σ = [some (.cst (ns.map .int)), some (.ref 1 w0), some (.ref 189 xs), some (.ref 192 xb), some (.ref 195 xr), some (.ref 196 xc), some (.ref 197 xl), a, b, c, d, e, f, g, j, k]) _ 0 _ _ ⟨v, _, _, _, _, _, _, _, _, _, rfl⟩ (fun _ _ _ _ => trivial) ?_ ?_
      · clear v
        rintro j x σ h10 N2 hj ⟨v, y1, y2, y3, y4, y5, y6, y7, y8, y9, rfl⟩ hN2
        obtain ⟨hj2, rfl⟩ := rng_at hj
        have hj2 : j < 2 := hj2
        have er := at2 (fun j => MV.ref 0 (P j)) hj2
        have eb := at2 (fun j => MV.ref 10 (I j)) hj2
        have ec := at2 (fun j => MV.int (B j).cnt) hj2
        have el := at2 (fun j => lastV (B j).last) hj2
        have es := at2 (fun j => MV.int (n j)) hj2
        ((try simp [-sSeq, -dat_ref, sSeqK, small, lim, big, v.xb, v.xs, v.xr, v.xc, v.xl, er, eb, ec, el, es]); (repeat (first | ((with_reducible refine kont_go ?_); try simp [-sSeq, -dat_ref, sSeqK, small, lim, big, v.xb, v.xs, v.xr, v.xc, v.xl, er, eb, ec, el, es]) | ((with_reducible refine And.intro ?_ ?_); · omega))))
        rw [← (vv j hj2).1]
        refine right6_spec (v.b j hj2).1 (v.b j hj2).2 fun h11 G11 => ?_
        ((try simp [-sSeq, -dat_ref, sSeqK, small, lim, big]); (repeat (first | ((with_reducible refine kont_go ?_); try simp [-sSeq, -dat_ref, sSeqK, small, lim, big]) | ((with_reducible refine And.intro ?_ ?_); · omega))))
        exact hN2 _ _ ⟨v.gr G11, _, _, _, _, _, _, _, _, _, rfl⟩
      · rintro σ h10 ⟨v, y1, y2, y3, y4, y5, y6, y7, y8, y9, rfl⟩
        exact hN _ _ ⟨B, ⟨v, vv⟩, _, _, _, _, _, _, _, _, _, rfl⟩
  · rintro σ h' ⟨B, ⟨v, vv⟩, y1, y2, y3, y4, y5, y6, y7, y8, y9, rfl⟩
    ((try simp [-sSeq, -dat_ref, sSeqK, small, lim, big, v.xs]); (repeat (first | ((with_reducible refine kont_go ?_); try simp [-sSeq, -dat_ref, sSeqK, small, lim, big, v.xs]) | ((with_reducible refine And.intro ?_ ?_); · omega))))
    refine cells6_spec v.w (by omega) (by omega) fun h' G => ?_
    ((try simp [-sSeq, -dat_ref, sSeqK, small, lim, big]); (repeat (first | ((with_reducible refine kont_go ?_); try simp [-sSeq, -dat_ref, sSeqK, small, lim, big]) | ((with_reducible refine And.intro ?_ ?_); · omega))))
end Mi
end TxK06

section TxDerk06
set_option Elab.async false
set_option linter.all false
set_option autoImplicit false
set_option maxRecDepth 100000
set_option maxHeartbeats 4000000
namespace Mi
open PySem PySem.Spec PyProof.Rows L2
def top (i : Nat) : Stmt := PySem.Challenge.pw_slipring_k06_boards_touched.main.body.getD i (.Pass ⟨0, 0, 0, 0⟩)
def IsDs : List String := ["BadCells", "BadMark", "BadOrder", "BadSize", "BadStand", "Crooked", "NoCell", "NoHand", "NoName", "NoRow", "NoText", "NoTurn", "NoWaiting", "NotSound", "TooMany"]
def Er : List String := ["BadSize", "NoCell", "NoHand"]
def sub (s : Stmt) (j : Nat) : Stmt := match s with
  | .ClassDef _ _ _ body _ _ _ _ _ _ _ => body.getD j (.Pass ⟨0, 0, 0, 0⟩)
  | s => s
abbrev CLS : List String := ["Board"]
abbrev FLS : List String := ["counted", "kept", "latest", "size"]
abbrev TT (K : PySem.W.Frag) : Tx := ⟨K, CLS, FLS, Er⟩
section
variable {K : PySem.W.Frag} {P : Program} {w : World} {mg : Str → Option Value} {base : Heap}
abbrev s_law_well : Stmt := top 33
abbrev N_law_well : List Str := ["script", "k", "cell", "primes", "seed"]
theorem sc_law_well : FnScope N_law_well ["script", "k"] (defScope s_law_well) := ⟨rfl, rfl, rfl, by decide +kernel, rfl, by decide +kernel, by decide +kernel⟩
theorem ok_law_well (m_len : mg (st "len") = none) (D : ∃ fd, FunD K (st "_law_well") (st "_law_well") (defArgs s_law_well) (defBody s_law_well) (defScope s_law_well) [] [] (He.ga K (st "_law_well")) fd) (at_ : mg (st "_law_well") = some (.ref (He.ga K (st "_law_well")))) :
    FnM (TT K) P w mg base 2 "_law_well" ["script", "k"] F_law_well := by
  rw [F_law_well_eq]
  refine fnM_mk (T := TT K) D at_ sc_law_well rfl rfl (fun _ _ _ _ _ _ us hl => match us, hl with | [_, _], _ => rfl) fun cdv A outer s H E hr => ?_
  have tk := takes_of (X := cxOf (L2.CX P w) P w K mg base N_law_well (st "_law_well") (defScope s_law_well) (He.ga K (st "_law_well")) cdv A outer s H E) rfl rfl rfl rfl
  have po : PassesOwn _ (cxOf (L2.CX P w) P w K mg base N_law_well (st "_law_well") (defScope s_law_well) (He.ga K (st "_law_well")) cdv A outer s H E).A _ (cxOf (L2.CX P w) P w K mg base N_law_well (st "_law_well") (defScope s_law_well) (He.ga K (st "_law_well")) cdv A outer s H E).xe := passes_of rfl
  have nd := sc_law_well.nd
  have hu64 := hr.units
  have hu1 := Nat.lt_of_le_of_lt (Nat.add_le_add_left (by decide : 1 ≤ 64) _) hu64
  exact (ss_cons (s_set (i := 2) (fun _ h => ps_set (i := 2) nd rfl (by first | exact Or.inl rfl | exact Or.inr rfl) h) e_int)
  (ss_cons (s_if (t_cmp o_lt (e_var (pv 1)) (e_b (b_len rfl) rfl m_len (by decide +kernel) (a_cons (e_var (pv 0)) a_nil) (by decide) (by decide)) (nomark _)) (ss_one (s_set (i := 2) (fun _ h => ps_set (i := 2) nd rfl (by first | exact Or.inl rfl | exact Or.inr rfl) h) (e_ix rfl hu1 (e_var (pv 0)) (e_var (pv 1)) (fun _ _ => rfl)))) ss_nil)
  (ss_cons (s_set (i := 3) (fun _ h => ps_set (i := 3) nd rfl (by first | exact Or.inl rfl | exact Or.inr rfl) h) (e_lst (a_cons e_int (a_cons e_int (a_cons e_int (a_cons e_int (a_cons e_int (a_cons e_int (a_cons e_int (a_cons e_int a_nil))))))))))
  (ss_cons (s_set (i := 4) (fun _ h => ps_set (i := 4) nd rfl (by first | exact Or.inl rfl | exact Or.inr rfl) h) (e_op o_mod (e_op o_mul (e_op (o_add rfl) (e_op o_mod (e_var (pv 2)) e_int) e_int) (e_op (o_add rfl) e_int (e_op o_mul e_int (e_var (pv 1))))) e_int))
  (ss_cons (s_set (i := 4) (fun _ h => ps_set (i := 4) nd rfl (by first | exact Or.inl rfl | exact Or.inr rfl) h) (e_op (o_add rfl) (e_op (o_add rfl) (e_op o_mod (e_op o_mul (e_var (pv 4)) (e_var (pv 4))) e_int) (e_var (pv 1))) e_int))
  (ss_cons (s_if (t_cmp o_ge (e_var (pv 2)) (e_op o_pow e_int e_int) (nomark _)) (ss_one (s_ret (e_lst (a_cons (e_var (pv 2)) (a_cons (e_var (pv 4)) (a_cons (e_ix rfl hu1 (e_var (pv 3)) (e_op o_mod (e_var (pv 1)) e_int) (fun _ _ => rfl)) a_nil)))))) ss_nil)
  (ss_one (s_ret (e_lst (a_cons e_int (a_cons (e_var (pv 4)) (a_cons (e_ix rfl hu1 (e_var (pv 3)) (e_op o_mod (e_var (pv 1)) e_int) (fun _ _ => rfl)) a_nil))))))))))))
abbrev s_law_take : Stmt := top 34
abbrev N_law_take : List Str := ["well", "many", "got"]
theorem sc_law_take : FnScope N_law_take ["well", "many"] (defScope s_law_take) := ⟨rfl, rfl, rfl, by decide +kernel, rfl, by decide +kernel, by decide +kernel⟩
theorem ok_law_take  (D : ∃ fd, FunD K (st "_law_take") (st "_law_take") (defArgs s_law_take) (defBody s_law_take) (defScope s_law_take) [] [] (He.ga K (st "_law_take")) fd) (at_ : mg (st "_law_take") = some (.ref (He.ga K (st "_law_take")))) :
    FnM (TT K) P w mg base 2 "_law_take" ["well", "many"] F_law_take := by
  rw [F_law_take_eq]
  refine fnM_mk (T := TT K) D at_ sc_law_take rfl rfl (fun _ _ _ _ _ _ us hl => match us, hl with | [_, _], _ => rfl) fun cdv A outer s H E hr => ?_
  have tk := takes_of (X := cxOf (L2.CX P w) P w K mg base N_law_take (st "_law_take") (defScope s_law_take) (He.ga K (st "_law_take")) cdv A outer s H E) rfl rfl rfl rfl
  have po : PassesOwn _ (cxOf (L2.CX P w) P w K mg base N_law_take (st "_law_take") (defScope s_law_take) (He.ga K (st "_law_take")) cdv A outer s H E).A _ (cxOf (L2.CX P w) P w K mg base N_law_take (st "_law_take") (defScope s_law_take) (He.ga K (st "_law_take")) cdv A outer s H E).xe := passes_of rfl
  have nd := sc_law_take.nd
  have hu64 := hr.units
  have hu1 := Nat.lt_of_le_of_lt (Nat.add_le_add_left (by decide : 1 ≤ 64) _) hu64
  exact (ss_cons (s_if (t_cmp o_gt (e_ix rfl hu1 (e_var (pv 0)) e_int (fun _ _ => rfl)) e_int (nomark _)) (ss_cons (s_set (i := 2) (fun _ h => ps_set (i := 2) nd rfl (by first | exact Or.inl rfl | exact Or.inr rfl) h) (e_op o_mod (e_ix rfl hu1 (e_var (pv 0)) e_int (fun _ _ => rfl)) (e_var (pv 1))))
  (ss_cons (s_asg (e_op o_div (e_ix rfl hu1 (e_var (pv 0)) e_int (fun _ _ => rfl)) (e_var (pv 1))) (g_ix hu1 (e_var (pv 0)) e_int))
  (ss_one (s_ret (e_var (pv 2)))))) ss_nil)
  (ss_cons (s_asg (e_op (o_add rfl) (e_op o_mod (e_op o_mul (e_ix rfl hu1 (e_var (pv 0)) e_int (fun _ _ => rfl)) e_int) (e_ix rfl hu1 (e_var (pv 0)) e_int (fun _ _ => rfl))) e_int) (g_ix hu1 (e_var (pv 0)) e_int))
  (ss_one (s_ret (e_op o_mod (e_op o_div (e_op o_mod (e_op o_mul (e_ix rfl hu1 (e_var (pv 0)) e_int (fun _ _ => rfl)) (e_ix rfl hu1 (e_var (pv 0)) e_int (fun _ _ => rfl))) e_int) e_int) (e_var (pv 1)))))))
abbrev s_look_at_size : Stmt := top 21
abbrev N_look_at_size : List Str := ["size"]
theorem sc_look_at_size : FnScope N_look_at_size ["size"] (defScope s_look_at_size) := ⟨rfl, rfl, rfl, by decide +kernel, rfl, by decide +kernel, by decide +kernel⟩
theorem ok_look_at_size (c_LEAST_SIZE : ∃ t, mg (st "LEAST_SIZE") = some (.int 2 t)) (c_MOST_SIZE : ∃ t, mg (st "MOST_SIZE") = some (.int 8 t)) (ex_BadSize : ExF (TT K) mg "BadSize") (D : ∃ fd, FunD K (st "look_at_size") (st "look_at_size") (defArgs s_look_at_size) (defBody s_look_at_size) (defScope s_look_at_size) [] [] (He.ga K (st "look_at_size")) fd) (at_ : mg (st "look_at_size") = some (.ref (He.ga K (st "look_at_size")))) :
    FnM (TT K) P w mg base 2 "look_at_size" ["size"] F_look_at_size := by
  rw [F_look_at_size_eq]
  refine fnM_mk (T := TT K) D at_ sc_look_at_size rfl rfl (fun _ _ _ _ _ _ us hl => match us, hl with | [_], _ => rfl) fun cdv A outer s H E hr => ?_
  have tk := takes_of (X := cxOf (L2.CX P w) P w K mg base N_look_at_size (st "look_at_size") (defScope s_look_at_size) (He.ga K (st "look_at_size")) cdv A outer s H E) rfl rfl rfl rfl
  have po : PassesOwn _ (cxOf (L2.CX P w) P w K mg base N_look_at_size (st "look_at_size") (defScope s_look_at_size) (He.ga K (st "look_at_size")) cdv A outer s H E).A _ (cxOf (L2.CX P w) P w K mg base N_look_at_size (st "look_at_size") (defScope s_look_at_size) (He.ga K (st "look_at_size")) cdv A outer s H E).xe := passes_of rfl
  have nd := sc_look_at_size.nd
  have hu64 := hr.units
  have hu1 := Nat.lt_of_le_of_lt (Nat.add_le_add_left (by decide : 1 ≤ 64) _) hu64
  exact (ss_one (s_if (PW.pt (t_or (t_cmp o_lt (e_var (pv 0)) (e_gint c_LEAST_SIZE rfl (by decide)) (nomark _)) (t_or1 (t_cmp o_gt (e_var (pv 0)) (e_gint c_MOST_SIZE rfl (by decide)) (nomark _))))) (ss_one (s_raise' ex_BadSize rfl rfl tk rfl (by decide))) ss_nil))
abbrev s_Board___init : Stmt := sub (top 31) 0
abbrev N_Board___init : List Str := ["self", "size"]
theorem sc_Board___init : FnScope N_Board___init ["self", "size"] (defScope s_Board___init) := ⟨rfl, rfl, rfl, by decide +kernel, rfl, by decide +kernel, by decide +kernel⟩
theorem ok_Board___init (f_look_at_size : FnM (TT K) P w mg base 2 "look_at_size" ["size"] F_look_at_size) (hcl : ClsF (TT K)) (na_size : NoF (TT K) "size") (na_kept : NoF (TT K) "kept") (na_counted : NoF (TT K) "counted") (na_latest : NoF (TT K) "latest") (cl : "Board" ∈ (TT K).Cl) (D : ∃ fd, FunD K (st "__init__") (st "Board.__init__") (defArgs s_Board___init) (defBody s_Board___init) (defScope s_Board___init) [] [] (He.ma K (clA K "Board") (st "__init__")) fd) (mk : Mk K (clA K "Board") (He.ma K (clA K "Board") (st "__init__"))) (at_ : mg (st "Board") = some (.ref (clA K "Board"))) : MkM (TT K) P w mg base 3 "Board" ["self", "size"] F_Board___init := by
  rw [F_Board___init_eq]
  refine mkM_mk (T := TT K) cl D mk at_ sc_Board___init rfl rfl (fun _ _ _ _ _ _ us hl => match us, hl with | [_, _], _ => rfl) fun cdv A outer s H E hr => ?_
  have tk := takes_of (X := cxOf (L2.CX P w) P w K mg base N_Board___init (st "Board.__init__") (defScope s_Board___init) (He.ma K (clA K "Board") (st "__init__")) cdv A outer s H E) rfl rfl rfl rfl
  have po : PassesOwn _ (cxOf (L2.CX P w) P w K mg base N_Board___init (st "Board.__init__") (defScope s_Board___init) (He.ma K (clA K "Board") (st "__init__")) cdv A outer s H E).A _ (cxOf (L2.CX P w) P w K mg base N_Board___init (st "Board.__init__") (defScope s_Board___init) (He.ma K (clA K "Board") (st "__init__")) cdv A outer s H E).xe := passes_of rfl
  have nd := sc_Board___init.nd
  have hu64 := hr.units
  have hu1 := Nat.lt_of_le_of_lt (Nat.add_le_add_left (by decide : 1 ≤ 64) _) hu64
  exact (ss_cons (s_ex (e_call rfl tk f_look_at_size (by decide) hr rfl (a_cons (e_var (pv 1)) a_nil) (by decide)))
  (ss_cons (s_fld rfl hcl na_size.na na_size.mem (e_var (pv 0)) (e_var (pv 1)))
  (ss_cons (s_fld rfl hcl na_kept.na na_kept.mem (e_var (pv 0)) (e_op (o_add rfl) (e_op o_mul (e_lst (a_cons e_int (a_cons (e_un u_neg e_int) (a_cons e_int (a_cons e_int a_nil))))) (e_var (pv 1))) (e_lst (a_cons (e_un u_neg e_int) (a_cons (e_un u_neg e_int) (a_cons e_int (a_cons e_int a_nil)))))))
  (ss_cons (s_fld rfl hcl na_counted.na na_counted.mem (e_var (pv 0)) e_int)
  (ss_one (s_fld rfl hcl na_latest.na na_latest.mem (e_var (pv 0)) e_non))))))
abbrev s_law_far : Stmt := top 36
abbrev N_law_far : List Str := ["well"]
theorem sc_law_far : FnScope N_law_far ["well"] (defScope s_law_far) := ⟨rfl, rfl, rfl, by decide +kernel, rfl, by decide +kernel, by decide +kernel⟩
theorem ok_law_far (f__law_take : FnM (TT K) P w mg base 2 "_law_take" ["well", "many"] F_law_take) (D : ∃ fd, FunD K (st "_law_far") (st "_law_far") (defArgs s_law_far) (defBody s_law_far) (defScope s_law_far) [] [] (He.ga K (st "_law_far")) fd) (at_ : mg (st "_law_far") = some (.ref (He.ga K (st "_law_far")))) :
    FnM (TT K) P w mg base 3 "_law_far" ["well"] F_law_far := by
  rw [F_law_far_eq]
  refine fnM_mk (T := TT K) D at_ sc_law_far rfl rfl (fun _ _ _ _ _ _ us hl => match us, hl with | [_], _ => rfl) fun cdv A outer s H E hr => ?_
  have tk := takes_of (X := cxOf (L2.CX P w) P w K mg base N_law_far (st "_law_far") (defScope s_law_far) (He.ga K (st "_law_far")) cdv A outer s H E) rfl rfl rfl rfl
  have po : PassesOwn _ (cxOf (L2.CX P w) P w K mg base N_law_far (st "_law_far") (defScope s_law_far) (He.ga K (st "_law_far")) cdv A outer s H E).A _ (cxOf (L2.CX P w) P w K mg base N_law_far (st "_law_far") (defScope s_law_far) (He.ga K (st "_law_far")) cdv A outer s H E).xe := passes_of rfl
  have nd := sc_law_far.nd
  have hu64 := hr.units
  have hu1 := Nat.lt_of_le_of_lt (Nat.add_le_add_left (by decide : 1 ≤ 64) _) hu64
  exact (ss_one (s_ret (e_ix rfl hu1 (e_lst (a_cons (e_op (o_add rfl) e_int (e_call rfl tk f__law_take (by decide) hr rfl (a_cons (e_var (pv 0)) (a_cons e_int a_nil)) (by decide))) (a_cons (e_op (o_add rfl) e_int (e_call rfl tk f__law_take (by decide) hr rfl (a_cons (e_var (pv 0)) (a_cons (e_op o_pow e_int e_int) a_nil)) (by decide))) a_nil))) (e_call rfl tk f__law_take (by decide) hr rfl (a_cons (e_var (pv 0)) (a_cons e_int a_nil)) (by decide)) (fun _ _ => rfl))))
abbrev s_Board_look_at_cell : Stmt := sub (top 31) 1
abbrev N_Board_look_at_cell : List Str := ["self", "cell"]
theorem sc_Board_look_at_cell : FnScope N_Board_look_at_cell ["self", "cell"] (defScope s_Board_look_at_cell) := ⟨rfl, rfl, rfl, by decide +kernel, rfl, by decide +kernel, by decide +kernel⟩
theorem ok_Board_look_at_cell {c : String} (m_len : mg (st "len") = none) (hcl : ClsF (TT K)) (na_kept : NoF (TT K) "kept") (ex_NoCell : ExF (TT K) mg "NoCell") (D : ∃ fd, FunD K (st "look_at_cell") (st "Board.look_at_cell") (defArgs s_Board_look_at_cell) (defBody s_Board_look_at_cell) (defScope s_Board_look_at_cell) [] [] (He.ma K (clA K c) (st "look_at_cell")) fd) (at_ : Meth K (clA K c) (st "look_at_cell") (He.ma K (clA K c) (st "look_at_cell"))) : MtM (TT K) P w mg base 2 c "look_at_cell" ["self", "cell"] F_Board_look_at_cell := by
  rw [F_Board_look_at_cell_eq]
  refine mtM_mk (T := TT K) D at_ sc_Board_look_at_cell rfl rfl (fun _ _ _ _ _ _ us hl => match us, hl with | [_, _], _ => rfl) fun cdv A outer s H E hr => ?_
  have tk := takes_of (X := cxOf (L2.CX P w) P w K mg base N_Board_look_at_cell (st "Board.look_at_cell") (defScope s_Board_look_at_cell) (He.ma K (clA K c) (st "look_at_cell")) cdv A outer s H E) rfl rfl rfl rfl
  have po : PassesOwn _ (cxOf (L2.CX P w) P w K mg base N_Board_look_at_cell (st "Board.look_at_cell") (defScope s_Board_look_at_cell) (He.ma K (clA K c) (st "look_at_cell")) cdv A outer s H E).A _ (cxOf (L2.CX P w) P w K mg base N_Board_look_at_cell (st "Board.look_at_cell") (defScope s_Board_look_at_cell) (He.ma K (clA K c) (st "look_at_cell")) cdv A outer s H E).xe := passes_of rfl
  have nd := sc_Board_look_at_cell.nd
  have hu64 := hr.units
  have hu1 := Nat.lt_of_le_of_lt (Nat.add_le_add_left (by decide : 1 ≤ 64) _) hu64
  exact (ss_one (s_if (PW.pt (t_or (t_cmp o_lt (e_var (pv 1)) e_int (nomark _)) (t_or1 (t_cmp o_ge (e_var (pv 1)) (e_b (b_len rfl) rfl m_len (by decide +kernel) (a_cons (e_fld rfl hcl na_kept.na (e_var (pv 0)) (by rfl)) a_nil) (by decide) (by decide)) (nomark _))))) (ss_one (s_raise' ex_NoCell rfl rfl tk rfl (by decide))) ss_nil))
abbrev s_Board_touched : Stmt := sub (top 31) 2
abbrev N_Board_touched : List Str := ["self", "deed", "cell"]
theorem sc_Board_touched : FnScope N_Board_touched ["self", "deed", "cell"] (defScope s_Board_touched) := ⟨rfl, rfl, rfl, by decide +kernel, rfl, by decide +kernel, by decide +kernel⟩
theorem ok_Board_touched {c : String} (hcl : ClsF (TT K)) (na_counted : NoF (TT K) "counted") (na_kept : NoF (TT K) "kept") (na_latest : NoF (TT K) "latest") (D : ∃ fd, FunD K (st "touched") (st "Board.touched") (defArgs s_Board_touched) (defBody s_Board_touched) (defScope s_Board_touched) [] [] (He.ma K (clA K c) (st "touched")) fd) (at_ : Meth K (clA K c) (st "touched") (He.ma K (clA K c) (st "touched"))) : MtM (TT K) P w mg base 2 c "touched" ["self", "deed", "cell"] F_Board_touched := by
  rw [F_Board_touched_eq]
  refine mtM_mk (T := TT K) D at_ sc_Board_touched rfl rfl (fun _ _ _ _ _ _ us hl => match us, hl with | [_, _, _], _ => rfl) fun cdv A outer s H E hr => ?_
  have tk := takes_of (X := cxOf (L2.CX P w) P w K mg base N_Board_touched (st "Board.touched") (defScope s_Board_touched) (He.ma K (clA K c) (st "touched")) cdv A outer s H E) rfl rfl rfl rfl
  have po : PassesOwn _ (cxOf (L2.CX P w) P w K mg base N_Board_touched (st "Board.touched") (defScope s_Board_touched) (He.ma K (clA K c) (st "touched")) cdv A outer s H E).A _ (cxOf (L2.CX P w) P w K mg base N_Board_touched (st "Board.touched") (defScope s_Board_touched) (He.ma K (clA K c) (st "touched")) cdv A outer s H E).xe := passes_of rfl
  have nd := sc_Board_touched.nd
  have hu64 := hr.units
  have hu1 := Nat.lt_of_le_of_lt (Nat.add_le_add_left (by decide : 1 ≤ 64) _) hu64
  exact (ss_cons (s_fld rfl hcl na_counted.na na_counted.mem (e_var (pv 0)) (e_op (o_add rfl) (e_fld rfl hcl na_counted.na (e_var (pv 0)) (by rfl)) e_int))
  (ss_cons (s_fld rfl hcl na_latest.na na_latest.mem (e_var (pv 0)) (e_tup (a_cons (e_var (pv 1)) (a_cons (e_var (pv 2)) (a_cons (e_ix rfl hu1 (e_fld rfl hcl na_kept.na (e_var (pv 0)) (by rfl)) (e_var (pv 2)) (fun _ _ => rfl)) a_nil)))))
  (ss_one (s_ret (e_ix rfl hu1 (e_fld rfl hcl na_kept.na (e_var (pv 0)) (by rfl)) (e_var (pv 2)) (fun _ _ => rfl))))))
abbrev s_Board_write : Stmt := sub (top 31) 4
abbrev N_Board_write : List Str := ["self", "cell", "number"]
theorem sc_Board_write : FnScope N_Board_write ["self", "cell", "number"] (defScope s_Board_write) := ⟨rfl, rfl, rfl, by decide +kernel, rfl, by decide +kernel, by decide +kernel⟩
theorem ok_Board_write {c : String} (mt_Board_look_at_cell : MtM (TT K) P w mg base 2 "Board" "look_at_cell" ["self", "cell"] F_Board_look_at_cell) (hcl : ClsF (TT K)) (na_kept : NoF (TT K) "kept") (mt_Board_touched : MtM (TT K) P w mg base 2 "Board" "touched" ["self", "deed", "cell"] F_Board_touched) (D : ∃ fd, FunD K (st "write") (st "Board.write") (defArgs s_Board_write) (defBody s_Board_write) (defScope s_Board_write) [] [] (He.ma K (clA K c) (st "write")) fd) (at_ : Meth K (clA K c) (st "write") (He.ma K (clA K c) (st "write"))) : MtM (TT K) P w mg base 3 c "write" ["self", "cell", "number"] F_Board_write := by
  rw [F_Board_write_eq]
  refine mtM_mk (T := TT K) D at_ sc_Board_write rfl rfl (fun _ _ _ _ _ _ us hl => match us, hl with | [_, _, _], _ => rfl) fun cdv A outer s H E hr => ?_
  have tk := takes_of (X := cxOf (L2.CX P w) P w K mg base N_Board_write (st "Board.write") (defScope s_Board_write) (He.ma K (clA K c) (st "write")) cdv A outer s H E) rfl rfl rfl rfl
  have po : PassesOwn _ (cxOf (L2.CX P w) P w K mg base N_Board_write (st "Board.write") (defScope s_Board_write) (He.ma K (clA K c) (st "write")) cdv A outer s H E).A _ (cxOf (L2.CX P w) P w K mg base N_Board_write (st "Board.write") (defScope s_Board_write) (He.ma K (clA K c) (st "write")) cdv A outer s H E).xe := passes_of rfl
  have nd := sc_Board_write.nd
  have hu64 := hr.units
  have hu1 := Nat.lt_of_le_of_lt (Nat.add_le_add_left (by decide : 1 ≤ 64) _) hu64
  exact (ss_cons (s_ex (e_meth rfl tk hcl (MtAll.one mt_Board_look_at_cell (by decide)) (show _ ∉ FLS by decide) hr (e_var (pv 0)) (a_cons (e_var (pv 1)) a_nil)))
  (ss_cons (s_asg (e_var (pv 2)) (g_ix hu1 (e_fld rfl hcl na_kept.na (e_var (pv 0)) (by rfl)) (e_var (pv 1))))
  (ss_one (s_ex (e_meth rfl tk hcl (MtAll.one mt_Board_touched (by decide)) (show _ ∉ FLS by decide) hr (e_var (pv 0)) (a_cons e_str (a_cons (e_var (pv 1)) a_nil)))))))
abbrev s_Board_read : Stmt := sub (top 31) 3
abbrev N_Board_read : List Str := ["self", "cell"]
theorem sc_Board_read : FnScope N_Board_read ["self", "cell"] (defScope s_Board_read) := ⟨rfl, rfl, rfl, by decide +kernel, rfl, by decide +kernel, by decide +kernel⟩
theorem ok_Board_read {c : String} (mt_Board_look_at_cell : MtM (TT K) P w mg base 2 "Board" "look_at_cell" ["self", "cell"] F_Board_look_at_cell) (hcl : ClsF (TT K)) (mt_Board_touched : MtM (TT K) P w mg base 2 "Board" "touched" ["self", "deed", "cell"] F_Board_touched) (D : ∃ fd, FunD K (st "read") (st "Board.read") (defArgs s_Board_read) (defBody s_Board_read) (defScope s_Board_read) [] [] (He.ma K (clA K c) (st "read")) fd) (at_ : Meth K (clA K c) (st "read") (He.ma K (clA K c) (st "read"))) : MtM (TT K) P w mg base 3 c "read" ["self", "cell"] F_Board_read := by
  rw [F_Board_read_eq]
  refine mtM_mk (T := TT K) D at_ sc_Board_read rfl rfl (fun _ _ _ _ _ _ us hl => match us, hl with | [_, _], _ => rfl) fun cdv A outer s H E hr => ?_
  have tk := takes_of (X := cxOf (L2.CX P w) P w K mg base N_Board_read (st "Board.read") (defScope s_Board_read) (He.ma K (clA K c) (st "read")) cdv A outer s H E) rfl rfl rfl rfl
  have po : PassesOwn _ (cxOf (L2.CX P w) P w K mg base N_Board_read (st "Board.read") (defScope s_Board_read) (He.ma K (clA K c) (st "read")) cdv A outer s H E).A _ (cxOf (L2.CX P w) P w K mg base N_Board_read (st "Board.read") (defScope s_Board_read) (He.ma K (clA K c) (st "read")) cdv A outer s H E).xe := passes_of rfl
  have nd := sc_Board_read.nd
  have hu64 := hr.units
  have hu1 := Nat.lt_of_le_of_lt (Nat.add_le_add_left (by decide : 1 ≤ 64) _) hu64
  exact (ss_cons (s_ex (e_meth rfl tk hcl (MtAll.one mt_Board_look_at_cell (by decide)) (show _ ∉ FLS by decide) hr (e_var (pv 0)) (a_cons (e_var (pv 1)) a_nil)))
  (ss_one (s_ret (e_meth rfl tk hcl (MtAll.one mt_Board_touched (by decide)) (show _ ∉ FLS by decide) hr (e_var (pv 0)) (a_cons e_str (a_cons (e_var (pv 1)) a_nil))))))
abbrev s_law_flags_v1 : Stmt := top 37
abbrev N_law_flags_v1 : List Str := ["e", "kinds"]
theorem sc_law_flags_v1 : FnScope N_law_flags_v1 ["e"] (defScope s_law_flags_v1) := ⟨rfl, rfl, rfl, by decide +kernel, rfl, by decide +kernel, by decide +kernel⟩
theorem ok_law_flags_v1 (m_isinstance : mg (st "isinstance") = none) (isf : IsF (TT K) mg IsDs) (m_ValueError : mg (st "ValueError") = none) (D : ∃ fd, FunD K (st "_law_flags") (st "_law_flags") (defArgs s_law_flags_v1) (defBody s_law_flags_v1) (defScope s_law_flags_v1) [] [] (He.ga K (st "_law_flags")) fd) (at_ : mg (st "_law_flags") = some (.ref (He.ga K (st "_law_flags")))) :
    FnE (TT K) P w mg base 2 "_law_flags" ["e"] F_law_flags_v1 := by
  rw [F_law_flags_v1_eq]
  refine fnE_mk (T := TT K) D at_ sc_law_flags_v1 rfl rfl (fun _ _ _ _ _ _ us hl => match us, hl with | [_], _ => rfl) fun c p hc hz hv cdv A fr s H E hr => ?_
  have nd := sc_law_flags_v1.nd
  have hu64 := roomH_u hr
  have hu1 := Nat.lt_of_le_of_lt (Nat.add_le_add_left (by decide : 1 ≤ 64) _) hu64
  exact (ss_cons (s_set (i := 1) (fun _ h => ps_set (i := 1) nd rfl (by first | exact Or.inl rfl | exact Or.inr rfl) h) (e_lst (a_cons (e_isPE (a := p.1) (oe := p.2) (d := "NoCell") rfl isf (List.mem_cons_self ..) hc (by decide) hz hv rfl m_isinstance (pv 0) rfl (by decide)) (a_cons (e_isPE (a := p.1) (oe := p.2) (d := "BadSize") rfl isf (List.mem_cons_self ..) hc (by decide) hz hv rfl m_isinstance (pv 0) rfl (by decide)) (a_cons (e_isPE (a := p.1) (oe := p.2) (d := "NoHand") rfl isf (List.mem_cons_self ..) hc (by decide) hz hv rfl m_isinstance (pv 0) rfl (by decide)) (a_cons (e_isPV (a := p.1) (oe := p.2) rfl isf (List.mem_cons_self ..) hc hz hv rfl m_isinstance (pv 0) rfl m_ValueError) a_nil))))))
  (ss_cons (s_ex (e_bm rfl PySem.F.plainAttrs_list PySem.F.slot_list_append PySem.F.type_list_append m_append (e_var (pv 1)) (a_cons (e_isPT (a := p.1) (oe := p.2) (es := ["BadCells", "BadMark", "BadOrder", "Crooked", "NoRow", "NoText"]) rfl isf (List.mem_cons_self ..) hc (by decide) (by decide) hz hv rfl m_isinstance (pv 0) (pa_cons (pe_glob (v := .ref _) rfl (isf.at_ "BadCells" (by decide)) rfl) (pa_cons (pe_glob (v := .ref _) rfl (isf.at_ "BadMark" (by decide)) rfl) (pa_cons (pe_glob (v := .ref _) rfl (isf.at_ "BadOrder" (by decide)) rfl) (pa_cons (pe_glob (v := .ref _) rfl (isf.at_ "Crooked" (by decide)) rfl) (pa_cons (pe_glob (v := .ref _) rfl (isf.at_ "NoRow" (by decide)) rfl) (pa_cons (pe_glob (v := .ref _) rfl (isf.at_ "NoText" (by decide)) rfl) pa_nil)))))) (fun _ _ _ h => h)) a_nil)))
  (ss_one (s_ret (e_op (o_add rfl) (e_var (pv 1)) (e_lst (a_cons (e_isPT (a := p.1) (oe := p.2) (es := ["BadStand", "NoName", "NotSound", "NoTurn", "NoWaiting", "TooMany"]) rfl isf (List.mem_cons_self ..) hc (by decide) (by decide) hz hv rfl m_isinstance (pv 0) (pa_cons (pe_glob (v := .ref _) rfl (isf.at_ "BadStand" (by decide)) rfl) (pa_cons (pe_glob (v := .ref _) rfl (isf.at_ "NoName" (by decide)) rfl) (pa_cons (pe_glob (v := .ref _) rfl (isf.at_ "NotSound" (by decide)) rfl) (pa_cons (pe_glob (v := .ref _) rfl (isf.at_ "NoTurn" (by decide)) rfl) (pa_cons (pe_glob (v := .ref _) rfl (isf.at_ "NoWaiting" (by decide)) rfl) (pa_cons (pe_glob (v := .ref _) rfl (isf.at_ "TooMany" (by decide)) rfl) pa_nil)))))) (fun _ _ _ h => h)) a_nil)))))))
abbrev s_law_touched : Stmt := top 38
abbrev N_law_touched : List Str := ["board", "writes", "cell", "number", "kinds", "told", "e"]
theorem sc_law_touched : FnScope N_law_touched ["board", "writes", "cell", "number"] (defScope s_law_touched) := ⟨rfl, rfl, rfl, by decide +kernel, rfl, by decide +kernel, by decide +kernel⟩
theorem ok_law_touched (tr_RingError : TrF (TT K) mg "RingError") (mt_Board_write : MtM (TT K) P w mg base 3 "Board" "write" ["self", "cell", "number"] F_Board_write) (hcl : ClsF (TT K)) (mt_Board_read : MtM (TT K) P w mg base 3 "Board" "read" ["self", "cell"] F_Board_read) (fe__law_flags : FnE (TT K) P w mg base 2 "_law_flags" ["e"] F_law_flags_v1) (D : ∃ fd, FunD K (st "_law_touched") (st "_law_touched") (defArgs s_law_touched) (defBody s_law_touched) (defScope s_law_touched) [] [] (He.ga K (st "_law_touched")) fd) (at_ : mg (st "_law_touched") = some (.ref (He.ga K (st "_law_touched")))) :
    FnM (TT K) P w mg base 4 "_law_touched" ["board", "writes", "cell", "number"] F_law_touched := by
  rw [F_law_touched_eq]
  refine fnM_mk (T := TT K) D at_ sc_law_touched rfl rfl (fun _ _ _ _ _ _ us hl => match us, hl with | [_, _, _, _], _ => rfl) fun cdv A outer s H E hr => ?_
  have tk := takes_of (X := cxOf (L2.CX P w) P w K mg base N_law_touched (st "_law_touched") (defScope s_law_touched) (He.ga K (st "_law_touched")) cdv A outer s H E) rfl rfl rfl rfl
  have po : PassesOwn _ (cxOf (L2.CX P w) P w K mg base N_law_touched (st "_law_touched") (defScope s_law_touched) (He.ga K (st "_law_touched")) cdv A outer s H E).A _ (cxOf (L2.CX P w) P w K mg base N_law_touched (st "_law_touched") (defScope s_law_touched) (He.ga K (st "_law_touched")) cdv A outer s H E).xe := passes_of rfl
  have nd := sc_law_touched.nd
  have hu64 := hr.units
  have hu1 := Nat.lt_of_le_of_lt (Nat.add_le_add_left (by decide : 1 ≤ 64) _) hu64
  exact (ss_cons (s_set (i := 4) (fun _ h => ps_set (i := 4) nd rfl (by first | exact Or.inl rfl | exact Or.inr rfl) h) (e_lst a_nil))
  (ss_cons (s_set (i := 5) (fun _ h => ps_set (i := 5) nd rfl (by first | exact Or.inl rfl | exact Or.inr rfl) h) e_non)
  (ss_cons (s_try_as (i := 6) rfl rfl nd rfl rfl rfl (TrF.names tr_RingError rfl (by decide)) tk tr_RingError.ex
  (fun _ _ _ tk' po' => (ss_one (s_if (t_tru rfl (e_var (pv 1)) (by intro _; rfl)) (ss_one (s_set (i := 5) (fun _ h => ps_set (i := 5) nd rfl (by first | exact Or.inl rfl | exact Or.inr rfl) h) (e_meth rfl tk' hcl (MtAll.one mt_Board_write (by decide)) (show _ ∉ FLS by decide) hr (e_var (pv 0)) (a_cons (e_var (pv 2)) (a_cons (e_var (pv 3)) a_nil))))) (ss_one (s_set (i := 5) (fun _ h => ps_set (i := 5) nd rfl (by first | exact Or.inl rfl | exact Or.inr rfl) h) (e_meth rfl tk' hcl (MtAll.one mt_Board_read (by decide)) (show _ ∉ FLS by decide) hr (e_var (pv 0)) (a_cons (e_var (pv 2)) a_nil)))))))
  (fun c hc hsub a oe pn hz hv => (ss_one (s_set (i := 4) (fun _ h => ps_set (i := 4) nd rfl (by first | exact Or.inl rfl | exact Or.inr rfl) h) (e_callX rfl takes0 (List.mem_cons_self ..) hc hz hv fe__law_flags (by decide) (roomS hr) rfl (a_cons (e_var (pv 6)) a_nil) (by decide))))))
  (ss_one (s_ret (e_tup (a_cons (e_var (pv 4)) (a_cons (e_var (pv 5)) a_nil))))))))
abbrev s_Board_all_cells : Stmt := sub (top 31) 6
abbrev N_Board_all_cells : List Str := ["self"]
theorem sc_Board_all_cells : FnScope N_Board_all_cells ["self"] (defScope s_Board_all_cells) := ⟨rfl, rfl, rfl, by decide +kernel, rfl, by decide +kernel, by decide +kernel⟩
theorem ok_Board_all_cells {c : String} (m_list : mg (st "list") = none) (hcl : ClsF (TT K)) (na_kept : NoF (TT K) "kept") (D : ∃ fd, FunD K (st "all_cells") (st "Board.all_cells") (defArgs s_Board_all_cells) (defBody s_Board_all_cells) (defScope s_Board_all_cells) [] [] (He.ma K (clA K c) (st "all_cells")) fd) (at_ : Meth K (clA K c) (st "all_cells") (He.ma K (clA K c) (st "all_cells"))) : MtM (TT K) P w mg base 2 c "all_cells" ["self"] F_Board_all_cells := by
  rw [F_Board_all_cells_eq]
  refine mtM_mk (T := TT K) D at_ sc_Board_all_cells rfl rfl (fun _ _ _ _ _ _ us hl => match us, hl with | [_], _ => rfl) fun cdv A outer s H E hr => ?_
  have tk := takes_of (X := cxOf (L2.CX P w) P w K mg base N_Board_all_cells (st "Board.all_cells") (defScope s_Board_all_cells) (He.ma K (clA K c) (st "all_cells")) cdv A outer s H E) rfl rfl rfl rfl
  have po : PassesOwn _ (cxOf (L2.CX P w) P w K mg base N_Board_all_cells (st "Board.all_cells") (defScope s_Board_all_cells) (He.ma K (clA K c) (st "all_cells")) cdv A outer s H E).A _ (cxOf (L2.CX P w) P w K mg base N_Board_all_cells (st "Board.all_cells") (defScope s_Board_all_cells) (He.ma K (clA K c) (st "all_cells")) cdv A outer s H E).xe := passes_of rfl
  have nd := sc_Board_all_cells.nd
  have hu64 := hr.units
  have hu1 := Nat.lt_of_le_of_lt (Nat.add_le_add_left (by decide : 1 ≤ 64) _) hu64
  exact (ss_one (s_ret (e_bt (b_list rfl) rfl m_list (by decide +kernel) (a_cons (e_fld rfl hcl na_kept.na (e_var (pv 0)) (by rfl)) a_nil) (by decide) (by decide))))
abbrev s_Board_touches : Stmt := sub (top 31) 7
abbrev N_Board_touches : List Str := ["self"]
theorem sc_Board_touches : FnScope N_Board_touches ["self"] (defScope s_Board_touches) := ⟨rfl, rfl, rfl, by decide +kernel, rfl, by decide +kernel, by decide +kernel⟩
theorem ok_Board_touches {c : String} (hcl : ClsF (TT K)) (na_counted : NoF (TT K) "counted") (D : ∃ fd, FunD K (st "touches") (st "Board.touches") (defArgs s_Board_touches) (defBody s_Board_touches) (defScope s_Board_touches) [] [] (He.ma K (clA K c) (st "touches")) fd) (at_ : Meth K (clA K c) (st "touches") (He.ma K (clA K c) (st "touches"))) : MtM (TT K) P w mg base 2 c "touches" ["self"] F_Board_touches := by
  rw [F_Board_touches_eq]
  refine mtM_mk (T := TT K) D at_ sc_Board_touches rfl rfl (fun _ _ _ _ _ _ us hl => match us, hl with | [_], _ => rfl) fun cdv A outer s H E hr => ?_
  have tk := takes_of (X := cxOf (L2.CX P w) P w K mg base N_Board_touches (st "Board.touches") (defScope s_Board_touches) (He.ma K (clA K c) (st "touches")) cdv A outer s H E) rfl rfl rfl rfl
  have po : PassesOwn _ (cxOf (L2.CX P w) P w K mg base N_Board_touches (st "Board.touches") (defScope s_Board_touches) (He.ma K (clA K c) (st "touches")) cdv A outer s H E).A _ (cxOf (L2.CX P w) P w K mg base N_Board_touches (st "Board.touches") (defScope s_Board_touches) (He.ma K (clA K c) (st "touches")) cdv A outer s H E).xe := passes_of rfl
  have nd := sc_Board_touches.nd
  have hu64 := hr.units
  have hu1 := Nat.lt_of_le_of_lt (Nat.add_le_add_left (by decide : 1 ≤ 64) _) hu64
  exact (ss_one (s_ret (e_fld rfl hcl na_counted.na (e_var (pv 0)) (by rfl))))
abbrev s_Board_last_touch : Stmt := sub (top 31) 8
abbrev N_Board_last_touch : List Str := ["self"]
theorem sc_Board_last_touch : FnScope N_Board_last_touch ["self"] (defScope s_Board_last_touch) := ⟨rfl, rfl, rfl, by decide +kernel, rfl, by decide +kernel, by decide +kernel⟩
theorem ok_Board_last_touch {c : String} (hcl : ClsF (TT K)) (na_latest : NoF (TT K) "latest") (D : ∃ fd, FunD K (st "last_touch") (st "Board.last_touch") (defArgs s_Board_last_touch) (defBody s_Board_last_touch) (defScope s_Board_last_touch) [] [] (He.ma K (clA K c) (st "last_touch")) fd) (at_ : Meth K (clA K c) (st "last_touch") (He.ma K (clA K c) (st "last_touch"))) : MtM (TT K) P w mg base 2 c "last_touch" ["self"] F_Board_last_touch := by
  rw [F_Board_last_touch_eq]
  refine mtM_mk (T := TT K) D at_ sc_Board_last_touch rfl rfl (fun _ _ _ _ _ _ us hl => match us, hl with | [_], _ => rfl) fun cdv A outer s H E hr => ?_
  have tk := takes_of (X := cxOf (L2.CX P w) P w K mg base N_Board_last_touch (st "Board.last_touch") (defScope s_Board_last_touch) (He.ma K (clA K c) (st "last_touch")) cdv A outer s H E) rfl rfl rfl rfl
  have po : PassesOwn _ (cxOf (L2.CX P w) P w K mg base N_Board_last_touch (st "Board.last_touch") (defScope s_Board_last_touch) (He.ma K (clA K c) (st "last_touch")) cdv A outer s H E).A _ (cxOf (L2.CX P w) P w K mg base N_Board_last_touch (st "Board.last_touch") (defScope s_Board_last_touch) (He.ma K (clA K c) (st "last_touch")) cdv A outer s H E).xe := passes_of rfl
  have nd := sc_Board_last_touch.nd
  have hu64 := hr.units
  have hu1 := Nat.lt_of_le_of_lt (Nat.add_le_add_left (by decide : 1 ≤ 64) _) hu64
  exact (ss_one (s_ret (e_fld rfl hcl na_latest.na (e_var (pv 0)) (by rfl))))
abbrev s_law_right_v2 : Stmt := top 41
abbrev N_law_right_v2 : List Str := ["board", "size", "row", "many", "last", "told"]
theorem sc_law_right_v2 : FnScope N_law_right_v2 ["board", "size", "row", "many", "last"] (defScope s_law_right_v2) := ⟨rfl, rfl, rfl, by decide +kernel, rfl, by decide +kernel, by decide +kernel⟩
theorem ok_law_right_v2 (mt_Board_all_cells : MtM (TT K) P w mg base 2 "Board" "all_cells" ["self"] F_Board_all_cells) (hcl : ClsF (TT K)) (na_size : NoF (TT K) "size") (m_isinstance : mg (st "isinstance") = none) (m_list : mg (st "list") = none) (mt_Board_touches : MtM (TT K) P w mg base 2 "Board" "touches" ["self"] F_Board_touches) (mt_Board_last_touch : MtM (TT K) P w mg base 2 "Board" "last_touch" ["self"] F_Board_last_touch) (D : ∃ fd, FunD K (st "_law_right") (st "_law_right") (defArgs s_law_right_v2) (defBody s_law_right_v2) (defScope s_law_right_v2) [] [] (He.ga K (st "_law_right")) fd) (at_ : mg (st "_law_right") = some (.ref (He.ga K (st "_law_right")))) :
    FnM (TT K) P w mg base 3 "_law_right" ["board", "size", "row", "many", "last"] F_law_right_v2 := by
  rw [F_law_right_v2_eq]
  refine fnM_mk (T := TT K) D at_ sc_law_right_v2 rfl rfl (fun _ _ _ _ _ _ us hl => match us, hl with | [_, _, _, _, _], _ => rfl) fun cdv A outer s H E hr => ?_
  have tk := takes_of (X := cxOf (L2.CX P w) P w K mg base N_law_right_v2 (st "_law_right") (defScope s_law_right_v2) (He.ga K (st "_law_right")) cdv A outer s H E) rfl rfl rfl rfl
  have po : PassesOwn _ (cxOf (L2.CX P w) P w K mg base N_law_right_v2 (st "_law_right") (defScope s_law_right_v2) (He.ga K (st "_law_right")) cdv A outer s H E).A _ (cxOf (L2.CX P w) P w K mg base N_law_right_v2 (st "_law_right") (defScope s_law_right_v2) (He.ga K (st "_law_right")) cdv A outer s H E).xe := passes_of rfl
  have nd := sc_law_right_v2.nd
  have hu64 := hr.units
  have hu1 := Nat.lt_of_le_of_lt (Nat.add_le_add_left (by decide : 1 ≤ 64) _) hu64
  exact (ss_cons (s_set (i := 5) (fun _ h => ps_set (i := 5) nd rfl (by first | exact Or.inl rfl | exact Or.inr rfl) h) (e_meth0 rfl tk hcl (MtAll.one mt_Board_all_cells (by decide)) (show _ ∉ FLS by decide) hr (e_var (pv 0))))
  (ss_cons (s_if (PW.pt (t_or (t_cmp (o_ne rfl hu64) (e_fld rfl hcl na_size.na (e_var (pv 0)) (by rfl)) (e_var (pv 1)) (nomark _)) (t_or (t_not (t_tru rfl (e_isi (ty := "list") rfl rfl m_isinstance rfl m_list (by decide +kernel) (by decide) (by decide) (kit_list K) (e_var (pv 5))) (by intro _; rfl))) (t_or1 (t_cmp (o_ne rfl hu64) (e_var (pv 5)) (e_var (pv 2)) (nomark _)))))) (ss_one (s_ret e_bl)) ss_nil)
  (ss_cons (s_ex (e_bm0 rfl PySem.F.plainAttrs_list PySem.F.slot_list_clear PySem.F.type_list_clear m_clear (e_var (pv 5))))
  (ss_one (s_ret (e_and (e_cmp (o_eq rfl hu64) (e_meth0 rfl tk hcl (MtAll.one mt_Board_all_cells (by decide)) (show _ ∉ FLS by decide) hr (e_var (pv 0))) (e_var (pv 2)) (nomark _)) (e_and (e_cmp (o_eq rfl hu64) (e_meth0 rfl tk hcl (MtAll.one mt_Board_touches (by decide)) (show _ ∉ FLS by decide) hr (e_var (pv 0))) (e_var (pv 3)) (nomark _)) (e_one (e_cmp (o_eq rfl hu64) (e_meth0 rfl tk hcl (MtAll.one mt_Board_last_touch (by decide)) (show _ ∉ FLS by decide) hr (e_var (pv 0))) (e_var (pv 4)) (nomark _))))))))))
abbrev s_thing_cell : Stmt := top 27
abbrev N_thing_cell : List Str := ["place"]
theorem sc_thing_cell : FnScope N_thing_cell ["place"] (defScope s_thing_cell) := ⟨rfl, rfl, rfl, by decide +kernel, rfl, by decide +kernel, by decide +kernel⟩
theorem ok_thing_cell  (D : ∃ fd, FunD K (st "thing_cell") (st "thing_cell") (defArgs s_thing_cell) (defBody s_thing_cell) (defScope s_thing_cell) [] [] (He.ga K (st "thing_cell")) fd) (at_ : mg (st "thing_cell") = some (.ref (He.ga K (st "thing_cell")))) :
    FnM (TT K) P w mg base 2 "thing_cell" ["place"] F_thing_cell := by
  rw [F_thing_cell_eq]
  refine fnM_mk (T := TT K) D at_ sc_thing_cell rfl rfl (fun _ _ _ _ _ _ us hl => match us, hl with | [_], _ => rfl) fun cdv A outer s H E hr => ?_
  have tk := takes_of (X := cxOf (L2.CX P w) P w K mg base N_thing_cell (st "thing_cell") (defScope s_thing_cell) (He.ga K (st "thing_cell")) cdv A outer s H E) rfl rfl rfl rfl
  have po : PassesOwn _ (cxOf (L2.CX P w) P w K mg base N_thing_cell (st "thing_cell") (defScope s_thing_cell) (He.ga K (st "thing_cell")) cdv A outer s H E).A _ (cxOf (L2.CX P w) P w K mg base N_thing_cell (st "thing_cell") (defScope s_thing_cell) (He.ga K (st "thing_cell")) cdv A outer s H E).xe := passes_of rfl
  have nd := sc_thing_cell.nd
  have hu64 := hr.units
  have hu1 := Nat.lt_of_le_of_lt (Nat.add_le_add_left (by decide : 1 ≤ 64) _) hu64
  exact (ss_one (s_ret (e_op (o_add rfl) (e_op o_mul e_int (e_var (pv 0))) e_int)))
abbrev s_left_cell : Stmt := top 26
abbrev N_left_cell : List Str := ["place"]
theorem sc_left_cell : FnScope N_left_cell ["place"] (defScope s_left_cell) := ⟨rfl, rfl, rfl, by decide +kernel, rfl, by decide +kernel, by decide +kernel⟩
theorem ok_left_cell  (D : ∃ fd, FunD K (st "left_cell") (st "left_cell") (defArgs s_left_cell) (defBody s_left_cell) (defScope s_left_cell) [] [] (He.ga K (st "left_cell")) fd) (at_ : mg (st "left_cell") = some (.ref (He.ga K (st "left_cell")))) :
    FnM (TT K) P w mg base 2 "left_cell" ["place"] F_left_cell := by
  rw [F_left_cell_eq]
  refine fnM_mk (T := TT K) D at_ sc_left_cell rfl rfl (fun _ _ _ _ _ _ us hl => match us, hl with | [_], _ => rfl) fun cdv A outer s H E hr => ?_
  have tk := takes_of (X := cxOf (L2.CX P w) P w K mg base N_left_cell (st "left_cell") (defScope s_left_cell) (He.ga K (st "left_cell")) cdv A outer s H E) rfl rfl rfl rfl
  have po : PassesOwn _ (cxOf (L2.CX P w) P w K mg base N_left_cell (st "left_cell") (defScope s_left_cell) (He.ga K (st "left_cell")) cdv A outer s H E).A _ (cxOf (L2.CX P w) P w K mg base N_left_cell (st "left_cell") (defScope s_left_cell) (He.ga K (st "left_cell")) cdv A outer s H E).xe := passes_of rfl
  have nd := sc_left_cell.nd
  have hu64 := hr.units
  have hu1 := Nat.lt_of_le_of_lt (Nat.add_le_add_left (by decide : 1 ≤ 64) _) hu64
  exact (ss_one (s_ret (e_op (o_add rfl) (e_op o_mul e_int (e_var (pv 0))) e_int)))
abbrev s_number_cell : Stmt := top 25
abbrev N_number_cell : List Str := ["place"]
theorem sc_number_cell : FnScope N_number_cell ["place"] (defScope s_number_cell) := ⟨rfl, rfl, rfl, by decide +kernel, rfl, by decide +kernel, by decide +kernel⟩
theorem ok_number_cell  (D : ∃ fd, FunD K (st "number_cell") (st "number_cell") (defArgs s_number_cell) (defBody s_number_cell) (defScope s_number_cell) [] [] (He.ga K (st "number_cell")) fd) (at_ : mg (st "number_cell") = some (.ref (He.ga K (st "number_cell")))) :
    FnM (TT K) P w mg base 2 "number_cell" ["place"] F_number_cell := by
  rw [F_number_cell_eq]
  refine fnM_mk (T := TT K) D at_ sc_number_cell rfl rfl (fun _ _ _ _ _ _ us hl => match us, hl with | [_], _ => rfl) fun cdv A outer s H E hr => ?_
  have tk := takes_of (X := cxOf (L2.CX P w) P w K mg base N_number_cell (st "number_cell") (defScope s_number_cell) (He.ga K (st "number_cell")) cdv A outer s H E) rfl rfl rfl rfl
  have po : PassesOwn _ (cxOf (L2.CX P w) P w K mg base N_number_cell (st "number_cell") (defScope s_number_cell) (He.ga K (st "number_cell")) cdv A outer s H E).A _ (cxOf (L2.CX P w) P w K mg base N_number_cell (st "number_cell") (defScope s_number_cell) (He.ga K (st "number_cell")) cdv A outer s H E).xe := passes_of rfl
  have nd := sc_number_cell.nd
  have hu64 := hr.units
  have hu1 := Nat.lt_of_le_of_lt (Nat.add_le_add_left (by decide : 1 ≤ 64) _) hu64
  exact (ss_one (s_ret (e_op (o_add rfl) (e_op o_mul e_int (e_var (pv 0))) e_int)))
abbrev s_mark_cell : Stmt := top 24
abbrev N_mark_cell : List Str := ["place"]
theorem sc_mark_cell : FnScope N_mark_cell ["place"] (defScope s_mark_cell) := ⟨rfl, rfl, rfl, by decide +kernel, rfl, by decide +kernel, by decide +kernel⟩
theorem ok_mark_cell  (D : ∃ fd, FunD K (st "mark_cell") (st "mark_cell") (defArgs s_mark_cell) (defBody s_mark_cell) (defScope s_mark_cell) [] [] (He.ga K (st "mark_cell")) fd) (at_ : mg (st "mark_cell") = some (.ref (He.ga K (st "mark_cell")))) :
    FnM (TT K) P w mg base 2 "mark_cell" ["place"] F_mark_cell := by
  rw [F_mark_cell_eq]
  refine fnM_mk (T := TT K) D at_ sc_mark_cell rfl rfl (fun _ _ _ _ _ _ us hl => match us, hl with | [_], _ => rfl) fun cdv A outer s H E hr => ?_
  have tk := takes_of (X := cxOf (L2.CX P w) P w K mg base N_mark_cell (st "mark_cell") (defScope s_mark_cell) (He.ga K (st "mark_cell")) cdv A outer s H E) rfl rfl rfl rfl
  have po : PassesOwn _ (cxOf (L2.CX P w) P w K mg base N_mark_cell (st "mark_cell") (defScope s_mark_cell) (He.ga K (st "mark_cell")) cdv A outer s H E).A _ (cxOf (L2.CX P w) P w K mg base N_mark_cell (st "mark_cell") (defScope s_mark_cell) (He.ga K (st "mark_cell")) cdv A outer s H E).xe := passes_of rfl
  have nd := sc_mark_cell.nd
  have hu64 := hr.units
  have hu1 := Nat.lt_of_le_of_lt (Nat.add_le_add_left (by decide : 1 ≤ 64) _) hu64
  exact (ss_one (s_ret (e_op o_mul e_int (e_var (pv 0)))))
abbrev s_law_whole : Stmt := top 35
abbrev N_law_whole : List Str := ["found"]
theorem sc_law_whole : FnScope N_law_whole ["found"] (defScope s_law_whole) := ⟨rfl, rfl, rfl, by decide +kernel, rfl, by decide +kernel, by decide +kernel⟩
theorem ok_law_whole (m_isinstance : mg (st "isinstance") = none) (m_int : mg (st "int") = none) (m_bool : mg (st "bool") = none) (D : ∃ fd, FunD K (st "_law_whole") (st "_law_whole") (defArgs s_law_whole) (defBody s_law_whole) (defScope s_law_whole) [] [] (He.ga K (st "_law_whole")) fd) (at_ : mg (st "_law_whole") = some (.ref (He.ga K (st "_law_whole")))) :
    FnM (TT K) P w mg base 2 "_law_whole" ["found"] F_law_whole := by
  rw [F_law_whole_eq]
  refine fnM_mk (T := TT K) D at_ sc_law_whole rfl rfl (fun _ _ _ _ _ _ us hl => match us, hl with | [_], _ => rfl) fun cdv A outer s H E hr => ?_
  have tk := takes_of (X := cxOf (L2.CX P w) P w K mg base N_law_whole (st "_law_whole") (defScope s_law_whole) (He.ga K (st "_law_whole")) cdv A outer s H E) rfl rfl rfl rfl
  have po : PassesOwn _ (cxOf (L2.CX P w) P w K mg base N_law_whole (st "_law_whole") (defScope s_law_whole) (He.ga K (st "_law_whole")) cdv A outer s H E).A _ (cxOf (L2.CX P w) P w K mg base N_law_whole (st "_law_whole") (defScope s_law_whole) (He.ga K (st "_law_whole")) cdv A outer s H E).xe := passes_of rfl
  have nd := sc_law_whole.nd
  have hu64 := hr.units
  have hu1 := Nat.lt_of_le_of_lt (Nat.add_le_add_left (by decide : 1 ≤ 64) _) hu64
  exact (ss_one (s_ret (e_and (e_isi (ty := "int") rfl rfl m_isinstance rfl m_int (by decide +kernel) (by decide) (by decide) (kit_int K) (e_var (pv 0))) (e_one (e_not rfl (e_isi (ty := "bool") rfl rfl m_isinstance rfl m_bool (by decide +kernel) (by decide) (by decide) (kit_bool K) (e_var (pv 0))))))))
abbrev s_look_at_hand : Stmt := top 28
abbrev N_look_at_hand : List Str := ["hand"]
theorem sc_look_at_hand : FnScope N_look_at_hand ["hand"] (defScope s_look_at_hand) := ⟨rfl, rfl, rfl, by decide +kernel, rfl, by decide +kernel, by decide +kernel⟩
theorem ok_look_at_hand (c_HANDS : TupF (TT K) mg "HANDS" ["giver", "taker"]) (ex_NoHand : ExF (TT K) mg "NoHand") (D : ∃ fd, FunD K (st "look_at_hand") (st "look_at_hand") (defArgs s_look_at_hand) (defBody s_look_at_hand) (defScope s_look_at_hand) [] [] (He.ga K (st "look_at_hand")) fd) (at_ : mg (st "look_at_hand") = some (.ref (He.ga K (st "look_at_hand")))) :
    FnM (TT K) P w mg base 2 "look_at_hand" ["hand"] F_look_at_hand := by
  rw [F_look_at_hand_eq]
  refine fnM_mk (T := TT K) D at_ sc_look_at_hand rfl rfl (fun _ _ _ _ _ _ us hl => match us, hl with | [_], _ => rfl) fun cdv A outer s H E hr => ?_
  have tk := takes_of (X := cxOf (L2.CX P w) P w K mg base N_look_at_hand (st "look_at_hand") (defScope s_look_at_hand) (He.ga K (st "look_at_hand")) cdv A outer s H E) rfl rfl rfl rfl
  have po : PassesOwn _ (cxOf (L2.CX P w) P w K mg base N_look_at_hand (st "look_at_hand") (defScope s_look_at_hand) (He.ga K (st "look_at_hand")) cdv A outer s H E).A _ (cxOf (L2.CX P w) P w K mg base N_look_at_hand (st "look_at_hand") (defScope s_look_at_hand) (He.ga K (st "look_at_hand")) cdv A outer s H E).xe := passes_of rfl
  have nd := sc_look_at_hand.nd
  have hu64 := hr.units
  have hu1 := Nat.lt_of_le_of_lt (Nat.add_le_add_left (by decide : 1 ≤ 64) _) hu64
  exact (ss_one (s_if (t_cmp (o_notin rfl hu1) (e_var (pv 0)) (e_gstrs (ss := ["giver", "taker"]) c_HANDS rfl (by decide)) (by rfl)) (ss_one (s_raise' ex_NoHand rfl rfl tk rfl (by decide))) ss_nil))
abbrev s_bell_cell : Stmt := top 30
abbrev N_bell_cell : List Str := ["size", "hand"]
theorem sc_bell_cell : FnScope N_bell_cell ["size", "hand"] (defScope s_bell_cell) := ⟨rfl, rfl, rfl, by decide +kernel, rfl, by decide +kernel, by decide +kernel⟩
theorem ok_bell_cell (f_look_at_size : FnM (TT K) P w mg base 2 "look_at_size" ["size"] F_look_at_size) (f_look_at_hand : FnM (TT K) P w mg base 2 "look_at_hand" ["hand"] F_look_at_hand) (c_HANDS : TupF (TT K) mg "HANDS" ["giver", "taker"]) (D : ∃ fd, FunD K (st "bell_cell") (st "bell_cell") (defArgs s_bell_cell) (defBody s_bell_cell) (defScope s_bell_cell) [] [] (He.ga K (st "bell_cell")) fd) (at_ : mg (st "bell_cell") = some (.ref (He.ga K (st "bell_cell")))) :
    FnM (TT K) P w mg base 3 "bell_cell" ["size", "hand"] F_bell_cell := by
  rw [F_bell_cell_eq]
  refine fnM_mk (T := TT K) D at_ sc_bell_cell rfl rfl (fun _ _ _ _ _ _ us hl => match us, hl with | [_, _], _ => rfl) fun cdv A outer s H E hr => ?_
  have tk := takes_of (X := cxOf (L2.CX P w) P w K mg base N_bell_cell (st "bell_cell") (defScope s_bell_cell) (He.ga K (st "bell_cell")) cdv A outer s H E) rfl rfl rfl rfl
  have po : PassesOwn _ (cxOf (L2.CX P w) P w K mg base N_bell_cell (st "bell_cell") (defScope s_bell_cell) (He.ga K (st "bell_cell")) cdv A outer s H E).A _ (cxOf (L2.CX P w) P w K mg base N_bell_cell (st "bell_cell") (defScope s_bell_cell) (He.ga K (st "bell_cell")) cdv A outer s H E).xe := passes_of rfl
  have nd := sc_bell_cell.nd
  have hu64 := hr.units
  have hu1 := Nat.lt_of_le_of_lt (Nat.add_le_add_left (by decide : 1 ≤ 64) _) hu64
  exact (ss_cons (s_ex (e_call rfl tk f_look_at_size (by decide) hr rfl (a_cons (e_var (pv 0)) a_nil) (by decide)))
  (ss_cons (s_ex (e_call rfl tk f_look_at_hand (by decide) hr rfl (a_cons (e_var (pv 1)) a_nil) (by decide)))
  (ss_one (s_ret (e_op (o_add rfl) (e_op (o_add rfl) (e_op o_mul e_int (e_var (pv 0))) e_int) (e_gidx rfl c_HANDS rfl (by decide) (e_var (pv 1))))))))
abbrev s_card_cell : Stmt := top 29
abbrev N_card_cell : List Str := ["size", "hand"]
theorem sc_card_cell : FnScope N_card_cell ["size", "hand"] (defScope s_card_cell) := ⟨rfl, rfl, rfl, by decide +kernel, rfl, by decide +kernel, by decide +kernel⟩
theorem ok_card_cell (f_look_at_size : FnM (TT K) P w mg base 2 "look_at_size" ["size"] F_look_at_size) (f_look_at_hand : FnM (TT K) P w mg base 2 "look_at_hand" ["hand"] F_look_at_hand) (c_HANDS : TupF (TT K) mg "HANDS" ["giver", "taker"]) (D : ∃ fd, FunD K (st "card_cell") (st "card_cell") (defArgs s_card_cell) (defBody s_card_cell) (defScope s_card_cell) [] [] (He.ga K (st "card_cell")) fd) (at_ : mg (st "card_cell") = some (.ref (He.ga K (st "card_cell")))) :
    FnM (TT K) P w mg base 3 "card_cell" ["size", "hand"] F_card_cell := by
  rw [F_card_cell_eq]
  refine fnM_mk (T := TT K) D at_ sc_card_cell rfl rfl (fun _ _ _ _ _ _ us hl => match us, hl with | [_, _], _ => rfl) fun cdv A outer s H E hr => ?_
  have tk := takes_of (X := cxOf (L2.CX P w) P w K mg base N_card_cell (st "card_cell") (defScope s_card_cell) (He.ga K (st "card_cell")) cdv A outer s H E) rfl rfl rfl rfl
  have po : PassesOwn _ (cxOf (L2.CX P w) P w K mg base N_card_cell (st "card_cell") (defScope s_card_cell) (He.ga K (st "card_cell")) cdv A outer s H E).A _ (cxOf (L2.CX P w) P w K mg base N_card_cell (st "card_cell") (defScope s_card_cell) (He.ga K (st "card_cell")) cdv A outer s H E).xe := passes_of rfl
  have nd := sc_card_cell.nd
  have hu64 := hr.units
  have hu1 := Nat.lt_of_le_of_lt (Nat.add_le_add_left (by decide : 1 ≤ 64) _) hu64
  exact (ss_cons (s_ex (e_call rfl tk f_look_at_size (by decide) hr rfl (a_cons (e_var (pv 0)) a_nil) (by decide)))
  (ss_cons (s_ex (e_call rfl tk f_look_at_hand (by decide) hr rfl (a_cons (e_var (pv 1)) a_nil) (by decide)))
  (ss_one (s_ret (e_op (o_add rfl) (e_op o_mul e_int (e_var (pv 0))) (e_gidx rfl c_HANDS rfl (by decide) (e_var (pv 1))))))))
abbrev s_law_refused_v2 : Stmt := top 39
abbrev N_law_refused_v2 : List Str := ["way", "size", "hand", "kinds", "e"]
theorem sc_law_refused_v2 : FnScope N_law_refused_v2 ["way", "size", "hand"] (defScope s_law_refused_v2) := ⟨rfl, rfl, rfl, by decide +kernel, rfl, by decide +kernel, by decide +kernel⟩
theorem ok_law_refused_v2 (tr_RingError : TrF (TT K) mg "RingError") (f_card_cell : FnM (TT K) P w mg base 3 "card_cell" ["size", "hand"] F_card_cell) (f_bell_cell : FnM (TT K) P w mg base 3 "bell_cell" ["size", "hand"] F_bell_cell) (mk_Board : MkM (TT K) P w mg base 3 "Board" ["self", "size"] F_Board___init) (fe__law_flags : FnE (TT K) P w mg base 2 "_law_flags" ["e"] F_law_flags_v1) (D : ∃ fd, FunD K (st "_law_refused") (st "_law_refused") (defArgs s_law_refused_v2) (defBody s_law_refused_v2) (defScope s_law_refused_v2) [] [] (He.ga K (st "_law_refused")) fd) (at_ : mg (st "_law_refused") = some (.ref (He.ga K (st "_law_refused")))) :
    FnM (TT K) P w mg base 5 "_law_refused" ["way", "size", "hand"] F_law_refused_v2 := by
  rw [F_law_refused_v2_eq]
  refine fnM_mk (T := TT K) D at_ sc_law_refused_v2 rfl rfl (fun _ _ _ _ _ _ us hl => match us, hl with | [_, _, _], _ => rfl) fun cdv A outer s H E hr => ?_
  have tk := takes_of (X := cxOf (L2.CX P w) P w K mg base N_law_refused_v2 (st "_law_refused") (defScope s_law_refused_v2) (He.ga K (st "_law_refused")) cdv A outer s H E) rfl rfl rfl rfl
  have po : PassesOwn _ (cxOf (L2.CX P w) P w K mg base N_law_refused_v2 (st "_law_refused") (defScope s_law_refused_v2) (He.ga K (st "_law_refused")) cdv A outer s H E).A _ (cxOf (L2.CX P w) P w K mg base N_law_refused_v2 (st "_law_refused") (defScope s_law_refused_v2) (He.ga K (st "_law_refused")) cdv A outer s H E).xe := passes_of rfl
  have nd := sc_law_refused_v2.nd
  have hu64 := hr.units
  have hu1 := Nat.lt_of_le_of_lt (Nat.add_le_add_left (by decide : 1 ≤ 64) _) hu64
  exact (ss_cons (s_set (i := 3) (fun _ h => ps_set (i := 3) nd rfl (by first | exact Or.inl rfl | exact Or.inr rfl) h) (e_lst a_nil))
  (ss_cons (s_try_as (i := 4) rfl rfl nd rfl rfl rfl (TrF.names tr_RingError rfl (by decide)) tk tr_RingError.ex
  (fun _ _ _ tk' po' => (ss_one (s_if (t_cmp (o_eq rfl hu64) (e_var (pv 0)) e_int (nomark _)) (ss_one (s_ex (e_call rfl tk' f_card_cell (by decide) hr rfl (a_cons (e_var (pv 1)) (a_cons (e_var (pv 2)) a_nil)) (by decide)))) (ss_one (s_if (t_cmp (o_eq rfl hu64) (e_var (pv 0)) e_int (nomark _)) (ss_one (s_ex (e_call rfl tk' f_bell_cell (by decide) hr rfl (a_cons (e_var (pv 1)) (a_cons (e_var (pv 2)) a_nil)) (by decide)))) (ss_one (s_ex (e_make rfl tk' mk_Board (by decide) (k := 3) hr rfl (a_cons (e_var (pv 1)) a_nil) (by decide)))))))))
  (fun c hc hsub a oe pn hz hv => (ss_one (s_set (i := 3) (fun _ h => ps_set (i := 3) nd rfl (by first | exact Or.inl rfl | exact Or.inr rfl) h) (e_callX rfl takes0 (List.mem_cons_self ..) hc hz hv fe__law_flags (by decide) (roomS hr) rfl (a_cons (e_var (pv 4)) a_nil) (by decide))))))
  (ss_one (s_ret (e_var (pv 3))))))
abbrev s_law_cells_right : Stmt := top 40
abbrev N_law_cells_right : List Str := ["well", "size", "place", "far", "told", "bad", "name", "way", "k", "cell"]
theorem sc_law_cells_right : FnScope N_law_cells_right ["well", "size"] (defScope s_law_cells_right) := ⟨rfl, rfl, rfl, by decide +kernel, rfl, by decide +kernel, by decide +kernel⟩
theorem ok_law_cells_right (m_range : mg (st "range") = none) (f_thing_cell : FnM (TT K) P w mg base 2 "thing_cell" ["place"] F_thing_cell) (f_left_cell : FnM (TT K) P w mg base 2 "left_cell" ["place"] F_left_cell) (f_number_cell : FnM (TT K) P w mg base 2 "number_cell" ["place"] F_number_cell) (f_mark_cell : FnM (TT K) P w mg base 2 "mark_cell" ["place"] F_mark_cell) (m_all : mg (st "all") = none) (f__law_whole : FnM (TT K) P w mg base 2 "_law_whole" ["found"] F_law_whole) (f__law_far : FnM (TT K) P w mg base 3 "_law_far" ["well"] F_law_far) (f_bell_cell : FnM (TT K) P w mg base 3 "bell_cell" ["size", "hand"] F_bell_cell) (f_card_cell : FnM (TT K) P w mg base 3 "card_cell" ["size", "hand"] F_card_cell) (f__law_take : FnM (TT K) P w mg base 2 "_law_take" ["well", "many"] F_law_take) (f__law_refused : FnM (TT K) P w mg base 5 "_law_refused" ["way", "size", "hand"] F_law_refused_v2) (D : ∃ fd, FunD K (st "_law_cells_right") (st "_law_cells_right") (defArgs s_law_cells_right) (defBody s_law_cells_right) (defScope s_law_cells_right) [] [] (He.ga K (st "_law_cells_right")) fd) (at_ : mg (st "_law_cells_right") = some (.ref (He.ga K (st "_law_cells_right")))) :
    FnM (TT K) P w mg base 6 "_law_cells_right" ["well", "size"] F_law_cells_right := by
  rw [F_law_cells_right_eq]
  refine fnM_mk (T := TT K) D at_ sc_law_cells_right rfl rfl (fun _ _ _ _ _ _ us hl => match us, hl with | [_, _], _ => rfl) fun cdv A outer s H E hr => ?_
  have tk := takes_of (X := cxOf (L2.CX P w) P w K mg base N_law_cells_right (st "_law_cells_right") (defScope s_law_cells_right) (He.ga K (st "_law_cells_right")) cdv A outer s H E) rfl rfl rfl rfl
  have po : PassesOwn _ (cxOf (L2.CX P w) P w K mg base N_law_cells_right (st "_law_cells_right") (defScope s_law_cells_right) (He.ga K (st "_law_cells_right")) cdv A outer s H E).A _ (cxOf (L2.CX P w) P w K mg base N_law_cells_right (st "_law_cells_right") (defScope s_law_cells_right) (He.ga K (st "_law_cells_right")) cdv A outer s H E).xe := passes_of rfl
  have nd := sc_law_cells_right.nd
  have hu64 := hr.units
  have hu1 := Nat.lt_of_le_of_lt (Nat.add_le_add_left (by decide : 1 ≤ 64) _) hu64
  exact (ss_cons (s_for po rfl (i_rng1 rfl m_range (e_var (pv 1))) (g_name (pg_name (i := 2) nd rfl (by first | exact Or.inl rfl | exact Or.inr rfl))) (ss_cons (s_set (i := 4) (fun _ h => ps_set (i := 4) nd rfl (by first | exact Or.inl rfl | exact Or.inr rfl) h) (e_lst (a_cons (e_call rfl tk f_mark_cell (by decide) hr rfl (a_cons (e_var (pv 2)) a_nil) (by decide)) (a_cons (e_call rfl tk f_number_cell (by decide) hr rfl (a_cons (e_var (pv 2)) a_nil) (by decide)) (a_cons (e_call rfl tk f_left_cell (by decide) hr rfl (a_cons (e_var (pv 2)) a_nil) (by decide)) (a_cons (e_call rfl tk f_thing_cell (by decide) hr rfl (a_cons (e_var (pv 2)) a_nil) (by decide)) a_nil))))))
  (ss_one (s_if (PW.pt (t_or (t_cmp (o_ne rfl hu64) (e_var (pv 4)) (e_comp rfl nd (i_rng1 rfl m_range e_int) (blkOk_by (own := [(st "k", 8)]) (N := N_law_cells_right) (sc := defScope s_law_cells_right) (by decide +kernel)) (fun _ _ _ _ _ => pg_name (i := 8) nd rfl (by first | exact Or.inl rfl | exact Or.inr rfl)) (fun _ _ _ _ _ => tst_nil) (fun _ _ _ _ _ => (e_op (o_add rfl) (e_op o_mul e_int (e_var (pv 2))) (e_var (pv 8))))) (nomark _)) (t_or1 (t_not (t_tru rfl (e_b (b_all rfl rfl) rfl m_all (by decide +kernel) (a_cons (e_comp rfl nd (i_seq rfl (e_var (pv 4))) (blkOk_by (own := [(st "cell", 9)]) (N := N_law_cells_right) (sc := defScope s_law_cells_right) (by decide +kernel)) (fun _ _ _ _ _ => pg_name (i := 9) nd rfl (by first | exact Or.inl rfl | exact Or.inr rfl)) (fun _ _ _ _ _ => tst_nil) (fun _ _ _ _ _ => (e_call rfl takes0 f__law_whole (by decide) hr rfl (a_cons (e_var (pv 9)) a_nil) (by decide)))) a_nil) (by decide) (by decide)) (by intro _; rfl)))))) (ss_one (s_ret e_bl)) ss_nil))))
  (ss_cons (s_set (i := 3) (fun _ h => ps_set (i := 3) nd rfl (by first | exact Or.inl rfl | exact Or.inr rfl) h) (e_call rfl tk f__law_far (by decide) hr rfl (a_cons (e_var (pv 0)) a_nil) (by decide)))
  (ss_cons (s_if (t_cmp (o_ne rfl hu64) (e_lst (a_cons (e_call rfl tk f_mark_cell (by decide) hr rfl (a_cons (e_var (pv 3)) a_nil) (by decide)) (a_cons (e_call rfl tk f_number_cell (by decide) hr rfl (a_cons (e_var (pv 3)) a_nil) (by decide)) (a_cons (e_call rfl tk f_left_cell (by decide) hr rfl (a_cons (e_var (pv 3)) a_nil) (by decide)) (a_cons (e_call rfl tk f_thing_cell (by decide) hr rfl (a_cons (e_var (pv 3)) a_nil) (by decide)) a_nil))))) (e_comp rfl nd (i_rng1 rfl m_range e_int) (blkOk_by (own := [(st "k", 8)]) (N := N_law_cells_right) (sc := defScope s_law_cells_right) (by decide +kernel)) (fun _ _ _ _ _ => pg_name (i := 8) nd rfl (by first | exact Or.inl rfl | exact Or.inr rfl)) (fun _ _ _ _ _ => tst_nil) (fun _ _ _ _ _ => (e_op (o_add rfl) (e_op o_mul e_int (e_var (pv 3))) (e_var (pv 8))))) (nomark _)) (ss_one (s_ret e_bl)) ss_nil)
  (ss_cons (s_set (i := 4) (fun _ h => ps_set (i := 4) nd rfl (by first | exact Or.inl rfl | exact Or.inr rfl) h) (e_lst (a_cons (e_call rfl tk f_card_cell (by decide) hr rfl (a_cons (e_var (pv 1)) (a_cons e_str a_nil)) (by decide)) (a_cons (e_call rfl tk f_card_cell (by decide) hr rfl (a_cons (e_var (pv 1)) (a_cons e_str a_nil)) (by decide)) (a_cons (e_call rfl tk f_bell_cell (by decide) hr rfl (a_cons (e_var (pv 1)) (a_cons e_str a_nil)) (by decide)) (a_cons (e_call rfl tk f_bell_cell (by decide) hr rfl (a_cons (e_var (pv 1)) (a_cons e_str a_nil)) (by decide)) a_nil))))))
  (ss_cons (s_if (t_cmp (o_ne rfl hu64) (e_var (pv 4)) (e_comp rfl nd (i_rng1 rfl m_range e_int) (blkOk_by (own := [(st "k", 8)]) (N := N_law_cells_right) (sc := defScope s_law_cells_right) (by decide +kernel)) (fun _ _ _ _ _ => pg_name (i := 8) nd rfl (by first | exact Or.inl rfl | exact Or.inr rfl)) (fun _ _ _ _ _ => tst_nil) (fun _ _ _ _ _ => (e_op (o_add rfl) (e_op o_mul e_int (e_var (pv 1))) (e_var (pv 8))))) (nomark _)) (ss_one (s_ret e_bl)) ss_nil)
  (ss_cons (s_set (i := 5) (fun _ h => ps_set (i := 5) nd rfl (by first | exact Or.inl rfl | exact Or.inr rfl) h) (e_ix rfl hu1 (e_lst (a_cons e_int (a_cons e_int (a_cons (e_op o_sub e_int (e_call rfl tk f__law_far (by decide) hr rfl (a_cons (e_var (pv 0)) a_nil) (by decide))) (a_cons (e_op (o_add rfl) e_int (e_call rfl tk f__law_far (by decide) hr rfl (a_cons (e_var (pv 0)) a_nil) (by decide))) a_nil))))) (e_call rfl tk f__law_take (by decide) hr rfl (a_cons (e_var (pv 0)) (a_cons e_int a_nil)) (by decide)) (fun _ _ => rfl)))
  (ss_cons (s_set (i := 6) (fun _ h => ps_set (i := 6) nd rfl (by first | exact Or.inl rfl | exact Or.inr rfl) h) (e_ix rfl hu1 (e_lst (a_cons e_str (a_cons e_str (a_cons e_str (a_cons e_str (a_cons e_str (a_cons e_str a_nil))))))) (e_call rfl tk f__law_take (by decide) hr rfl (a_cons (e_var (pv 0)) (a_cons e_int a_nil)) (by decide)) (fun _ _ => rfl)))
  (ss_cons (s_for po rfl (i_rng1 rfl m_range e_int) (g_name (pg_name (i := 7) nd rfl (by first | exact Or.inl rfl | exact Or.inr rfl))) (ss_cons (s_if (t_cmp (o_ne rfl hu64) (e_call rfl tk f__law_refused (by decide) hr rfl (a_cons (e_var (pv 7)) (a_cons (e_var (pv 5)) (a_cons (e_var (pv 6)) a_nil))) (by decide)) (e_lst (a_cons e_bl (a_cons e_bl (a_cons e_bl (a_cons e_bl (a_cons e_bl (a_cons e_bl a_nil))))))) (nomark _)) (ss_one (s_ret e_bl)) ss_nil)
  (ss_one (s_if (t_cmp (o_ne rfl hu64) (e_call rfl tk f__law_refused (by decide) hr rfl (a_cons (e_var (pv 7)) (a_cons (e_var (pv 1)) (a_cons (e_var (pv 6)) a_nil))) (by decide)) (e_lst (a_cons e_bl (a_cons e_bl (a_cons e_bl (a_cons e_bl (a_cons e_bl (a_cons e_bl a_nil))))))) (nomark _)) (ss_one (s_ret e_bl)) ss_nil))))
  (ss_one (s_ret (e_cmp (o_eq rfl hu64) (e_call rfl tk f__law_refused (by decide) hr rfl (a_cons e_int (a_cons (e_var (pv 5)) (a_cons (e_var (pv 6)) a_nil))) (by decide)) (e_lst (a_cons e_bl (a_cons e_bl (a_cons e_bl (a_cons e_bl (a_cons e_bl (a_cons e_bl a_nil))))))) (nomark _))))))))))))
abbrev s_law_v6 : Stmt := top 42
abbrev N_law_v6 : List Str := ["script", "first", "sizes", "boards", "rows", "counts", "lasts", "k", "well", "at", "writes", "number", "cell", "j", "size", "due"]
theorem sc_law_v6 : FnScope N_law_v6 ["script"] (defScope s_law_v6) := ⟨rfl, rfl, rfl, by decide +kernel, rfl, by decide +kernel, by decide +kernel⟩
theorem ok_law_v6 (f__law_well : FnM (TT K) P w mg base 2 "_law_well" ["script", "k"] F_law_well) (f__law_take : FnM (TT K) P w mg base 2 "_law_take" ["well", "many"] F_law_take) (mk_Board : MkM (TT K) P w mg base 3 "Board" ["self", "size"] F_Board___init) (m_range : mg (st "range") = none) (m_max : mg (st "max") = none) (m_min : mg (st "min") = none) (m_len : mg (st "len") = none) (f__law_far : FnM (TT K) P w mg base 3 "_law_far" ["well"] F_law_far) (f__law_touched : FnM (TT K) P w mg base 4 "_law_touched" ["board", "writes", "cell", "number"] F_law_touched) (m_int : mg (st "int") = none) (f__law_right : FnM (TT K) P w mg base 3 "_law_right" ["board", "size", "row", "many", "last"] F_law_right_v2) (f__law_cells_right : FnM (TT K) P w mg base 6 "_law_cells_right" ["well", "size"] F_law_cells_right) (D : ∃ fd, FunD K (st "law") (st "law") (defArgs s_law_v6) (defBody s_law_v6) (defScope s_law_v6) [] [] (He.ga K (st "law")) fd) (at_ : mg (st "law") = some (.ref (He.ga K (st "law")))) :
    FnM (TT K) P w mg base 7 "law" ["script"] F_law_v6 := by
  rw [F_law_v6_eq]
  refine fnM_mk (T := TT K) D at_ sc_law_v6 rfl rfl (fun _ _ _ _ _ _ us hl => match us, hl with | [_], _ => rfl) fun cdv A outer s H E hr => ?_
  have tk := takes_of (X := cxOf (L2.CX P w) P w K mg base N_law_v6 (st "law") (defScope s_law_v6) (He.ga K (st "law")) cdv A outer s H E) rfl rfl rfl rfl
  have po : PassesOwn _ (cxOf (L2.CX P w) P w K mg base N_law_v6 (st "law") (defScope s_law_v6) (He.ga K (st "law")) cdv A outer s H E).A _ (cxOf (L2.CX P w) P w K mg base N_law_v6 (st "law") (defScope s_law_v6) (He.ga K (st "law")) cdv A outer s H E).xe := passes_of rfl
  have nd := sc_law_v6.nd
  have hu64 := hr.units
  have hu1 := Nat.lt_of_le_of_lt (Nat.add_le_add_left (by decide : 1 ≤ 64) _) hu64
  exact (ss_cons (s_set (i := 1) (fun _ h => ps_set (i := 1) nd rfl (by first | exact Or.inl rfl | exact Or.inr rfl) h) (e_call rfl tk f__law_well (by decide) hr rfl (a_cons (e_var (pv 0)) (a_cons e_int a_nil)) (by decide)))
  (ss_cons (s_set (i := 2) (fun _ h => ps_set (i := 2) nd rfl (by first | exact Or.inl rfl | exact Or.inr rfl) h) (e_lst (a_cons (e_op (o_add rfl) e_int (e_call rfl tk f__law_take (by decide) hr rfl (a_cons (e_var (pv 1)) (a_cons e_int a_nil)) (by decide))) (a_cons (e_op (o_add rfl) e_int (e_call rfl tk f__law_take (by decide) hr rfl (a_cons (e_var (pv 1)) (a_cons e_int a_nil)) (by decide))) a_nil))))
  (ss_cons (s_setLc (j := 3) rfl nd rfl rfl (sw_true rfl rfl rfl (by decide +kernel)) (i_seq rfl (e_var (pv 2))) (blkOk_by (own := [(st "size", 14)]) (N := N_law_v6) (sc := defScope s_law_v6) (by decide +kernel)) (fun _ _ _ _ _ => pg_name (i := 14) nd rfl (by first | exact Or.inl rfl | exact Or.inr rfl)) (fun _ _ _ _ _ => tst_nil) (fun _ _ _ _ _ => (e_make rfl takes0 mk_Board (by decide) (k := 5) hr rfl (a_cons (e_var (pv 14)) a_nil) (by decide))))
  (ss_cons (s_setLc (j := 4) rfl nd rfl rfl (sw_true rfl rfl rfl (by decide +kernel)) (i_seq rfl (e_var (pv 2))) (blkOk_by (own := [(st "size", 14)]) (N := N_law_v6) (sc := defScope s_law_v6) (by decide +kernel)) (fun _ _ _ _ _ => pg_name (i := 14) nd rfl (by first | exact Or.inl rfl | exact Or.inr rfl)) (fun _ _ _ _ _ => tst_nil) (fun _ _ _ _ _ => (e_op (o_add rfl) (e_op o_mul (e_lst (a_cons e_int (a_cons (e_un u_neg e_int) (a_cons e_int (a_cons e_int a_nil))))) (e_var (pv 14))) (e_lst (a_cons (e_un u_neg e_int) (a_cons (e_un u_neg e_int) (a_cons e_int (a_cons e_int a_nil))))))))
  (ss_cons (s_set (i := 5) (fun _ h => ps_set (i := 5) nd rfl (by first | exact Or.inl rfl | exact Or.inr rfl) h) (e_lst (a_cons e_int (a_cons e_int a_nil))))
  (ss_cons (s_set (i := 6) (fun _ h => ps_set (i := 6) nd rfl (by first | exact Or.inl rfl | exact Or.inr rfl) h) (e_lst (a_cons e_non (a_cons e_non a_nil))))
  (ss_cons (s_for po rfl (i_rng1 rfl m_range (e_b (b_max rfl) rfl m_max (by decide +kernel) (a_cons e_int (a_cons (e_b (b_min rfl) rfl m_min (by decide +kernel) (a_cons e_int (a_cons (e_b (b_len rfl) rfl m_len (by decide +kernel) (a_cons (e_var (pv 0)) a_nil) (by decide) (by decide)) a_nil)) (by decide) (by decide)) a_nil)) (by decide) (by decide))) (g_name (pg_name (i := 7) nd rfl (by first | exact Or.inl rfl | exact Or.inr rfl))) (ss_cons (s_set (i := 8) (fun _ h => ps_set (i := 8) nd rfl (by first | exact Or.inl rfl | exact Or.inr rfl) h) (e_call rfl tk f__law_well (by decide) hr rfl (a_cons (e_var (pv 0)) (a_cons (e_var (pv 7)) a_nil)) (by decide)))
  (ss_cons (s_set (i := 9) (fun _ h => ps_set (i := 9) nd rfl (by first | exact Or.inl rfl | exact Or.inr rfl) h) (e_call rfl tk f__law_take (by decide) hr rfl (a_cons (e_var (pv 8)) (a_cons e_int a_nil)) (by decide)))
  (ss_cons (s_set (i := 10) (fun _ h => ps_set (i := 10) nd rfl (by first | exact Or.inl rfl | exact Or.inr rfl) h) (e_cmp (o_eq rfl hu64) (e_call rfl tk f__law_take (by decide) hr rfl (a_cons (e_var (pv 8)) (a_cons e_int a_nil)) (by decide)) e_int (nomark _)))
  (ss_cons (s_set (i := 11) (fun _ h => ps_set (i := 11) nd rfl (by first | exact Or.inl rfl | exact Or.inr rfl) h) (e_ix rfl hu1 (e_lst (a_cons (e_call rfl tk f__law_take (by decide) hr rfl (a_cons (e_var (pv 8)) (a_cons e_int a_nil)) (by decide)) (a_cons (e_call rfl tk f__law_far (by decide) hr rfl (a_cons (e_var (pv 8)) a_nil) (by decide)) (a_cons (e_op o_sub e_int (e_call rfl tk f__law_far (by decide) hr rfl (a_cons (e_var (pv 8)) a_nil) (by decide))) a_nil)))) (e_call rfl tk f__law_take (by decide) hr rfl (a_cons (e_var (pv 8)) (a_cons e_int a_nil)) (by decide)) (fun _ _ => rfl)))
  (ss_cons (s_set (i := 12) (fun _ h => ps_set (i := 12) nd rfl (by first | exact Or.inl rfl | exact Or.inr rfl) h) (e_call rfl tk f__law_take (by decide) hr rfl (a_cons (e_var (pv 8)) (a_cons (e_b (b_len rfl) rfl m_len (by decide +kernel) (a_cons (e_ix rfl hu1 (e_var (pv 4)) (e_var (pv 9)) (fun _ _ => rfl)) a_nil) (by decide) (by decide)) a_nil)) (by decide)))
  (ss_cons (s_if (t_cmp (o_eq rfl hu64) (e_call rfl tk f__law_take (by decide) hr rfl (a_cons (e_var (pv 8)) (a_cons e_int a_nil)) (by decide)) e_int (nomark _)) (ss_cons (s_set (i := 12) (fun _ h => ps_set (i := 12) nd rfl (by first | exact Or.inl rfl | exact Or.inr rfl) h) (e_ix rfl hu1 (e_lst (a_cons (e_un u_neg e_int) (a_cons (e_b (b_len rfl) rfl m_len (by decide +kernel) (a_cons (e_ix rfl hu1 (e_var (pv 4)) (e_var (pv 9)) (fun _ _ => rfl)) a_nil) (by decide) (by decide)) (a_cons (e_op o_sub e_int (e_call rfl tk f__law_far (by decide) hr rfl (a_cons (e_var (pv 8)) a_nil) (by decide))) (a_cons (e_op (o_add rfl) (e_op o_sub (e_b (b_len rfl) rfl m_len (by decide +kernel) (a_cons (e_ix rfl hu1 (e_var (pv 4)) (e_var (pv 9)) (fun _ _ => rfl)) a_nil) (by decide) (by decide)) e_int) (e_call rfl tk f__law_far (by decide) hr rfl (a_cons (e_var (pv 8)) a_nil) (by decide))) a_nil))))) (e_call rfl tk f__law_take (by decide) hr rfl (a_cons (e_var (pv 8)) (a_cons e_int a_nil)) (by decide)) (fun _ _ => rfl)))
  (ss_one (s_if (t_cmp (o_ne rfl hu64) (e_call rfl tk f__law_touched (by decide) hr rfl (a_cons (e_ix rfl hu1 (e_var (pv 3)) (e_var (pv 9)) (fun _ _ => rfl)) (a_cons (e_var (pv 10)) (a_cons (e_var (pv 12)) (a_cons (e_var (pv 11)) a_nil)))) (by decide)) (e_tup (a_cons (e_lst (a_cons e_bl (a_cons e_bl (a_cons e_bl (a_cons e_bl (a_cons e_bl (a_cons e_bl a_nil))))))) (a_cons e_non a_nil))) (nomark _)) (ss_one (s_ret e_bl)) ss_nil))) (ss_cons (s_set (i := 15) (fun _ h => ps_set (i := 15) nd rfl (by first | exact Or.inl rfl | exact Or.inr rfl) h) e_non)
  (ss_cons (s_if (t_tru rfl (e_var (pv 10)) (by intro _; rfl)) (ss_one (s_asg (e_var (pv 11)) (g_ix hu1 (e_ix rfl hu1 (e_var (pv 4)) (e_var (pv 9)) (fun _ _ => rfl)) (e_var (pv 12))))) (ss_one (s_set (i := 15) (fun _ h => ps_set (i := 15) nd rfl (by first | exact Or.inl rfl | exact Or.inr rfl) h) (e_ix rfl hu1 (e_ix rfl hu1 (e_var (pv 4)) (e_var (pv 9)) (fun _ _ => rfl)) (e_var (pv 12)) (fun _ _ => rfl)))))
  (ss_cons (s_if (t_cmp (o_ne rfl hu64) (e_call rfl tk f__law_touched (by decide) hr rfl (a_cons (e_ix rfl hu1 (e_var (pv 3)) (e_var (pv 9)) (fun _ _ => rfl)) (a_cons (e_var (pv 10)) (a_cons (e_var (pv 12)) (a_cons (e_var (pv 11)) a_nil)))) (by decide)) (e_tup (a_cons (e_lst a_nil) (a_cons (e_var (pv 15)) a_nil))) (nomark _)) (ss_one (s_ret e_bl)) ss_nil)
  (ss_cons (s_asg (e_op (o_add rfl) (e_ix rfl hu1 (e_var (pv 5)) (e_var (pv 9)) (fun _ _ => rfl)) e_int) (g_ix hu1 (e_var (pv 5)) (e_var (pv 9))))
  (ss_one (s_asg (e_tup (a_cons (e_ix rfl hu1 (e_lst (a_cons e_str (a_cons e_str a_nil))) (e_bt b_int rfl m_int (by decide +kernel) (a_cons (e_var (pv 10)) a_nil) (by decide) (by decide)) (fun _ _ => rfl)) (a_cons (e_var (pv 12)) (a_cons (e_ix rfl hu1 (e_ix rfl hu1 (e_var (pv 4)) (e_var (pv 9)) (fun _ _ => rfl)) (e_var (pv 12)) (fun _ _ => rfl)) a_nil)))) (g_ix hu1 (e_var (pv 6)) (e_var (pv 9))))))))))
  (ss_one (s_for po rfl (i_rng1 rfl m_range e_int) (g_name (pg_name (i := 13) nd rfl (by first | exact Or.inl rfl | exact Or.inr rfl))) (ss_one (s_if (t_not (t_tru rfl (e_call rfl tk f__law_right (by decide) hr rfl (a_cons (e_ix rfl hu1 (e_var (pv 3)) (e_var (pv 13)) (fun _ _ => rfl)) (a_cons (e_ix rfl hu1 (e_var (pv 2)) (e_var (pv 13)) (fun _ _ => rfl)) (a_cons (e_ix rfl hu1 (e_var (pv 4)) (e_var (pv 13)) (fun _ _ => rfl)) (a_cons (e_ix rfl hu1 (e_var (pv 5)) (e_var (pv 13)) (fun _ _ => rfl)) (a_cons (e_ix rfl hu1 (e_var (pv 6)) (e_var (pv 13)) (fun _ _ => rfl)) a_nil))))) (by decide)) (by intro _; rfl))) (ss_one (s_ret e_bl)) ss_nil)))))))))))
  (ss_one (s_ret (e_call rfl tk f__law_cells_right (by decide) hr rfl (a_cons (e_var (pv 1)) (a_cons (e_ix rfl hu1 (e_var (pv 2)) e_int (fun _ _ => rfl)) a_nil)) (by decide)))))))))))
end
def fn : List He.DefD := [⟨(st "_law_well", none), st "_law_well", st "_law_well", defArgs s_law_well, defBody s_law_well, defScope s_law_well, [], []⟩, ⟨(st "_law_take", none), st "_law_take", st "_law_take", defArgs s_law_take, defBody s_law_take, defScope s_law_take, [], []⟩, ⟨(st "look_at_size", none), st "look_at_size", st "look_at_size", defArgs s_look_at_size, defBody s_look_at_size, defScope s_look_at_size, [], []⟩, ⟨(st "Board", some (st "__init__")), st "__init__", st "Board.__init__", defArgs s_Board___init, defBody s_Board___init, defScope s_Board___init, [], []⟩, ⟨(st "_law_far", none), st "_law_far", st "_law_far", defArgs s_law_far, defBody s_law_far, defScope s_law_far, [], []⟩, ⟨(st "Board", some (st "look_at_cell")), st "look_at_cell", st "Board.look_at_cell", defArgs s_Board_look_at_cell, defBody s_Board_look_at_cell, defScope s_Board_look_at_cell, [], []⟩, ⟨(st "Board", some (st "touched")), st "touched", st "Board.touched", defArgs s_Board_touched, defBody s_Board_touched, defScope s_Board_touched, [], []⟩, ⟨(st "Board", some (st "write")), st "write", st "Board.write", defArgs s_Board_write, defBody s_Board_write, defScope s_Board_write, [], []⟩, ⟨(st "Board", some (st "read")), st "read", st "Board.read", defArgs s_Board_read, defBody s_Board_read, defScope s_Board_read, [], []⟩, ⟨(st "_law_flags", none), st "_law_flags", st "_law_flags", defArgs s_law_flags_v1, defBody s_law_flags_v1, defScope s_law_flags_v1, [], []⟩, ⟨(st "_law_touched", none), st "_law_touched", st "_law_touched", defArgs s_law_touched, defBody s_law_touched, defScope s_law_touched, [], []⟩, ⟨(st "Board", some (st "all_cells")), st "all_cells", st "Board.all_cells", defArgs s_Board_all_cells, defBody s_Board_all_cells, defScope s_Board_all_cells, [], []⟩, ⟨(st "Board", some (st "touches")), st "touches", st "Board.touches", defArgs s_Board_touches, defBody s_Board_touches, defScope s_Board_touches, [], []⟩, ⟨(st "Board", some (st "last_touch")), st "last_touch", st "Board.last_touch", defArgs s_Board_last_touch, defBody s_Board_last_touch, defScope s_Board_last_touch, [], []⟩, ⟨(st "_law_right", none), st "_law_right", st "_law_right", defArgs s_law_right_v2, defBody s_law_right_v2, defScope s_law_right_v2, [], []⟩, ⟨(st "thing_cell", none), st "thing_cell", st "thing_cell", defArgs s_thing_cell, defBody s_thing_cell, defScope s_thing_cell, [], []⟩, ⟨(st "left_cell", none), st "left_cell", st "left_cell", defArgs s_left_cell, defBody s_left_cell, defScope s_left_cell, [], []⟩, ⟨(st "number_cell", none), st "number_cell", st "number_cell", defArgs s_number_cell, defBody s_number_cell, defScope s_number_cell, [], []⟩, ⟨(st "mark_cell", none), st "mark_cell", st "mark_cell", defArgs s_mark_cell, defBody s_mark_cell, defScope s_mark_cell, [], []⟩, ⟨(st "_law_whole", none), st "_law_whole", st "_law_whole", defArgs s_law_whole, defBody s_law_whole, defScope s_law_whole, [], []⟩, ⟨(st "look_at_hand", none), st "look_at_hand", st "look_at_hand", defArgs s_look_at_hand, defBody s_look_at_hand, defScope s_look_at_hand, [], []⟩, ⟨(st "bell_cell", none), st "bell_cell", st "bell_cell", defArgs s_bell_cell, defBody s_bell_cell, defScope s_bell_cell, [], []⟩, ⟨(st "card_cell", none), st "card_cell", st "card_cell", defArgs s_card_cell, defBody s_card_cell, defScope s_card_cell, [], []⟩, ⟨(st "_law_refused", none), st "_law_refused", st "_law_refused", defArgs s_law_refused_v2, defBody s_law_refused_v2, defScope s_law_refused_v2, [], []⟩, ⟨(st "_law_cells_right", none), st "_law_cells_right", st "_law_cells_right", defArgs s_law_cells_right, defBody s_law_cells_right, defScope s_law_cells_right, [], []⟩, ⟨(st "law", none), st "law", st "law", defArgs s_law_v6, defBody s_law_v6, defScope s_law_v6, [], []⟩]
def fa : List He.Fa := [.glo (st "_law_well"), .glo (st "_law_take"), .glo (st "look_at_size"), .glo (st "_law_far"), .glo (st "_law_flags"), .glo (st "_law_touched"), .glo (st "_law_right"), .glo (st "thing_cell"), .glo (st "left_cell"), .glo (st "number_cell"), .glo (st "mark_cell"), .glo (st "_law_whole"), .glo (st "look_at_hand"), .glo (st "bell_cell"), .glo (st "card_cell"), .glo (st "_law_refused"), .glo (st "_law_cells_right"), .glo (st "law"), .free (st "len"), .int (st "LEAST_SIZE") 2, .int (st "MOST_SIZE") 8, .exc (st "BadSize"), .glo (st "BadSize"), .cls (st "Board"), .noat (st "Board") (st "size"), .noat (st "Board") (st "kept"), .noat (st "Board") (st "counted"), .noat (st "Board") (st "latest"), .exc (st "NoCell"), .glo (st "NoCell"), .free (st "isinstance"), .glo (st "BadCells"), .glo (st "BadMark"), .glo (st "BadOrder"), .glo (st "BadStand"), .glo (st "Crooked"), .glo (st "NoHand"), .glo (st "NoName"), .glo (st "NoRow"), .glo (st "NoText"), .glo (st "NoTurn"), .glo (st "NoWaiting"), .glo (st "NotSound"), .glo (st "TooMany"), .free (st "ValueError"), .glo (st "RingError"), .free (st "list"), .free (st "int"), .free (st "bool"), .glo (st "HANDS"), .exc (st "NoHand"), .free (st "range"), .free (st "all"), .free (st "max"), .free (st "min"), .mkr (st "Board"), .glo (st "Board"), .meth (st "Board") (st "look_at_cell"), .meth (st "Board") (st "touched"), .meth (st "Board") (st "write"), .meth (st "Board") (st "read"), .meth (st "Board") (st "all_cells"), .meth (st "Board") (st "touches"), .meth (st "Board") (st "last_touch")]
def exs (K : PySem.W.Frag) : Bool := (isChk Er IsDs K && (trChk Er "RingError" K && tupChk "HANDS" ["giver", "taker"] K))
abbrev Rw : PySem.W.OpenRow := PySem.W.OpenLaw.row PySem.Challenge.rw_slipring_k06_boards_touched
abbrev hk : PySem.W.Hook := hookM 6 fa fn exs
def ob (s : PySem.W.SharedT) : AlM := obsMG 6 fa fn exs (HandSHeadRun.getT s)
theorem ob_eq (s : PySem.W.SharedT) : ob s = hk.obs s.abs := obsMG_eq (HandSHeadRun.getT_eq s)
def loose0 : List PySem.Str := ["_wall", "RingError", "BadSize", "NoTurn", "BadMark", "Crooked", "NoCell", "BadCells", "BadOrder", "NoHand", "NoWaiting", "NotSound", "BadStand", "TooMany", "NoName", "NoText", "NoRow", "LEAST_SIZE", "MOST_SIZE", "look_at_size", "HANDS", "mark_cell", "number_cell", "left_cell", "thing_cell", "look_at_hand", "card_cell", "bell_cell", "Board", "_law_well"]
def loose1 : List PySem.Str := ["_law_take", "_law_whole", "_law_far", "_law_flags", "_law_touched", "_law_refused", "_law_cells_right", "_law_right"]
def loose : List PySem.Str := loose0 ++ loose1
theorem run (w : World) : HandSHeadRun.RunEq Rw (PySem.W.view Rw.prog [42]) hk ob 60000 loose w := by
  intro os
  kernel_rfl
theorem facts {P : Program} {w : World} {K : PySem.W.Frag} {h base : Heap} {mg : Str → Option Value} (X : K.In h) (G : h.Ns mainGlobals mg) (c : SaysM fa fn exs K) : FnM (TT K) P w mg base 7 "law" ["script"] F_law_v6 := by
  have m_len : mg (st "len") = none := He.free_ok X G (c.fact 18 rfl)
  have c_LEAST_SIZE : ∃ t, mg (st "LEAST_SIZE") = some (.int 2 t) := He.int_ok X G (c.fact 19 rfl)
  have c_MOST_SIZE : ∃ t, mg (st "MOST_SIZE") = some (.int 8 t) := He.int_ok X G (c.fact 20 rfl)
  have ex_BadSize : ExF (TT K) mg "BadSize" := exF_of (T := TT K) (show _ ∈ Er by decide) (c.fact 21 rfl) (He.glo_ok X G (c.fact 22 rfl))
  have hcl : ClsF (TT K) := fun x hx => He.cls_ok (c.facts (f := .cls (st x)) (by revert x; simp [fa]))
  have na_size : NoF (TT K) "size" := ⟨fun x hx => He.noat_ok (c.facts (f := .noat (st x) (st "size")) (by revert x; simp [fa])), show _ ∈ FLS by decide⟩
  have na_kept : NoF (TT K) "kept" := ⟨fun x hx => He.noat_ok (c.facts (f := .noat (st x) (st "kept")) (by revert x; simp [fa])), show _ ∈ FLS by decide⟩
  have na_counted : NoF (TT K) "counted" := ⟨fun x hx => He.noat_ok (c.facts (f := .noat (st x) (st "counted")) (by revert x; simp [fa])), show _ ∈ FLS by decide⟩
  have na_latest : NoF (TT K) "latest" := ⟨fun x hx => He.noat_ok (c.facts (f := .noat (st x) (st "latest")) (by revert x; simp [fa])), show _ ∈ FLS by decide⟩
  have ex_NoCell : ExF (TT K) mg "NoCell" := exF_of (T := TT K) (show _ ∈ Er by decide) (c.fact 28 rfl) (He.glo_ok X G (c.fact 29 rfl))
  have m_isinstance : mg (st "isinstance") = none := He.free_ok X G (c.fact 30 rfl)
  have isf : IsF (TT K) mg IsDs := isF_of (T := TT K) ((He.ba c.x).1) (fun d hd => He.glo_ok X G (c.facts (by revert d; simp [IsDs, fa])))
  have m_ValueError : mg (st "ValueError") = none := He.free_ok X G (c.fact 44 rfl)
  have tr_RingError : TrF (TT K) mg "RingError" := trF_of (T := TT K) ((He.ba (He.ba c.x).2).1) (He.glo_ok X G (c.fact 45 rfl))
  have m_list : mg (st "list") = none := He.free_ok X G (c.fact 46 rfl)
  have m_int : mg (st "int") = none := He.free_ok X G (c.fact 47 rfl)
  have m_bool : mg (st "bool") = none := He.free_ok X G (c.fact 48 rfl)
  have c_HANDS : TupF (TT K) mg "HANDS" ["giver", "taker"] := tupF_of (T := TT K) ((He.ba (He.ba c.x).2).2) (He.glo_ok X G (c.fact 49 rfl))
  have ex_NoHand : ExF (TT K) mg "NoHand" := exF_of (T := TT K) (show _ ∈ Er by decide) (c.fact 50 rfl) (He.glo_ok X G (c.fact 36 rfl))
  have m_range : mg (st "range") = none := He.free_ok X G (c.fact 51 rfl)
  have m_all : mg (st "all") = none := He.free_ok X G (c.fact 52 rfl)
  have m_max : mg (st "max") = none := He.free_ok X G (c.fact 53 rfl)
  have m_min : mg (st "min") = none := He.free_ok X G (c.fact 54 rfl)
  have f__law_well := ok_law_well (P := P) (w := w) (mg := mg) (base := base) m_len (c.d.def_ 0 (d := fn[0]) rfl) (He.glo_ok X G (c.fact 0 rfl))
  have f__law_take := ok_law_take (P := P) (w := w) (mg := mg) (base := base)  (c.d.def_ 1 (d := fn[1]) rfl) (He.glo_ok X G (c.fact 1 rfl))
  have f_look_at_size := ok_look_at_size (P := P) (w := w) (mg := mg) (base := base) c_LEAST_SIZE c_MOST_SIZE ex_BadSize (c.d.def_ 2 (d := fn[2]) rfl) (He.glo_ok X G (c.fact 2 rfl))
  have mk_Board := ok_Board___init (P := P) (w := w) (mg := mg) (base := base) f_look_at_size hcl na_size na_kept na_counted na_latest (show _ ∈ CLS by decide) (c.d.def_ 3 (d := fn[3]) rfl) (He.mkr_ok (c.fact 55 rfl)) (He.glo_ok X G (c.fact 56 rfl))
  have f__law_far := ok_law_far (P := P) (w := w) (mg := mg) (base := base) f__law_take (c.d.def_ 4 (d := fn[4]) rfl) (He.glo_ok X G (c.fact 3 rfl))
  have mt_Board_look_at_cell := ok_Board_look_at_cell (P := P) (w := w) (mg := mg) (base := base) (c := "Board") m_len hcl na_kept ex_NoCell (c.d.def_ 5 (d := fn[5]) rfl) (He.meth_ok (c.fact 57 rfl))
  have mt_Board_touched := ok_Board_touched (P := P) (w := w) (mg := mg) (base := base) (c := "Board") hcl na_counted na_kept na_latest (c.d.def_ 6 (d := fn[6]) rfl) (He.meth_ok (c.fact 58 rfl))
  have mt_Board_write := ok_Board_write (P := P) (w := w) (mg := mg) (base := base) (c := "Board") mt_Board_look_at_cell hcl na_kept mt_Board_touched (c.d.def_ 7 (d := fn[7]) rfl) (He.meth_ok (c.fact 59 rfl))
  have mt_Board_read := ok_Board_read (P := P) (w := w) (mg := mg) (base := base) (c := "Board") mt_Board_look_at_cell hcl mt_Board_touched (c.d.def_ 8 (d := fn[8]) rfl) (He.meth_ok (c.fact 60 rfl))
  have fe__law_flags := ok_law_flags_v1 (P := P) (w := w) (mg := mg) (base := base) m_isinstance isf m_ValueError (c.d.def_ 9 (d := fn[9]) rfl) (He.glo_ok X G (c.fact 4 rfl))
  have f__law_touched := ok_law_touched (P := P) (w := w) (mg := mg) (base := base) tr_RingError mt_Board_write hcl mt_Board_read fe__law_flags (c.d.def_ 10 (d := fn[10]) rfl) (He.glo_ok X G (c.fact 5 rfl))
  have mt_Board_all_cells := ok_Board_all_cells (P := P) (w := w) (mg := mg) (base := base) (c := "Board") m_list hcl na_kept (c.d.def_ 11 (d := fn[11]) rfl) (He.meth_ok (c.fact 61 rfl))
  have mt_Board_touches := ok_Board_touches (P := P) (w := w) (mg := mg) (base := base) (c := "Board") hcl na_counted (c.d.def_ 12 (d := fn[12]) rfl) (He.meth_ok (c.fact 62 rfl))
  have mt_Board_last_touch := ok_Board_last_touch (P := P) (w := w) (mg := mg) (base := base) (c := "Board") hcl na_latest (c.d.def_ 13 (d := fn[13]) rfl) (He.meth_ok (c.fact 63 rfl))
  have f__law_right := ok_law_right_v2 (P := P) (w := w) (mg := mg) (base := base) mt_Board_all_cells hcl na_size m_isinstance m_list mt_Board_touches mt_Board_last_touch (c.d.def_ 14 (d := fn[14]) rfl) (He.glo_ok X G (c.fact 6 rfl))
  have f_thing_cell := ok_thing_cell (P := P) (w := w) (mg := mg) (base := base)  (c.d.def_ 15 (d := fn[15]) rfl) (He.glo_ok X G (c.fact 7 rfl))
  have f_left_cell := ok_left_cell (P := P) (w := w) (mg := mg) (base := base)  (c.d.def_ 16 (d := fn[16]) rfl) (He.glo_ok X G (c.fact 8 rfl))
  have f_number_cell := ok_number_cell (P := P) (w := w) (mg := mg) (base := base)  (c.d.def_ 17 (d := fn[17]) rfl) (He.glo_ok X G (c.fact 9 rfl))
  have f_mark_cell := ok_mark_cell (P := P) (w := w) (mg := mg) (base := base)  (c.d.def_ 18 (d := fn[18]) rfl) (He.glo_ok X G (c.fact 10 rfl))
  have f__law_whole := ok_law_whole (P := P) (w := w) (mg := mg) (base := base) m_isinstance m_int m_bool (c.d.def_ 19 (d := fn[19]) rfl) (He.glo_ok X G (c.fact 11 rfl))
  have f_look_at_hand := ok_look_at_hand (P := P) (w := w) (mg := mg) (base := base) c_HANDS ex_NoHand (c.d.def_ 20 (d := fn[20]) rfl) (He.glo_ok X G (c.fact 12 rfl))
  have f_bell_cell := ok_bell_cell (P := P) (w := w) (mg := mg) (base := base) f_look_at_size f_look_at_hand c_HANDS (c.d.def_ 21 (d := fn[21]) rfl) (He.glo_ok X G (c.fact 13 rfl))
  have f_card_cell := ok_card_cell (P := P) (w := w) (mg := mg) (base := base) f_look_at_size f_look_at_hand c_HANDS (c.d.def_ 22 (d := fn[22]) rfl) (He.glo_ok X G (c.fact 14 rfl))
  have f__law_refused := ok_law_refused_v2 (P := P) (w := w) (mg := mg) (base := base) tr_RingError f_card_cell f_bell_cell mk_Board fe__law_flags (c.d.def_ 23 (d := fn[23]) rfl) (He.glo_ok X G (c.fact 15 rfl))
  have f__law_cells_right := ok_law_cells_right (P := P) (w := w) (mg := mg) (base := base) m_range f_thing_cell f_left_cell f_number_cell f_mark_cell m_all f__law_whole f__law_far f_bell_cell f_card_cell f__law_take f__law_refused (c.d.def_ 24 (d := fn[24]) rfl) (He.glo_ok X G (c.fact 16 rfl))
  have f_law := ok_law_v6 (P := P) (w := w) (mg := mg) (base := base) f__law_well f__law_take mk_Board m_range m_max m_min m_len f__law_far f__law_touched m_int f__law_right f__law_cells_right (c.d.def_ 25 (d := fn[25]) rfl) (He.glo_ok X G (c.fact 17 rfl))
  exact f_law
theorem law_facts {P : Program} {w : World} {K : PySem.W.Frag} {h : Heap} {mg : Str → Option Value} {f : Addr} (X : K.In h) (G : h.Ns mainGlobals mg) (hfa : mg ("law" : Str) = some (.ref f)) (c : SaysM fa fn exs K) :
    ∃ fd : FuncData, (∀ (s : Shared) (v : Value), BindsTo s fd ⟨[v], []⟩ [("script", v)]) ∧ ∀ base : Heap, FnOk P w K mg base L2.CX0 7 f fd ["script"] fun vs H Q _ => spM (TT K) F_law_v6 vs H Q fun _ _ _ => False := by
  have g := facts (P := P) (w := w) (base := h) X G c
  have e := hfa.symm.trans g.at_
  cases e
  obtain ⟨fd, F⟩ := c.d.def_ 25 (d := fn[25]) rfl
  refine ⟨fd, fun s v => ?_, fun base => ?_⟩
  · exact FunD.bindsA (ps := ["script"]) F (fun _ _ _ _ _ _ us hl => match us, hl with | [_], _ => rfl) s [v] rfl
  · obtain ⟨fd2, g1, _, a2⟩ := (facts (P := P) (w := w) (mg := mg) (base := base) X G c).ok
    have a1 : FdAt K (He.ga K (st "law")) fd := let ⟨oc, od, _, _, _, _, _, _, _, osl, _, l, _⟩ := F.ex; ⟨oc, od, osl, l⟩
    rw [FdAt.inj a1 a2]
    exact nox_ok (T := TT K) g1
end Mi
end TxDerk06

section TxFink06
set_option Elab.async false
set_option linter.all false
set_option maxRecDepth 100000
set_option maxHeartbeats 0
open PySem PySem.W PySem.Calls PyProof.Rows
theorem PySem.Challenge.cw_slipring_k06_boards_touched_holds : PySem.Challenge.rw_slipring_k06_boards_touched.Holds := by
  w_on; o_law
  refine HandSHeadRun.head_any (r := OpenLaw.row PySem.Challenge.rw_slipring_k06_boards_touched) (q := view (OpenLaw.row PySem.Challenge.rw_slipring_k06_boards_touched).prog [42]) (H := Mi.hk) (ob := Mi.ob) (M := 60000) (loose := Mi.loose) (d := HandSHeadRun.topDef (OpenLaw.row PySem.Challenge.rw_slipring_k06_boards_touched).prog 42) (kwd := []) Mi.ob_eq
    (by kernel_rfl) (fun s => by kernel_rfl) Mi.run (by kernel_rfl) (by kernel_rfl) (by kernel_rfl) (by rfl) (by first | assumption | decide +kernel) (by decide +kernel) ⟨rfl, rfl, rfl, rfl, rfl, by decide +kernel⟩ ?hw ?hc
  case hw => w_witness2
  case hc =>
    refine L2.walk_ofE (l := PySem.Challenge.rw_slipring_k06_boards_touched) (n := 63) (k := 7) (x := "script") (CX := L2.CX0) rfl (by decide) (by kernel_rfl) ⟨rfl, by decide, by decide⟩ ?F (fun _ _ _ _ z => z)
    intro w mg fa h Y G hmg0
    obtain ⟨K, KX, c⟩ := Y
    have hmg : mg ("law" : PySem.Str) = some (.ref fa) := by
      have e : (HandSHeadRun.topDef (OpenLaw.row PySem.Challenge.rw_slipring_k06_boards_touched).prog 42).name = ("law" : PySem.Str) := by kernel_rfl
      rw [← e]
      exact hmg0
    obtain ⟨fd, hb, hF⟩ := Mi.law_facts (P := (PySem.Challenge.rw_slipring_k06_boards_touched).prog) (w := w) KX G hmg c
    exact ⟨K, fd, fun vs H Q _ => Mi.spM (Mi.TT K) Mi.F_law_v6 vs H Q fun _ _ _ => False, KX, hb, fun H a ns hl hO hS => Mi.law_sp hO hS (Mi.law_true_v6 ns hl Mi.h0 _), fun base _ _ => hF base⟩
end TxFink06
