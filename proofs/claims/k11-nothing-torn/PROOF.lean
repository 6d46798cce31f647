import PyProof.Rows.All
import Wide.All
import OpenK.AllK
import Wide.FinOn
import HandS.ForMost
import HandS.ForExc
import HandS.ExcIs
import HandS.IsInst
import HandS.Strs
import HandS.Wide
import HandS.More
import HandS.Flow
import HandS.TupAny
import HandS.TryMany
import HandS.SuiteRaise
import HandS.Head0
import HandS.Head1
import HandS.Head2
import HandS.HeadEnd
import HandS.HeadHook1
import HandS.HeadHook2
import PyProof.SeqIndex
import HandS.HotCalls
import HandS.ClsMeth
import HandS.SortInts
import HandS.Conv
import HandS.Style
import HandS.TryOnly
import PySem.Challenge.RW_slipring_k11_whole_nothing_torn
import KE.KStateDown
section TxMini
/-! Mini: a small deterministic reading of the Python used here, by weakest preconditions.
Own work. Values: tuples are plain values; lists, dicts, instances lie in a heap of regions (one arena a region). -/
set_option autoImplicit false
set_option linter.all false
namespace Mi

inductive MV where
  | non | bl (b : Bool) | int (i : Int) | str (s : String) | tup (xs : List MV) | cst (xs : List MV) | ref (r i : Nat) | exc (a : Nat)

inductive MO where
  | lst (xs : List MV) | dic (kvs : List (MV × MV)) | ins (c : String) (fs : List (String × MV))

abbrev MH := Nat → List MO
abbrev MS := List (Option MV)
abbrev QV := MV → MH → Prop
abbrev QX := String → MH → Prop
abbrev WE := MS → MH → QV → QX → Prop
abbrev WA := MS → MH → (List MV → MH → Prop) → QX → Prop
abbrev WT := MS → MH → (Bool → MH → Prop) → QX → Prop
abbrev WG := MV → MS → MH → (MS → MH → Prop) → QX → Prop
abbrev WF := List MV → MH → QV → QX → Prop
structure En where
  nx : MS → MH → Prop
  rt : QV
  bk : MS → MH → Prop
  ct : MS → MH → Prop
  ex : String → MS → MH → Prop
abbrev WS := En → MS → MH → Prop
/-- what a loop walks: the items, and what has to stay meanwhile -/
structure Src where
  xs : List MV
  chk : MH → Prop
abbrev WI := MS → MH → (Src → MH → Prop) → QX → Prop

def lim : Nat := 1000000
/-! ### the heap -/
def rd (h : MH) (r i : Nat) : Option MO := (h r)[i]?
def put (h : MH) (r : Nat) (l : List MO) : MH := fun q => if q = r then l else h q
def wr (h : MH) (r i : Nat) (o : MO) : MH := put h r ((h r).set i o)
def al (h : MH) (r : Nat) (o : MO) : MH := put h r (h r ++ [o])
theorem put_same (h : MH) (r : Nat) (l : List MO) : put h r l r = l := if_pos rfl
theorem put_ne (h : MH) {r q : Nat} (l : List MO) (e : q ≠ r) : put h r l q = h q := if_neg e
theorem put_put (h : MH) (r : Nat) (l m : List MO) : put (put h r l) r m = put h r m := by
  funext q; unfold put; split <;> rfl
theorem put_self (h : MH) (r : Nat) : put h r (h r) = h := by
  funext q; unfold put; split
  · rename_i e; rw [e]
  · rfl
theorem put_comm (h : MH) {r q : Nat} (l m : List MO) (e : r ≠ q) : put (put h r l) q m = put (put h q m) r l := by
  funext p; unfold put
  by_cases e1 : p = q
  · subst e1; rw [if_pos rfl, if_neg (fun z => e z.symm), if_pos rfl]
  · rw [if_neg e1]
    by_cases e2 : p = r
    · rw [if_pos e2, if_pos e2]
    · rw [if_neg e2, if_neg e2, if_neg e1]

/-! ### plain data, for == -/
inductive PD where
  | non | bl (b : Bool) | int (i : Int) | str (s : String) | tup (xs : List PD) | lst (xs : List PD)
mutual
def PD.eqv : PD → PD → Bool
  | .non, .non => true
  | .bl a, .bl b => a == b
  | .bl a, .int j => (if a then 1 else 0) == j
  | .int i, .bl b => i == (if b then 1 else 0)
  | .int i, .int j => decide (i = j)
  | .str x, .str y => decide (x = y)
  | .tup xs, .tup ys => PD.eqvs xs ys
  | .lst xs, .lst ys => PD.eqvs xs ys
  | _, _ => false
def PD.eqvs : List PD → List PD → Bool
  | [], [] => true
  | x :: xs, y :: ys => PD.eqv x y && PD.eqvs xs ys
  | _, _ => false
end
/-- the data of a value, lists read in the heap to the depth n -/
def dat (h : MH) : Nat → MV → Option PD
  | _, .non => some .non
  | _, .bl b => some (.bl b)
  | _, .int i => some (.int i)
  | _, .str s => some (.str s)
  | 0, _ => none
  | n + 1, .tup xs => (xs.mapM (dat h n)).map .tup
  | n + 1, .cst xs => (xs.mapM (dat h n)).map .lst
  | n + 1, .ref r i => match rd h r i with
    | some (.lst xs) => (xs.mapM (dat h n)).map .lst
    | _ => none
  | _, .exc _ => none
def deep : Nat := 8

/-- == of flat values -/
@[simp] def flat : MV → Bool
  | .non => true | .bl _ => true | .int _ => true | .str _ => true | _ => false
@[simp] def eqF : MV → MV → Bool
  | .non, .non => true
  | .bl a, .bl b => a == b
  | .bl a, .int b => (if a then 1 else 0) == b
  | .int a, .bl b => a == (if b then 1 else 0)
  | .int a, .int b => decide (a = b)
  | .str a, .str b => decide (a = b)
  | _, _ => false

/-! ### operations by values -/
abbrev Op2 := MV → MV → MH → QV → Prop
abbrev Op1 := MV → MH → QV → Prop
def small (i : Int) : Prop := -(2 ^ 63) < i ∧ i < 2 ^ 63
@[simp ↓] def oAdd (r : Nat) : Op2
  | .int i, .int j, h, Q => Q (.int (i + j)) h
  | .str a, .str b, h, Q => a.length + b.length ≤ lim ∧ Q (.str (a ++ b)) h
  | .tup a, .tup b, h, Q => a.length + b.length ≤ lim ∧ Q (.tup (a ++ b)) h
  | .ref p i, .ref q j, h, Q => match rd h p i, rd h q j with
    | some (.lst a), some (.lst b) => a.length + b.length ≤ lim ∧ Q (.ref r (h r).length) (al h r (.lst (a ++ b)))
    | _, _ => False
  | _, _, _, _ => False
@[simp ↓] def oSub : Op2
  | .int i, .int j, h, Q => Q (.int (i - j)) h
  | _, _, _, _ => False
def rep (xs : List MV) (n : Nat) : List MV := (List.replicate n xs).flatten
@[simp ↓] def oMul (r : Nat) : Op2
  | .int i, .int j, h, Q => (small i ∨ small j) ∧ Q (.int (i * j)) h
  | .ref p i, .int k, h, Q => match rd h p i with
    | some (.lst a) => small k ∧ k ≤ lim ∧ a.length * k.toNat ≤ lim ∧ Q (.ref r (h r).length) (al h r (.lst (rep a k.toNat)))
    | _ => False
  | _, _, _, _ => False
/-- the greatest divisor of a floor division -/
def dmax : Int := 10 ^ 60
@[simp ↓] def oDiv : Op2
  | .int i, .int j, h, Q => 0 < j ∧ j ≤ dmax ∧ Q (.int (i / j)) h
  | _, _, _, _ => False
@[simp ↓] def oMod : Op2
  | .int i, .int j, h, Q => 0 < j ∧ Q (.int (i % j)) h
  | _, _, _, _ => False
@[simp ↓] def oPow : Op2
  | .int i, .int j, h, Q => 0 ≤ j ∧ j ≤ 1000 ∧ small i ∧ Q (.int (i ^ j.toNat)) h
  | _, _, _, _ => False
@[simp ↓] def oLt : Op2
  | .int i, .int j, h, Q => Q (.bl (decide (i < j))) h
  | _, _, _, _ => False
@[simp ↓] def oLe : Op2
  | .int i, .int j, h, Q => Q (.bl (decide (i ≤ j))) h
  | _, _, _, _ => False
@[simp ↓] def oGt : Op2
  | .int i, .int j, h, Q => Q (.bl (decide (j < i))) h
  | _, _, _, _ => False
@[simp ↓] def oGe : Op2
  | .int i, .int j, h, Q => Q (.bl (decide (j ≤ i))) h
  | _, _, _, _ => False
@[simp] def oEq : Op2 := fun x y h Q => match dat h deep x, dat h deep y with
  | some d, some e => Q (.bl (PD.eqv d e)) h
  | _, _ => False
@[simp] def oNe : Op2 := fun x y h Q => match dat h deep x, dat h deep y with
  | some d, some e => Q (.bl (!PD.eqv d e)) h
  | _, _ => False
@[simp] def isN : MV → Bool
  | .non => true | _ => false
@[simp] def oIsN : Op2 := fun x y h Q => match y with
  | .non => Q (.bl (isN x)) h
  | _ => False
/-- is True, is not True, of truths -/
@[simp] def oIsB : Op2 := fun x y h Q => match x, y with
  | .bl a, .bl b => Q (.bl (a == b)) h
  | _, _ => False
@[simp] def oNotB : Op2 := fun x y h Q => match x, y with
  | .bl a, .bl b => Q (.bl (!(a == b))) h
  | _, _ => False
@[simp] def oNotN : Op2 := fun x y h Q => match y with
  | .non => Q (.bl (!isN x)) h
  | _ => False
def hasKey (k : MV) (kvs : List (MV × MV)) : Bool := kvs.any fun p => eqF p.1 k
def atKey (k : MV) (kvs : List (MV × MV)) : Option MV := (kvs.find? fun p => eqF p.1 k).map (·.2)
def putKey (k v : MV) (kvs : List (MV × MV)) : List (MV × MV) := if hasKey k kvs then kvs.map fun p => if eqF p.1 k then (p.1, v) else p else kvs ++ [(k, v)]
@[simp] def isKey : MV → Bool
  | .int _ => true | .str _ => true | _ => false
def inB (x y : MV) (h : MH) : Option Bool := match y with
  | .tup ys => if flat x && ys.all flat then some (ys.any fun y => eqF y x) else none
  | .cst ys => if flat x && ys.all flat then some (ys.any fun y => eqF y x) else none
  | .ref r i => match rd h r i with
    | some (.lst ys) => if flat x && ys.all flat then some (ys.any fun y => eqF y x) else none
    | some (.dic kvs) => if isKey x then some (hasKey x kvs) else none
    | _ => none
  | .str z => match x with
    | .str c => match c.toList with
      | [c] => some (z.toList.any fun d => decide (d = c))
      | _ => none
    | _ => none
  | _ => none
@[simp] def oIn : Op2 := fun x y h Q => match inB x y h with
  | some b => Q (.bl b) h
  | none => False
@[simp] def oNotIn : Op2 := fun x y h Q => match inB x y h with
  | some b => Q (.bl (!b)) h
  | none => False
/-- the place that an index means -/
def ixN (n : Nat) (i : Int) : Option Nat := if 0 ≤ i then (if i < n then some i.toNat else none) else if -(n : Int) ≤ i then some (i + n).toNat else none
def atI {α : Type} (xs : List α) (i : Int) : Option α := (ixN xs.length i).bind fun j => xs[j]?
@[simp] def getIx (x k : MV) (h : MH) : Option MV := match x, k with
  | .tup xs, .int i => atI xs i
  | .cst xs, .int i => atI xs i
  | .str s, .int i => if s.length ≤ lim then (atI s.toList i).map fun c => .str (String.singleton c) else none
  | .ref r j, k => match rd h r j, k with
    | some (.lst xs), .int i => atI xs i
    | some (.dic kvs), k => if isKey k then atKey k kvs else none
    | _, _ => none
  | _, _ => none
@[simp] def oIx : Op2 := fun x k h Q => match getIx x k h with
  | some v => Q v h
  | none => False
@[simp ↓] def uNeg : Op1
  | .int i, h, Q => Q (.int (-i)) h
  | _, _, _ => False
def sIx (n d : Nat) : Option Int → Nat
  | none => d
  | some i => if i < 0 then (i + n).toNat else min i.toNat n
def cut {α : Type} (xs : List α) (lo hi : Option Int) : List α := (xs.drop (sIx xs.length 0 lo)).take (sIx xs.length xs.length hi - sIx xs.length 0 lo)
/-- truth -/
@[simp] def tru (h : MH) : MV → Option Bool
  | .non => some false
  | .bl b => some b
  | .int i => some (decide (i ≠ 0))
  | .str s => if s.length ≤ lim then some (decide (s ≠ "")) else none
  | .tup xs => some (!xs.isEmpty)
  | .cst xs => some (!xs.isEmpty)
  | .ref r i => match rd h r i with
    | some (.lst xs) => some (!xs.isEmpty)
    | some (.dic kvs) => some (!kvs.isEmpty)
    | _ => none
  | .exc _ => none

/-! ### expressions -/
@[simp] def wV (i : Nat) : WE := fun σ h Q _ => match σ[i]? with
  | some (some v) => Q v h
  | _ => False
@[simp] def wC (v : MV) : WE := fun _ h Q _ => Q v h
@[simp] def wOp (o : Op2) (a b : WE) : WE := fun σ h Q E => a σ h (fun x h1 => b σ h1 (fun y h2 => o x y h2 Q) E) E
@[simp] def wUn (o : Op1) (a : WE) : WE := fun σ h Q E => a σ h (fun x h1 => o x h1 Q) E
@[simp] def wChain (o o' : Op2) (a b c : WE) : WE := fun σ h Q E => a σ h (fun x h1 => b σ h1 (fun y h2 => o x y h2 fun z h3 => match z with
  | .bl k => if k = true then c σ h3 (fun w h4 => o' y w h4 Q) E else Q (.bl false) h3
  | _ => False) E) E
@[simp] def wIf (t : WT) (a b : WE) : WE := fun σ h Q E => t σ h (fun k h1 => if k = true then a σ h1 Q E else b σ h1 Q E) E
@[simp] def wAndV (a b : WE) : WE := fun σ h Q E => a σ h (fun x h1 => match x with
  | .bl k => if k = true then b σ h1 Q E else Q (.bl false) h1
  | _ => False) E
@[simp] def wOrV (a b : WE) : WE := fun σ h Q E => a σ h (fun x h1 => match x with
  | .bl k => if k = true then Q (.bl true) h1 else b σ h1 Q E
  | _ => False) E
@[simp] def wNot (t : WT) : WE := fun σ h Q E => t σ h (fun k h1 => Q (.bl (!k)) h1) E
/-! tests -/
@[simp] def tV (a : WE) : WT := fun σ h Q E => a σ h (fun x h1 => match x with
  | .bl k => Q k h1
  | _ => False) E
@[simp] def tTru (a : WE) : WT := fun σ h Q E => a σ h (fun x h1 => match tru h1 x with
  | some k => Q k h1
  | none => False) E
@[simp] def tAnd (a b : WT) : WT := fun σ h Q E => a σ h (fun k h1 => if k = true then b σ h1 Q E else Q false h1) E
@[simp] def tOr (a b : WT) : WT := fun σ h Q E => a σ h (fun k h1 => if k = true then Q true h1 else b σ h1 Q E) E
@[simp] def tNot (a : WT) : WT := fun σ h Q E => a σ h (fun k h1 => Q (!k) h1) E
@[simp] def tYes : WT := fun _ h Q _ => Q true h
/-! argument lists, displays -/
@[simp] def aNil : WA := fun _ h Q _ => Q [] h
@[simp] def aCons (a : WE) (b : WA) : WA := fun σ h Q E => a σ h (fun x h1 => b σ h1 (fun xs h2 => Q (x :: xs) h2) E) E
@[simp] def wTup (a : WA) : WE := fun σ h Q E => a σ h (fun xs h1 => xs.length ≤ lim ∧ Q (.tup xs) h1) E
@[simp] def wLst (r : Nat) (a : WA) : WE := fun σ h Q E => a σ h (fun xs h1 => xs.length ≤ lim ∧ Q (.ref r (h1 r).length) (al h1 r (.lst xs))) E
/-- calls -/
@[simp] def wCall (F : WF) (a : WA) : WE := fun σ h Q E => a σ h (fun vs h1 => F vs h1 Q E) E
@[simp] def wMeth (tb : String → Option WF) (o : WE) (a : WA) : WE := fun σ h Q E => o σ h (fun x h1 => match x with
  | .ref r i => match rd h1 r i with
    | some (.ins c _) => match tb c with
      | some F => a σ h1 (fun vs h2 => F (x :: vs) h2 Q E) E
      | none => False
    | _ => False
  | _ => False) E
@[simp] def wMake (c : String) (r : Nat) (F : WF) (a : WA) : WE := fun σ h Q E => a σ h (fun vs h1 =>
  F (.ref r (h1 r).length :: vs) (al h1 r (.ins c [])) (fun v h2 => match v with
    | .non => Q (.ref r (h1 r).length) h2
    | _ => False) E) E
@[simp] def wB (b : List MV → MH → QV → Prop) (a : WA) : WE := fun σ h Q E => a σ h (fun vs h1 => b vs h1 Q) E
@[simp] def hasTy (t : String) (h : MH) : MV → Bool
  | .str _ => t == "str"
  | .ref r i => match rd h r i with
    | some (.lst _) => t == "list"
    | some (.dic _) => t == "dict"
    | _ => false
  | _ => false
@[simp] def wBM (t : String) (b : MV → List MV → MH → QV → Prop) (o : WE) (a : WA) : WE := fun σ h Q E => o σ h (fun x h1 => hasTy t h1 x = true ∧ a σ h1 (fun vs h2 => b x vs h2 Q) E) E
@[simp] def wFld (a : WE) (f : String) : WE := fun σ h Q E => a σ h (fun x h1 => match x with
  | .ref r i => match rd h1 r i with
    | some (.ins _ fs) => match fs.lookup f with
      | some v => Q v h1
      | none => False
    | _ => False
  | _ => False) E
/-- slices -/
abbrev WO := MS → MH → (Option Int → MH → Prop) → QX → Prop
@[simp] def pNone : WO := fun _ h Q _ => Q none h
@[simp] def pSome (a : WE) : WO := fun σ h Q E => a σ h (fun x h1 => match x with
  | .int i => Q (some i) h1
  | _ => False) E
@[simp] def wSl (r : Nat) (a : WE) (lo hi : WO) : WE := fun σ h Q E => a σ h (fun x h1 => lo σ h1 (fun l h2 => hi σ h2 (fun u h3 => match x with
  | .tup xs => Q (.tup (cut xs l u)) h3
  | .str s => s.length ≤ lim ∧ Q (.str (String.ofList (cut s.toList l u))) h3
  | .cst xs => Q (.ref r (h3 r).length) (al h3 r (.lst (cut xs l u)))
  | .ref q i => match rd h3 q i with
    | some (.lst xs) => Q (.ref r (h3 r).length) (al h3 r (.lst (cut xs l u)))
    | _ => False
  | _ => False) E) E) E
/-! targets -/
@[simp] def gN (i : Nat) : WG := fun v σ h Q _ => Q (σ.set i (some v)) h
@[simp] def setIx (x k v : MV) (h : MH) : Option MH := match x, k with
  | .ref r j, k => match rd h r j, k with
    | some (.lst xs), .int i => (ixN xs.length i).map fun n => wr h r j (.lst (xs.set n v))
    | some (.dic kvs), k => if isKey k && decide (kvs.length < lim) then some (wr h r j (.dic (putKey k v kvs))) else none
    | _, _ => none
  | _, _ => none
@[simp] def gIx (o k : WE) : WG := fun v σ h Q E => o σ h (fun x h1 => k σ h1 (fun y h2 => match setIx x y v h2 with
  | some h3 => Q σ h3
  | none => False) E) E
def putF (f : String) (v : MV) : List (String × MV) → List (String × MV)
  | [] => [(f, v)]
  | p :: l => if f = p.1 then (p.1, v) :: l else p :: putF f v l
@[simp] def gFld (o : WE) (f : String) : WG := fun v σ h Q E => o σ h (fun x h1 => match x with
  | .ref r i => match rd h1 r i with
    | some (.ins c fs) => fs.length < 1000 ∧ Q σ (wr h1 r i (.ins c (putF f v fs)))
    | _ => False
  | _ => False) E
abbrev WGs := List MV → MS → MH → (MS → MH → Prop) → QX → Prop
@[simp] def gNil : WGs := fun vs σ h Q _ => match vs with
  | [] => Q σ h
  | _ => False
@[simp] def gCons (g : WG) (gs : WGs) : WGs := fun vs σ h Q E => match vs with
  | v :: vs => g v σ h (fun σ1 h1 => gs vs σ1 h1 Q fun _ _ => False) E
  | [] => False
@[simp] def gTup (n : Nat) (gs : WGs) : WG := fun v σ h Q E => match v with
  | .tup xs => xs.length = n ∧ gs xs σ h Q E
  | _ => False
/-! statements -/
@[simp] def sNx : WS := fun D σ h => D.nx σ h
@[simp] def sSeq (a b : WS) : WS := fun D σ h => a { D with nx := b D } σ h
@[simp] def sAsg (e : WE) (g : WG) : WS := fun D σ h => e σ h (fun x h1 => g x σ h1 D.nx fun c h2 => D.ex c σ h2) fun c h1 => D.ex c σ h1
@[simp] def sEx (e : WE) : WS := fun D σ h => e σ h (fun _ h1 => D.nx σ h1) fun c h1 => D.ex c σ h1
@[simp] def sRet (e : WE) : WS := fun D σ h => e σ h D.rt fun c h1 => D.ex c σ h1
@[simp] def sRetN : WS := fun D _ h => D.rt .non h
@[simp] def sIf (t : WT) (a b : WS) : WS := fun D σ h => t σ h (fun k h1 => if k = true then a D σ h1 else b D σ h1) fun c h1 => D.ex c σ h1
@[simp] def sBrk : WS := fun D σ h => D.bk σ h
@[simp] def sCnt : WS := fun D σ h => D.ct σ h
@[simp] def sRaise (c : String) : WS := fun D σ h => D.ex c σ h
def whileN (t : WT) (b : WS) : Nat → WS
  | 0 => fun _ _ _ => False
  | n + 1 => fun D σ h => t σ h (fun k h1 => if k = true then b { D with nx := whileN t b n D, ct := whileN t b n D, bk := D.nx } σ h1 else D.nx σ h1) fun c h1 => D.ex c σ h1
@[simp] def sWhile (t : WT) (b : WS) : WS := fun D σ h => ∃ n, whileN t b n D σ h
def forR (chk : MH → Prop) (g : WG) (b : WS) : List MV → WS
  | [] => fun D σ h => chk h ∧ D.nx σ h
  | x :: xs => fun D σ h => chk h ∧ g x σ h (fun σ1 h1 => b { D with nx := forR chk g b xs D, ct := forR chk g b xs D, bk := D.nx } σ1 h1) fun c h1 => D.ex c σ h1
theorem forL_ex : ∃ f : (MH → Prop) → WG → WS → List MV → WS, f = forR := ⟨_, rfl⟩
noncomputable def forL : (MH → Prop) → WG → WS → List MV → WS := Classical.choose forL_ex
theorem forL_eq : forL = forR := Classical.choose_spec forL_ex
@[simp] noncomputable def sFor (i : WI) (g : WG) (b : WS) : WS := fun D σ h => i σ h (fun s h1 => forL s.chk g b s.xs D σ h1) fun c h1 => D.ex c σ h1
@[simp] def lstOf (h : MH) : MV → Option (List MV)
  | .ref r i => match rd h r i with
    | some (.lst xs) => some xs
    | _ => none
  | .cst xs => some xs
  | _ => none
/-! what is walked -/
@[simp] def iSeq (a : WE) : WI := fun σ h R E => a σ h (fun x h1 => match x with
  | .tup xs => R ⟨xs, fun _ => True⟩ h1
  | .cst xs => R ⟨xs, fun _ => True⟩ h1
  | .ref r i => match rd h1 r i with
    | some (.lst xs) => R ⟨xs, fun h' => rd h' r i = some (.lst xs)⟩ h1
    | _ => False
  | _ => False) E
def rng (lo : Int) (n : Nat) : List MV := (List.range n).map fun (k : Nat) => .int (lo + (k : Int))
def big (i : Int) : Prop := -(2 ^ 62) ≤ i ∧ i < 2 ^ 62
@[simp] def iRng1 (a : WE) : WI := fun σ h R E => a σ h (fun x h1 => match x with
  | .int j => big j ∧ R ⟨rng 0 j.toNat, fun _ => True⟩ h1
  | _ => False) E
@[simp] def iRng2 (a b : WE) : WI := fun σ h R E => a σ h (fun x h1 => b σ h1 (fun y h2 => match x, y with
  | .int i, .int j => big i ∧ big j ∧ R ⟨rng i (j - i).toNat, fun _ => True⟩ h2
  | _, _ => False) E) E
/-- zip of two lists, and enumerate of one -/
@[simp] def iZip (a b : WE) : WI := fun σ h R E => a σ h (fun x h1 => b σ h1 (fun y h2 => match lstOf h2 x, lstOf h2 y with
  | some xs, some ys => R ⟨(xs.zip ys).map fun p => .tup [p.1, p.2], fun h' => lstOf h' x = some xs ∧ lstOf h' y = some ys⟩ h2
  | _, _ => False) E) E
def enumF (n : Nat) : List MV → List MV
  | [] => []
  | x :: xs => .tup [.int n, x] :: enumF (n + 1) xs
@[simp] def iEnum (a : WE) : WI := fun σ h R E => a σ h (fun x h1 => match lstOf h1 x with
  | some xs => R ⟨enumF 0 xs, fun h' => lstOf h' x = some xs⟩ h1
  | none => False) E
/-! comprehensions -/
def compR (r : Nat) (chk : MH → Prop) (i : Nat) (t : WT) (e : WE) (σ : MS) (Q : QV) : List MV → List MV → MH → Prop
  | [], acc, h => chk h ∧ Q (.ref r (h r).length) (al h r (.lst acc))
  | x :: xs, acc, h => chk h ∧ t (σ.set i (some x)) h (fun k h2 => if k = true
      then e (σ.set i (some x)) h2 (fun v h3 => acc.length < lim ∧ compR r chk i t e σ Q xs (acc ++ [v]) h3) (fun _ _ => False)
      else compR r chk i t e σ Q xs acc h2) (fun _ _ => False)
theorem compL_ex : ∃ f : Nat → (MH → Prop) → Nat → WT → WE → MS → QV → List MV → List MV → MH → Prop, f = compR := ⟨_, rfl⟩
noncomputable def compL : Nat → (MH → Prop) → Nat → WT → WE → MS → QV → List MV → List MV → MH → Prop := Classical.choose compL_ex
theorem compL_eq : compL = compR := Classical.choose_spec compL_ex
@[simp] noncomputable def wComp (r : Nat) (w : WI) (i : Nat) (t : WT) (e : WE) : WE := fun σ h Q E => w σ h (fun s h1 => compL r s.chk i t e σ Q s.xs [] h1) E
/-! defs -/
@[simp] def fnM (np nl : Nat) (body : WS) : WF := fun vs h Q E => vs.length = np ∧
  body ⟨fun _ h' => Q .non h', Q, fun _ _ => False, fun _ _ => False, fun c _ h' => E c h'⟩ (vs.map some ++ List.replicate (nl - vs.length) none) h
/-! errors -/
@[simp] def isSub (c d : String) : Bool := c == d || d == "RingError" || d == "ValueError"
@[simp] def unset (i : Option Nat) (σ : MS) : MS := match i with
  | some i => σ.set i none
  | none => σ
@[simp] def bindE (i : Option Nat) (a : Nat) (σ : MS) : MS := match i with
  | some i => σ.set i (some (.exc a))
  | none => σ
@[simp] def suEn (i : Option Nat) (D : En) : En := { D with nx := fun σ2 h2 => D.nx (unset i σ2) h2, bk := fun σ2 h2 => D.bk (unset i σ2) h2, ct := fun σ2 h2 => D.ct (unset i σ2) h2, ex := fun _ _ _ => False }
@[simp] def tryEn (cs : List String) (i : Option Nat) (su : String → Nat → WS) (D : En) : En :=
  { D with ex := fun c σ1 h1 => if cs.any (isSub c) = true then ∀ a : Nat, su c a (suEn i D) (bindE i a σ1) h1 else D.ex c σ1 h1 }
@[simp] def sTry (b : WS) (cs : List String) (i : Option Nat) (su : String → Nat → WS) : WS := fun D σ h => b (tryEn cs i su D) σ h
/-- isinstance(e, ..) of the error of the suite -/
@[simp] def wIsE (i a : Nat) (b : Bool) : WE := fun σ h Q _ => σ[i]? = some (some (.exc a)) ∧ Q (.bl b) h
/-! built-ins -/
@[simp ↓] def bLen : List MV → MH → QV → Prop
  | [.tup xs], h, Q => xs.length ≤ lim ∧ Q (.int xs.length) h
  | [.cst xs], h, Q => Q (.int xs.length) h
  | [.str s], h, Q => s.length ≤ lim ∧ Q (.int s.length) h
  | [.ref r i], h, Q => match rd h r i with
    | some (.lst xs) => Q (.int xs.length) h
    | some (.dic kvs) => Q (.int kvs.length) h
    | _ => False
  | _, _, _ => False
@[simp ↓] def bInt : List MV → MH → QV → Prop
  | [.int i], h, Q => Q (.int i) h
  | [.bl b], h, Q => Q (.int (if b then 1 else 0)) h
  | _, _, _ => False
@[simp ↓] def bMin : List MV → MH → QV → Prop
  | [.int i, .int j], h, Q => Q (.int (if j < i then j else i)) h
  | _, _, _ => False
@[simp ↓] def bMax : List MV → MH → QV → Prop
  | [.int i, .int j], h, Q => Q (.int (if j > i then j else i)) h
  | _, _, _ => False
@[simp ↓] def bAbs : List MV → MH → QV → Prop
  | [.int i], h, Q => Q (.int (if i < 0 then -i else i)) h
  | _, _, _ => False
@[simp] def allB : List MV → Option (List Bool)
  | [] => some []
  | .bl b :: l => (allB l).map (b :: ·)
  | _ => none
@[simp] def allI : List MV → Option (List Int)
  | [] => some []
  | .int i :: l => (allI l).map (i :: ·)
  | _ => none
@[simp] def seqOf (h : MH) : MV → Option (List MV)
  | .tup xs => some xs
  | x => lstOf h x
@[simp ↓] def bAll : List MV → MH → QV → Prop
  | [x], h, Q => match (lstOf h x).bind allB with
    | some bs => Q (.bl (bs.all id)) h
    | none => False
  | _, _, _ => False
@[simp ↓] def bSum : List MV → MH → QV → Prop
  | [x], h, Q => match (lstOf h x).bind allI with
    | some ns => Q (.int ns.sum) h
    | none => False
  | _, _, _ => False
@[simp ↓] def bList (r : Nat) : List MV → MH → QV → Prop
  | [x], h, Q => match seqOf h x with
    | some xs => Q (.ref r (h r).length) (al h r (.lst xs))
    | none => False
  | _, _, _ => False
@[simp ↓] def bTuple : List MV → MH → QV → Prop
  | [x], h, Q => match seqOf h x with
    | some xs => Q (.tup xs) h
    | none => False
  | _, _, _ => False
/-- the type's name -/
@[simp] def tyN (h : MH) : MV → Option String
  | .non => some "NoneType" | .bl _ => some "bool" | .int _ => some "int" | .str _ => some "str" | .tup _ => some "tuple"
  | .ref r i => match rd h r i with
    | some (.lst _) => some "list"
    | _ => none
  | _ => none
@[simp] def tySub (a b : String) : Bool := a == b || (a == "bool" && b == "int")
@[simp] def bIsi (cs : List String) (a : WE) : WE := fun σ h Q E => a σ h (fun x h1 => match tyN h1 x with
  | some t => Q (.bl (cs.any (tySub t))) h1
  | none => False) E
/-! built-in methods -/
@[simp ↓] def mAppend : MV → List MV → MH → QV → Prop
  | .ref r i, [v], h, Q => match rd h r i with
    | some (.lst xs) => xs.length < lim ∧ Q .non (wr h r i (.lst (xs ++ [v])))
    | _ => False
  | _, _, _, _ => False
@[simp ↓] def mClear : MV → List MV → MH → QV → Prop
  | .ref r i, [], h, Q => match rd h r i with
    | some (.lst _) => Q .non (wr h r i (.lst []))
    | _ => False
  | _, _, _, _ => False
def mIndex : MV → List MV → MH → QV → Prop
  | x, [y], h, Q => match lstOf h x with
    | some xs => flat y = true ∧ xs.all flat = true ∧ true ∈ xs.map (fun m => eqF m y) ∧ xs.length ≤ lim ∧ Q (.int ((xs.map fun m => eqF m y).idxOf true)) h
    | none => False
  | _, _, _, _ => False
@[simp ↓] theorem mIndex_ref (r i : Nat) (y : MV) (h : MH) (Q : QV) : mIndex (.ref r i) [y] h Q = match rd h r i with
    | some (.lst xs) => flat y = true ∧ xs.all flat = true ∧ true ∈ xs.map (fun m => eqF m y) ∧ xs.length ≤ lim ∧ Q (.int ((xs.map fun m => eqF m y).idxOf true)) h
    | _ => False := by
  show (match lstOf h (.ref r i) with
    | some xs => flat y = true ∧ xs.all flat = true ∧ true ∈ xs.map (fun m => eqF m y) ∧ xs.length ≤ lim ∧ Q (.int ((xs.map fun m => eqF m y).idxOf true)) h
    | none => False) = _
  simp only [lstOf]
  cases rd h r i with
  | none => rfl
  | some o => cases o <;> rfl
/-- NAMES.index(e), NAMES a tuple of texts of the text -/
def wTupIx (ss : List String) (a : WE) : WE := fun σ h Q E => a σ h (fun x h1 => match x with
  | .str s => match ss.findIdx? fun t => decide (t = s) with
    | some n => Q (.int n) h1
    | none => False
  | _ => False) E
/-! ### simplification -/
@[simp ↓ high] theorem gx_zero {α : Type} (a : α) (l : List α) : (a :: l)[0]? = some a := rfl
@[simp ↓ high] theorem gx_succ {α : Type} (a : α) (l : List α) (n : Nat) : (a :: l)[n + 1]? = l[n]? := rfl
@[simp ↓ high] theorem gx_end {α : Type} (a : α) (l : List α) : (l ++ [a])[l.length]? = some a := by simp
@[simp] theorem put_same' (h : MH) (r : Nat) (l : List MO) : put h r l r = l := put_same h r l
@[simp] theorem put_ne' (h : MH) {r q : Nat} (l : List MO) (e : q ≠ r) : put h r l q = h q := put_ne h l e
@[simp] theorem rd_put (h : MH) (r i : Nat) (l : List MO) : rd (put h r l) r i = l[i]? := by unfold rd; rw [put_same]
@[simp] theorem rd_put_ne (h : MH) {r q i : Nat} (l : List MO) (e : q ≠ r) : rd (put h r l) q i = rd h q i := by unfold rd; rw [put_ne h l e]
@[simp] theorem put_put' (h : MH) (r : Nat) (l m : List MO) : put (put h r l) r m = put h r m := put_put h r l m
@[simp] theorem al_def (h : MH) (r : Nat) (o : MO) : al h r o = put h r (h r ++ [o]) := rfl
@[simp] theorem wr_def (h : MH) (r i : Nat) (o : MO) : wr h r i o = put h r ((h r).set i o) := rfl
@[simp] theorem dat_non (h : MH) (n : Nat) : dat h n .non = some .non := by cases n <;> rfl
@[simp] theorem dat_bl (h : MH) (n : Nat) (b : Bool) : dat h n (.bl b) = some (.bl b) := by cases n <;> rfl
@[simp] theorem dat_int (h : MH) (n : Nat) (i : Int) : dat h n (.int i) = some (.int i) := by cases n <;> rfl
@[simp] theorem dat_str (h : MH) (n : Nat) (s : String) : dat h n (.str s) = some (.str s) := by cases n <;> rfl
def datL (h : MH) (n : Nat) : List MV → Option (List PD)
  | [] => some []
  | x :: xs => match dat h n x, datL h n xs with
    | some d, some ds => some (d :: ds)
    | _, _ => none
theorem datL_eq (h : MH) (n : Nat) : ∀ xs : List MV, xs.mapM (dat h n) = datL h n xs
  | [] => rfl
  | x :: xs => by
    rw [List.mapM_cons, datL_eq h n xs]
    show _ = match dat h n x, datL h n xs with
    | some d, some ds => some (d :: ds)
    | _, _ => none
    generalize datL h n xs = a
    generalize dat h n x = b
    cases b <;> cases a <;> rfl
@[simp] theorem datL_nil (h : MH) (n : Nat) : datL h n [] = some [] := rfl
@[simp] theorem datL_cons (h : MH) (n : Nat) (x : MV) (xs : List MV) : datL h n (x :: xs) = match dat h n x, datL h n xs with
    | some d, some ds => some (d :: ds)
    | _, _ => none := rfl
@[simp] theorem dat_ref (h : MH) (r i : Nat) : dat h deep (.ref r i) = match rd h r i with
    | some (.lst xs) => (datL h 7 xs).map PD.lst
    | _ => none := by
  show (match rd h r i with
    | some (.lst xs) => (xs.mapM (dat h 7)).map PD.lst
    | _ => none) = _
  split
  · rw [datL_eq]
  · rfl
@[simp] theorem dat_tup (h : MH) (xs : List MV) : dat h deep (.tup xs) = (datL h 7 xs).map PD.tup := by rw [← datL_eq]; rfl
@[simp] theorem dat_ref7 (h : MH) (r i : Nat) : dat h 7 (.ref r i) = match rd h r i with
    | some (.lst xs) => (datL h 6 xs).map PD.lst
    | _ => none := by
  show (match rd h r i with
    | some (.lst xs) => (xs.mapM (dat h 6)).map PD.lst
    | _ => none) = _
  split
  · rw [datL_eq]
  · rfl
@[simp] theorem dat_tup7 (h : MH) (xs : List MV) : dat h 7 (.tup xs) = (datL h 6 xs).map PD.tup := by rw [← datL_eq]; rfl
theorem datL_ints (h : MH) (n : Nat) : ∀ ns : List Int, datL h n (ns.map .int) = some (ns.map .int)
  | [] => rfl
  | i :: ns => by simp [datL_ints h n ns]
@[simp] theorem eqv_int (i j : Int) : PD.eqv (.int i) (.int j) = decide (i = j) := by simp only [PD.eqv]
@[simp] theorem eqv_bl (i j : Bool) : PD.eqv (.bl i) (.bl j) = (i == j) := by simp only [PD.eqv]
@[simp] theorem eqv_str (i j : String) : PD.eqv (.str i) (.str j) = decide (i = j) := by simp only [PD.eqv]
@[simp] theorem eqv_non : PD.eqv .non .non = true := by simp only [PD.eqv]
@[simp] theorem eqv_tup (xs ys : List PD) : PD.eqv (.tup xs) (.tup ys) = PD.eqvs xs ys := by simp only [PD.eqv]
@[simp] theorem eqv_lst (xs ys : List PD) : PD.eqv (.lst xs) (.lst ys) = PD.eqvs xs ys := by simp only [PD.eqv]
@[simp] theorem eqvs_nn : PD.eqvs [] [] = true := by simp only [PD.eqvs]
@[simp] theorem eqvs_nc (y : PD) (ys : List PD) : PD.eqvs [] (y :: ys) = false := by simp only [PD.eqvs]
@[simp] theorem eqvs_cn (y : PD) (ys : List PD) : PD.eqvs (y :: ys) [] = false := by simp only [PD.eqvs]
@[simp] theorem eqvs_cc (x y : PD) (xs ys : List PD) : PD.eqvs (x :: xs) (y :: ys) = (PD.eqv x y && PD.eqvs xs ys) := by simp only [PD.eqvs]
theorem eqvs_ints : ∀ a b : List Int, PD.eqvs (a.map .int) (b.map .int) = decide (a = b)
  | [], [] => by simp
  | [], b :: bs => by simp
  | a :: as, [] => by simp
  | a :: as, b :: bs => by simp [eqvs_ints as bs]
@[simp] theorem compL_nil (r : Nat) (chk : MH → Prop) (i : Nat) (t : WT) (e : WE) (σ : MS) (Q : QV) (acc : List MV) (h : MH) : compL r chk i t e σ Q [] acc h = (chk h ∧ Q (.ref r (h r).length) (al h r (.lst acc))) := by rw [compL_eq]; rfl
@[simp] theorem compL_cons (r : Nat) (chk : MH → Prop) (i : Nat) (t : WT) (e : WE) (σ : MS) (Q : QV) (x : MV) (xs acc : List MV) (h : MH) : compL r chk i t e σ Q (x :: xs) acc h = (chk h ∧ t (σ.set i (some x)) h (fun k h2 => if k = true
      then e (σ.set i (some x)) h2 (fun v h3 => acc.length < lim ∧ compL r chk i t e σ Q xs (acc ++ [v]) h3) (fun _ _ => False)
      else compL r chk i t e σ Q xs acc h2) (fun _ _ => False)) := by rw [compL_eq]; rfl
/-- what comes behind a statement, not looked into yet -/
theorem kont_ex : ∃ f : WS → WS, ∀ b, f b = b := ⟨fun b => b, fun _ => rfl⟩
noncomputable def kont : WS → WS := Classical.choose kont_ex
theorem kont_eq (b : WS) : kont b = b := Classical.choose_spec kont_ex b
theorem sSeqK (a b : WS) (D : En) (σ : MS) (h : MH) : sSeq a b D σ h = a { D with nx := kont b D } σ h := by rw [kont_eq]; rfl
theorem seq_cut {a b : WS} {D : En} {σ : MS} {h : MH} (I : MS → MH → Prop) (ha : ∀ N : MS → MH → Prop, (∀ σ h, I σ h → N σ h) → a { D with nx := N } σ h) (hb : ∀ σ h, I σ h → b D σ h) : sSeq a b D σ h := ha (b D) hb
theorem rng3 : rng 0 3 = [.int 0, .int 1, .int 2] := rfl
theorem rng4 : rng 0 4 = [.int 0, .int 1, .int 2, .int 3] := rfl
theorem enumF_len : ∀ (n : Nat) (xs : List MV), (enumF n xs).length = xs.length
  | _, [] => rfl
  | n, x :: xs => by rw [enumF, List.length_cons, List.length_cons, enumF_len (n + 1) xs]
theorem enumF_at : ∀ (n : Nat) (xs : List MV) (i : Nat), (enumF n xs)[i]? = (xs[i]?).map fun x => .tup [.int ((n + i : Nat) : Int), x]
  | _, [], i => rfl
  | n, x :: xs, 0 => rfl
  | n, x :: xs, i + 1 => by
    rw [enumF, List.getElem?_cons_succ, List.getElem?_cons_succ, enumF_at (n + 1) xs i, show n + 1 + i = n + (i + 1) by omega]
theorem rng_at {lo : Int} {n j : Nat} {x : MV} (h : (rng lo n)[j]? = some x) : j < n ∧ x = .int (lo + j) := by
  unfold rng at h
  rw [List.getElem?_map] at h
  by_cases c : j < n
  · rw [List.getElem?_range c] at h; exact ⟨c, (Option.some.inj h).symm⟩
  · rw [List.getElem?_eq_none (by simpa using c)] at h; exact nomatch h
@[simp] theorem rng_size (lo : Int) (n : Nat) : (rng lo n).length = n := by simp [rng]
@[simp] theorem forL_nil (chk : MH → Prop) (g : WG) (b : WS) (D : En) (σ : MS) (h : MH) : forL chk g b [] D σ h = (chk h ∧ D.nx σ h) := by rw [forL_eq]; rfl
theorem forL_cons (chk : MH → Prop) (g : WG) (b : WS) (x : MV) (xs : List MV) (D : En) (σ : MS) (h : MH) :
    forL chk g b (x :: xs) D σ h = (chk h ∧ g x σ h (fun σ1 h1 => b { D with nx := forL chk g b xs D, ct := forL chk g b xs D, bk := D.nx } σ1 h1) fun c h1 => D.ex c σ h1) := by rw [forL_eq]; rfl
theorem ixN_nat (m n : Nat) : ixN m (n : Int) = if n < m then some n else none := by
  unfold ixN
  rw [if_pos (Int.natCast_nonneg n)]
  by_cases c : n < m
  · rw [if_pos c, if_pos (by omega)]; simp
  · rw [if_neg c, if_neg (by omega)]
theorem atI_nat {α : Type} (xs : List α) (n : Nat) : atI xs (n : Int) = xs[n]? := by
  unfold atI
  rw [ixN_nat]
  by_cases c : n < xs.length
  · rw [if_pos c]; rfl
  · rw [if_neg c, List.getElem?_eq_none (by omega)]; rfl
@[simp] theorem ixN_lit (m n : Nat) : ixN m (no_index (OfNat.ofNat n)) = if n < m then some n else none := ixN_nat m n
@[simp] theorem atI_lit {α : Type} (xs : List α) (n : Nat) : atI xs (no_index (OfNat.ofNat n)) = xs[n]? := atI_nat xs n
theorem atI_int {α : Type} (xs : List α) {i : Int} (h : 0 ≤ i) : atI xs i = xs[i.toNat]? := by
  rw [← atI_nat, Int.toNat_of_nonneg h]
/-- a for, by a word of the items that are taken; N: what a turn is to reach -/
theorem forL_inv {chk : MH → Prop} {i : Nat} {b : WS} {D : En} (I : Nat → MS → MH → Prop) : ∀ (xs : List MV) (k : Nat) (σ : MS) (h : MH), I k σ h → (∀ k σ h, I k σ h → chk h) →
    (∀ (j : Nat) (x : MV) (σ : MS) (h : MH) (N : MS → MH → Prop), xs[j]? = some x → I (k + j) σ h → (∀ σ h, I (k + j + 1) σ h → N σ h) → b { D with nx := N, ct := N, bk := D.nx } (σ.set i (some x)) h) →
    (∀ σ h, I (k + xs.length) σ h → D.nx σ h) → forL chk (gN i) b xs D σ h
  | [], k, σ, h, h0, hc, hs, hd => by rw [forL_nil]; exact ⟨hc k σ h h0, hd σ h h0⟩
  | x :: xs, k, σ, h, h0, hc, hs, hd => by
    rw [forL_cons]
    refine ⟨hc k σ h h0, ?_⟩
    refine hs 0 x σ h _ rfl h0 fun σ h hI => ?_
    refine forL_inv I xs (k + 1) σ h hI hc (fun j y σ h N e hI hN => ?_) fun σ h hI => ?_
    · have := hs (j + 1) y σ h N (by simpa using e) (by rw [show k + (j + 1) = k + 1 + j by omega]; exact hI)
      rw [show k + (j + 1) + 1 = k + 1 + j + 1 by omega] at this
      exact this hN
    · exact hd σ h (by rw [List.length_cons, show k + (xs.length + 1) = k + 1 + xs.length by omega]; exact hI)
/-- a while, by a word and a measure -/
theorem while_inv {t : WT} {b : WS} {D : En} (I : Nat → MS → MH → Prop) (hs : ∀ (n : Nat) (σ : MS) (h : MH) (N : MS → MH → Prop), I n σ h → (∀ m σ h, m < n → I m σ h → N σ h) →
    t σ h (fun k h1 => if k = true then b { D with nx := N, ct := N, bk := D.nx } σ h1 else D.nx σ h1) fun c h1 => D.ex c σ h1) (n : Nat) (σ : MS) (h : MH) (h0 : I n σ h) : whileN t b (n + 1) D σ h := by
  have go : ∀ (k n : Nat) (σ : MS) (h : MH), n < k → I n σ h → whileN t b k D σ h := fun k => by
    induction k with
    | zero => intro n σ h hk; omega
    | succ k ih =>
      intro n σ h hk hI
      exact hs n σ h _ hI fun m σ h hm hI => ih m σ h (by omega) hI
  exact go (n + 1) n σ h (Nat.lt_succ_self n) h0
theorem kont_go {b : WS} {D : En} {σ : MS} {h : MH} (p : b D σ h) : kont b D σ h := by rw [kont_eq]; exact p
theorem seq_cut2 {a b c : WS} {D : En} {σ : MS} {h : MH} (I : MS → MH → Prop) (ha : ∀ N : MS → MH → Prop, (∀ σ h, I σ h → N σ h) → sSeq a b { D with nx := N } σ h) (hb : ∀ σ h, I σ h → c D σ h) : sSeq a (sSeq b c) D σ h := ha (c D) hb
theorem seq_cut3 {a b c d : WS} {D : En} {σ : MS} {h : MH} (I : MS → MH → Prop) (ha : ∀ N : MS → MH → Prop, (∀ σ h, I σ h → N σ h) → sSeq a (sSeq b c) { D with nx := N } σ h) (hb : ∀ σ h, I σ h → d D σ h) : sSeq a (sSeq b (sSeq c d)) D σ h := ha (d D) hb
theorem seq_cut4 {a b c d e : WS} {D : En} {σ : MS} {h : MH} (I : MS → MH → Prop) (ha : ∀ N : MS → MH → Prop, (∀ σ h, I σ h → N σ h) → sSeq a (sSeq b (sSeq c d)) { D with nx := N } σ h) (hb : ∀ σ h, I σ h → e D σ h) : sSeq a (sSeq b (sSeq c (sSeq d e))) D σ h := ha (e D) hb
theorem seq_cut5 {a b c d e f : WS} {D : En} {σ : MS} {h : MH} (I : MS → MH → Prop) (ha : ∀ N : MS → MH → Prop, (∀ σ h, I σ h → N σ h) → sSeq a (sSeq b (sSeq c (sSeq d e))) { D with nx := N } σ h) (hb : ∀ σ h, I σ h → f D σ h) : sSeq a (sSeq b (sSeq c (sSeq d (sSeq e f)))) D σ h := ha (f D) hb
theorem seq_cut6 {a b c d e f g : WS} {D : En} {σ : MS} {h : MH} (I : MS → MH → Prop) (ha : ∀ N : MS → MH → Prop, (∀ σ h, I σ h → N σ h) → sSeq a (sSeq b (sSeq c (sSeq d (sSeq e f)))) { D with nx := N } σ h) (hb : ∀ σ h, I σ h → g D σ h) : sSeq a (sSeq b (sSeq c (sSeq d (sSeq e (sSeq f g))))) D σ h := ha (g D) hb
def tb1 (c : String) (F : WF) : String → Option WF := fun d => if d = c then some F else none
def tbO (a b : String → Option WF) : String → Option WF := fun d => match a d with
  | some F => some F
  | none => b d
@[simp ↓] theorem tb1_same (c : String) (F : WF) : tb1 c F c = some F := if_pos rfl
theorem tb1_ne {c d : String} (F : WF) (h : d ≠ c) : tb1 c F d = none := if_neg h
@[simp ↓] theorem tbO_def (a b : String → Option WF) (d : String) : tbO a b d = match a d with
  | some F => some F
  | none => b d := rfl
@[simp] theorem putF_nil (f : String) (v : MV) : putF f v [] = [(f, v)] := rfl
@[simp] theorem putF_cons (f g : String) (v w : MV) (l : List (String × MV)) : putF f v ((g, w) :: l) = if f = g then (g, v) :: l else (g, w) :: putF f v l := rfl
@[simp ↓ high] theorem look_cons (f g : String) (w : MV) (l : List (String × MV)) : List.lookup f ((g, w) :: l) = if f = g then some w else List.lookup f l := by
  rw [List.lookup_cons]
  by_cases c : f = g
  · rw [if_pos c, c, beq_self_eq_true]
  · rw [if_neg c, beq_eq_false_iff_ne.mpr c]
end Mi
end TxMini

section TxMini2
/-! Mini2: further words: what is never reached, every k-th item, slices stored, dicts displayed, sorted, list(range(..)), pop(i), insert. Own work. -/
set_option autoImplicit false
set_option linter.all false
namespace Mi
/-- what is never reached -/
@[simp] def wBad : WE := fun _ _ _ _ => False
@[simp] def sBad : WS := fun _ _ _ => False
/-- every k-th item -/
def everyK {α : Type} (k : Nat) (xs : List α) : List α := (List.range ((xs.length + k - 1) / k)).filterMap fun j => xs[k * j]?
@[simp] def evP (r k : Nat) (Q : QV) (x : MV) (u : Option Int) (h : MH) : Prop := match x with
  | .ref q j => match rd h q j with
    | some (.lst xs) => match u with
      | some i => 0 ≤ i ∧ Q (.ref r (h r).length) (al h r (.lst (everyK k (xs.take i.toNat))))
      | none => False
    | _ => False
  | _ => False
@[simp] def wEv (r k : Nat) (a : WE) (hi : WO) : WE := fun σ h Q E => a σ h (fun x h1 => hi σ h1 (fun u h2 => evP r k Q x u h2) E) E
/-- o[a:b] = a list -/
@[simp] def slP (Q : MH → Prop) (x v : MV) (a b : Option Int) (h : MH) : Prop := match x, v with
  | .ref r i, .ref q j => match rd h r i, rd h q j with
    | some (.lst xs), some (.lst ys) => match a, b with
      | some a, some b => (r ≠ q ∨ i ≠ j) ∧ 0 ≤ a ∧ a ≤ b ∧ b ≤ xs.length ∧ xs.length + ys.length ≤ lim ∧ Q (wr h r i (.lst (xs.take a.toNat ++ ys ++ xs.drop b.toNat)))
      | _, _ => False
    | _, _ => False
  | _, _ => False
@[simp] def gSl (o : WE) (lo hi : WO) : WG := fun v σ h Q E => o σ h (fun x h1 => lo σ h1 (fun a h2 => hi σ h2 (fun b h3 => slP (Q σ) x v a b h3) E) E) E
/-- a dict, its keys texts of the text -/
@[simp] def wDic (r : Nat) (ks : List String) (a : WA) : WE := fun σ h Q E => a σ h (fun vs h1 => Q (.ref r (h1 r).length) (al h1 r (.dic ((ks.map MV.str).zip vs)))) E
/-- sorted(xs), whole numbers -/
@[simp ↓] def bSorted (r : Nat) : List MV → MH → QV → Prop
  | [x], h, Q => match (lstOf h x).bind allI with
    | some ns => ∀ ms : List Int, ms.Perm ns → ms.Pairwise (· ≤ ·) → Q (.ref r (h r).length) (al h r (.lst (ms.map .int)))
    | none => False
  | _, _, _ => False
/-- list(range(..)) -/
@[simp] def wLRng (r : Nat) (a : WE) : WE := fun σ h Q E => a σ h (fun x h1 => match x with
  | .int n => -(lim : Int) ≤ n ∧ n ≤ lim ∧ Q (.ref r (h1 r).length) (al h1 r (.lst (rng 0 n.toNat)))
  | _ => False) E
@[simp ↓] def mPopAt : MV → List MV → MH → QV → Prop
  | .ref r i, [.int j], h, Q => match rd h r i with
    | some (.lst xs) => small j ∧ match ixN xs.length j, atI xs j with
      | some n, some v => Q v (wr h r i (.lst (xs.eraseIdx n)))
      | _, _ => False
    | _ => False
  | _, _, _, _ => False
@[simp ↓] def mInsert : MV → List MV → MH → QV → Prop
  | .ref r i, [.int j, v], h, Q => match rd h r i with
    | some (.lst xs) => xs.length < lim ∧ 0 ≤ j ∧ small j ∧ Q .non (wr h r i (.lst (xs.take j.toNat ++ [v] ++ xs.drop j.toNat)))
    | _ => False
  | _, _, _, _ => False
end Mi
end TxMini2

section TxMiniRel
set_option Elab.async false
set_option linter.all false
set_option autoImplicit false
set_option maxRecDepth 100000
set_option maxHeartbeats 4000000
namespace Mi
open PySem PySem.Spec PyProof.Rows L2

abbrev IA := Nat → List Addr
abbrev st (s : String) : Str := Str.ofString s
theorem st_inj {a b : String} (h : st a = st b) : a = b := by
  unfold st at h
  rw [Str.ofString_eq_toList, Str.ofString_eq_toList] at h
  have h1 : (a.toList.map Char.toNat).toArray = (b.toList.map Char.toNat).toArray := congrArg Str.cps h
  have h2 : a.toList.map Char.toNat = b.toList.map Char.toNat := by simpa using h1
  have h3 : a.toList = b.toList := List.map_inj_right (fun x y e => Char.ext (UInt32.toNat.inj e)) |>.mp h2
  exact String.toList_injective h3
/-- a tuple, a list that nobody changes -/
def SqC (K : PySem.W.Frag) (H : Hp) (a : Addr) (xs : List V) : Prop :=
  (∃ o, H a = some (.frz o (.lst xs))) ∨
    ∃ (o : Obj) (its : Array Value) (n : Nat), K.lookup a = some o ∧ o.cls = .type "list" ∧ o.dict = none ∧ o.data = .seq its n ∧ its.size ≤ sizeLine ∧ Vals xs its.toList
theorem SqC.l {K : PySem.W.Frag} {H : Hp} {a : Addr} {xs : List V} (h : SqC K H a xs) : SqL K H a xs := by
  rcases h with h | h
  · exact .inl (.inr h)
  · exact .inr h
mutual
def RV (K : PySem.W.Frag) (ι : IA) (H : Hp) : MV → V → Prop
  | .non, v => v = .non
  | .bl b, v => v = .bl b
  | .int i, v => v = .int i
  | .str s, v => v = .str (st s)
  | .tup xs, v => ∃ p vs, v = .ref p ∧ SqT K H p vs ∧ RVs K ι H xs vs
  | .cst xs, v => ∃ p vs, v = .ref p ∧ SqC K H p vs ∧ RVs K ι H xs vs
  | .ref r i, v => ∃ p, (ι r)[i]? = some p ∧ v = .ref p
  | .exc a, v => v = .ref a
def RVs (K : PySem.W.Frag) (ι : IA) (H : Hp) : List MV → List V → Prop
  | [], vs => vs = []
  | x :: xs, vs => ∃ v r, vs = v :: r ∧ RV K ι H x v ∧ RVs K ι H xs r
end
/-- a class's address -/
abbrev clA (K : PySem.W.Frag) (c : String) : Addr := He.ga K (st c)
/-- what is known of the text: the classes of instances, the names of their fields -/
structure Tx where
  K : PySem.W.Frag
  Cl : List String
  Fl : List String
  Er : List String
inductive KR : MV → Key → Prop where
  | int (i : Int) : KR (.int i) (.inl i)
  | str (s : String) : KR (.str s) (.inr (st s))
def OR (T : Tx) (ι : IA) (H : Hp) (p : Addr) : MO → Prop
  | .lst xs => ∃ vs, H p = some (.lst vs) ∧ RVs T.K ι H xs vs
  | .dic kvs => ∃ kws, H p = some (.dK kws) ∧ Paired (fun (m : MV × MV) (k : Key × V) => KR m.1 k.1 ∧ RV T.K ι H m.2 k.2) kvs kws
  | .ins c fs => c ∈ T.Cl ∧ (∀ p ∈ fs, p.1 ∈ T.Fl) ∧ ∃ dx fvs, H p = some (.ins (clA T.K c) dx fvs) ∧ Paired (fun (m : String × MV) (k : Str × V) => k.1 = st m.1 ∧ RV T.K ι H m.2 k.2) fs fvs
structure Rel (T : Tx) (ι : IA) (h : MH) (H : Hp) : Prop where
  len : ∀ r, (ι r).length = (h r).length
  obj : ∀ (r i : Nat) (o : MO) (p : Addr), (h r)[i]? = some o → (ι r)[i]? = some p → OR T ι H p o
  inj : ∀ (r i r' i' : Nat) (p : Addr), (ι r)[i]? = some p → (ι r')[i']? = some p → r = r' ∧ i = i'
structure Ext (ι : IA) (H : Hp) (ι' : IA) (H' : Hp) : Prop where
  pre : ∀ r, ∃ more, ι' r = ι r ++ more ∧ ∀ p ∈ more, H p = none
  oth : ∀ (p : Addr) (o : HO), H p = some o → (∀ (r i : Nat), (ι r)[i]? ≠ some p) → H' p = some o
section
variable {T : Tx} {ι ι' ι1 ι2 : IA} {h h' h1 h2 : MH} {H H' H1 H2 : Hp}
theorem OR.here {p : Addr} {o : MO} (x : OR T ι H p o) : ∃ O, H p = some O := by
  cases o with
  | lst xs => obtain ⟨_, e, _⟩ := x; exact ⟨_, e⟩
  | dic kvs => obtain ⟨_, e, _⟩ := x; exact ⟨_, e⟩
  | ins c fs => obtain ⟨_, _, _, _, e, _⟩ := x; exact ⟨_, e⟩
theorem OR.nfix {p : Addr} {o : MO} (x : OR T ι H p o) : (∀ xs, H p ≠ some (.tup xs)) ∧ ∀ a u, H p ≠ some (.frz a u) := by
  cases o with
  | lst xs => obtain ⟨_, e, _⟩ := x; rw [e]; exact ⟨fun _ z => (nomatch z), fun _ _ z => (nomatch z)⟩
  | dic kvs => obtain ⟨_, e, _⟩ := x; rw [e]; exact ⟨fun _ z => (nomatch z), fun _ _ z => (nomatch z)⟩
  | ins c fs => obtain ⟨_, _, _, _, e, _⟩ := x; rw [e]; exact ⟨fun _ z => (nomatch z), fun _ _ z => (nomatch z)⟩
theorem Rel.at_ (R : Rel T ι h H) {r i : Nat} {p : Addr} (e : (ι r)[i]? = some p) : ∃ o, (h r)[i]? = some o ∧ OR T ι H p o := by
  have hl := (List.getElem?_eq_some_iff.mp e).1
  rw [R.len] at hl
  exact ⟨_, List.getElem?_eq_getElem hl, R.obj r i _ p (List.getElem?_eq_getElem hl) e⟩
theorem Rel.of_rd (R : Rel T ι h H) {r i : Nat} {o : MO} (e : rd h r i = some o) : ∃ p, (ι r)[i]? = some p ∧ OR T ι H p o := by
  have hl := (List.getElem?_eq_some_iff.mp (show (h r)[i]? = some o from e)).1
  rw [← R.len] at hl
  exact ⟨_, List.getElem?_eq_getElem hl, R.obj r i _ _ e (List.getElem?_eq_getElem hl)⟩
theorem Rel.here (R : Rel T ι h H) {r i : Nat} {p : Addr} (e : (ι r)[i]? = some p) : ∃ O, H p = some O := (R.at_ e).elim fun _ x => x.2.here
theorem Rel.fresh (R : Rel T ι h H) {p : Addr} (hp : H p = none) : ∀ (r i : Nat), (ι r)[i]? ≠ some p := fun r i e => by
  obtain ⟨O, z⟩ := R.here e
  rw [hp] at z; cases z
theorem Ext.refl : Ext ι H ι H := ⟨fun _ => ⟨[], by simp, by simp⟩, fun _ _ e _ => e⟩
theorem Ext.ix (X : Ext ι H ι' H') {r i : Nat} {p : Addr} (e : (ι r)[i]? = some p) : (ι' r)[i]? = some p := by
  obtain ⟨m, hm, _⟩ := X.pre r
  rw [hm, List.getElem?_append_left (List.getElem?_eq_some_iff.mp e).1]
  exact e
theorem Ext.trans (R1 : Rel T ι1 h1 H1) (X : Ext ι H ι1 H1) (Y : Ext ι1 H1 ι2 H2) : Ext ι H ι2 H2 := by
  refine ⟨fun r => ?_, fun p o e n => ?_⟩
  · obtain ⟨m1, e1, n1⟩ := X.pre r
    obtain ⟨m2, e2, n2⟩ := Y.pre r
    refine ⟨m1 ++ m2, by rw [e2, e1, List.append_assoc], fun p hp => ?_⟩
    rcases List.mem_append.mp hp with z | z
    · exact n1 p z
    · have q := n2 p z
      cases w : H p with
      | none => rfl
      | some o =>
        by_cases c : ∀ (r i : Nat), (ι r)[i]? ≠ some p
        · rw [X.oth p o w c] at q; cases q
        · obtain ⟨r', c⟩ := Classical.not_forall.mp c
          obtain ⟨i', c⟩ := Classical.not_forall.mp c
          have c := X.ix (Classical.not_not.mp c)
          obtain ⟨O, z⟩ := R1.here c
          rw [q] at z; cases z
  · refine Y.oth p o (X.oth p o e n) fun r i z => ?_
    obtain ⟨m1, e1, n1⟩ := X.pre r
    rw [e1] at z
    by_cases hi : i < (ι r).length
    · rw [List.getElem?_append_left hi] at z
      exact n r i z
    · rw [List.getElem?_append_right (by omega)] at z
      rw [n1 p (List.mem_of_getElem? z)] at e
      cases e
theorem sqT_ext (R : Rel T ι h H) (X : Ext ι H ι' H') {p : Addr} {vs : List V} (e : L2.SqT T.K H p vs) : L2.SqT T.K H' p vs := by
  have nin : ∀ u, H p = Option.some u → (∃ xs, u = HO.tup xs) ∨ (∃ a w, u = HO.frz a w) → ∀ (r i : Nat), (ι r)[i]? ≠ Option.some p := fun u e1 k r i z => by
    obtain ⟨o, _, x⟩ := R.at_ z
    obtain ⟨n1, n2⟩ := x.nfix
    rcases k with ⟨xs, rfl⟩ | ⟨a, w, rfl⟩
    · exact n1 xs e1
    · exact n2 a w e1
  rcases e with (e | ⟨o, e⟩) | e
  · exact .inl (.inl (X.oth _ _ e (nin _ e (.inl ⟨_, rfl⟩))))
  · exact .inl (.inr ⟨o, X.oth _ _ e (nin _ e (.inr ⟨_, _, rfl⟩))⟩)
  · exact .inr e
theorem SqC.ext (R : Rel T ι h H) (X : Ext ι H ι' H') {p : Addr} {vs : List V} (e : SqC T.K H p vs) : SqC T.K H' p vs := by
  rcases e with ⟨o, e⟩ | e
  · refine .inl ⟨o, X.oth _ _ e fun r i z => ?_⟩
    obtain ⟨o', _, x⟩ := R.at_ z
    exact x.nfix.2 _ _ e
  · exact .inr e
mutual
theorem RV.ext (R : Rel T ι h H) (X : Ext ι H ι' H') : ∀ (m : MV) (v : V), RV T.K ι H m v → RV T.K ι' H' m v
  | .non, _, e => by unfold RV at e ⊢; exact e
  | .bl _, _, e => by unfold RV at e ⊢; exact e
  | .int _, _, e => by unfold RV at e ⊢; exact e
  | .str _, _, e => by unfold RV at e ⊢; exact e
  | .tup xs, _, e => by
    unfold RV at e ⊢
    obtain ⟨p, vs, e1, e2, e3⟩ := e
    exact ⟨p, vs, e1, sqT_ext R X e2, RVs.ext R X xs vs e3⟩
  | .cst xs, _, e => by
    unfold RV at e ⊢
    obtain ⟨p, vs, e1, e2, e3⟩ := e
    exact ⟨p, vs, e1, SqC.ext R X e2, RVs.ext R X xs vs e3⟩
  | .ref r i, _, e => by
    unfold RV at e ⊢
    obtain ⟨p, e1, e2⟩ := e
    exact ⟨p, X.ix e1, e2⟩
  | .exc _, _, e => by unfold RV at e ⊢; exact e
theorem RVs.ext (R : Rel T ι h H) (X : Ext ι H ι' H') : ∀ (ms : List MV) (vs : List V), RVs T.K ι H ms vs → RVs T.K ι' H' ms vs
  | [], _, e => by unfold RVs at e ⊢; exact e
  | m :: ms, _, e => by
    unfold RVs at e ⊢
    obtain ⟨v, r, e1, e2, e3⟩ := e
    exact ⟨v, r, e1, RV.ext R X m v e2, RVs.ext R X ms r e3⟩
end
theorem RVs.length {K : PySem.W.Frag} : ∀ {ms : List MV} {vs : List V}, RVs K ι H ms vs → ms.length = vs.length
  | [], _, e => by unfold RVs at e; rw [e] <;> rfl
  | m :: ms, _, e => by
    unfold RVs at e
    obtain ⟨v, r, e1, _, e3⟩ := e
    rw [e1, List.length_cons, List.length_cons, RVs.length e3]
theorem RVs.get {K : PySem.W.Frag} : ∀ {ms : List MV} {vs : List V} {i : Nat} {m : MV}, RVs K ι H ms vs → ms[i]? = some m → ∃ v, vs[i]? = some v ∧ RV K ι H m v
  | [], _, _, _, _, e => by simp at e
  | x :: ms, _, 0, m, e, e1 => by
    unfold RVs at e
    obtain ⟨v, r, rfl, e2, e3⟩ := e
    simp at e1; subst e1
    exact ⟨v, rfl, e2⟩
  | x :: ms, _, i + 1, m, e, e1 => by
    unfold RVs at e
    obtain ⟨v, r, rfl, e2, e3⟩ := e
    simpa using RVs.get (i := i) e3 (by simpa using e1)
theorem RVs.append {K : PySem.W.Frag} : ∀ {ms ns : List MV} {vs us : List V}, RVs K ι H ms vs → RVs K ι H ns us → RVs K ι H (ms ++ ns) (vs ++ us)
  | [], _, _, _, e, f => by unfold RVs at e; rw [e]; exact f
  | x :: ms, _, _, _, e, f => by
    unfold RVs at e
    obtain ⟨v, r, rfl, e2, e3⟩ := e
    show RVs K ι H (x :: (ms ++ _)) _
    unfold RVs
    exact ⟨v, r ++ _, rfl, e2, RVs.append e3 f⟩
theorem RVs.one {K : PySem.W.Frag} {m : MV} {v : V} (e : RV K ι H m v) : RVs K ι H [m] [v] := by
  unfold RVs
  exact ⟨v, [], rfl, e, by unfold RVs; rfl⟩
theorem RVs.cons {K : PySem.W.Frag} {m : MV} {v : V} {ms : List MV} {vs : List V} (e : RV K ι H m v) (f : RVs K ι H ms vs) : RVs K ι H (m :: ms) (v :: vs) := by
  unfold RVs
  exact ⟨v, vs, rfl, e, f⟩
theorem RVs.nil {K : PySem.W.Frag} : RVs K ι H [] [] := by
  unfold RVs
  rfl
theorem RVs.set {K : PySem.W.Frag} {m : MV} {v : V} (q : RV K ι H m v) : ∀ {ms : List MV} {vs : List V} (i : Nat), RVs K ι H ms vs → RVs K ι H (ms.set i m) (vs.set i v)
  | [], _, _, e => by unfold RVs at e; rw [e]; exact RVs.nil
  | x :: ms, _, 0, e => by
    unfold RVs at e
    obtain ⟨w, r, rfl, e2, e3⟩ := e
    exact RVs.cons q e3
  | x :: ms, _, i + 1, e => by
    unfold RVs at e
    obtain ⟨w, r, rfl, e2, e3⟩ := e
    exact RVs.cons e2 (RVs.set q i e3)
theorem RVs.take {K : PySem.W.Frag} : ∀ {ms : List MV} {vs : List V} (n : Nat), RVs K ι H ms vs → RVs K ι H (ms.take n) (vs.take n)
  | _, _, 0, _ => by simp [RVs.nil]
  | [], _, n + 1, e => by unfold RVs at e; rw [e]; exact RVs.nil
  | x :: ms, _, n + 1, e => by
    unfold RVs at e
    obtain ⟨w, r, rfl, e2, e3⟩ := e
    exact RVs.cons e2 (RVs.take n e3)
theorem RVs.drop {K : PySem.W.Frag} : ∀ {ms : List MV} {vs : List V} (n : Nat), RVs K ι H ms vs → RVs K ι H (ms.drop n) (vs.drop n)
  | _, _, 0, e => e
  | [], _, n + 1, e => by unfold RVs at e; rw [e]; exact RVs.nil
  | x :: ms, _, n + 1, e => by
    unfold RVs at e
    obtain ⟨w, r, rfl, e2, e3⟩ := e
    exact RVs.drop n e3
theorem Paired.imp {α β : Type} {F G : α → β → Prop} (f : ∀ a b, F a b → G a b) : ∀ {l : List α} {k : List β}, Paired F l k → Paired G l k
  | _, _, .nil => .nil
  | _, _, .cons x y => .cons (f _ _ x) (Paired.imp f y)
/-- what stands at p stays related where p itself is as it was -/
theorem OR.ext (R : Rel T ι h H) (X : Ext ι H ι' H') {p : Addr} {o : MO} (x : OR T ι H p o) (e : H' p = H p) : OR T ι' H' p o := by
  cases o with
  | lst xs =>
    obtain ⟨vs, e1, e2⟩ := x
    exact ⟨vs, e.trans e1, RVs.ext R X _ _ e2⟩
  | dic kvs =>
    obtain ⟨kws, e1, e2⟩ := x
    exact ⟨kws, e.trans e1, Paired.imp (fun a b q => ⟨q.1, RV.ext R X _ _ q.2⟩) e2⟩
  | ins c fs =>
    obtain ⟨hc, hf, dx, fvs, e1, e2⟩ := x
    exact ⟨hc, hf, dx, fvs, e.trans e1, Paired.imp (fun a b q => ⟨q.1, RV.ext R X _ _ q.2⟩) e2⟩
/-- a new object -/
def ia (ι : IA) (r : Nat) (p : Addr) : IA := fun q => if q = r then ι r ++ [p] else ι q
theorem ia_same (ι : IA) (r : Nat) (p : Addr) : ia ι r p r = ι r ++ [p] := if_pos rfl
theorem ia_ne (ι : IA) {r q : Nat} (p : Addr) (e : q ≠ r) : ia ι r p q = ι q := if_neg e
theorem ext_new (R : Rel T ι h H) {r : Nat} {p : Addr} {O : HO} (hp : H p = none) : Ext ι H (ia ι r p) (upd H p O) := by
  refine ⟨fun q => ?_, fun a o e n => ?_⟩
  · by_cases e : q = r
    · subst e
      exact ⟨[p], ia_same .., fun z hz => by rw [List.mem_singleton.mp hz]; exact hp⟩
    · exact ⟨[], by rw [ia_ne _ _ e]; simp, by simp⟩
  · rw [upd_ne (ne_of_none e hp)]; exact e
theorem rel_new (R : Rel T ι h H) {r : Nat} {p : Addr} {O : HO} {o : MO} (hp : H p = none) (ho : OR T (ia ι r p) (upd H p O) p o) : Rel T (ia ι r p) (al h r o) (upd H p O) := by
  have fr := R.fresh hp
  have X := ext_new (O := O) (r := r) R hp
  refine ⟨fun q => ?_, fun q i o' p' e1 e2 => ?_, fun q i q' i' p' e1 e2 => ?_⟩
  · unfold al
    by_cases e : q = r
    · subst e
      rw [ia_same, put_same, List.length_append, List.length_append, R.len]
      rfl
    · rw [ia_ne _ _ e, put_ne _ _ e, R.len]
  · have old : ∀ q, (ι q)[i]? = some p' → (h q)[i]? = some o' → OR T (ia ι r p) (upd H p O) p' o' := fun q z1 z2 => by
      refine (R.obj q i o' p' z2 z1).ext R X ?_
      rw [upd_ne]
      intro z; subst z
      exact fr q i z1
    by_cases e : q = r
    · subst e
      unfold al at e1
      rw [put_same] at e1
      rw [ia_same] at e2
      by_cases hi : i < (ι q).length
      · rw [List.getElem?_append_left hi] at e2
        rw [List.getElem?_append_left (by rw [← R.len]; exact hi)] at e1
        exact old q e2 e1
      · rw [List.getElem?_append_right (by omega)] at e2
        rw [List.getElem?_append_right (by rw [← R.len]; omega)] at e1
        have hj : i - (ι q).length = 0 := by
          have := (List.getElem?_eq_some_iff.mp e2).1
          simpa using this
        rw [hj] at e2
        rw [← R.len, hj] at e1
        simp at e1 e2
        subst e1; subst e2
        exact ho
    · unfold al at e1
      rw [put_ne _ _ e] at e1
      rw [ia_ne _ _ e] at e2
      exact old q e2 e1
  · have new : ∀ q i, (ia ι r p q)[i]? = some p' → (ι q)[i]? = some p' ∨ (q = r ∧ i = (ι r).length ∧ p' = p) := fun q i z => by
      by_cases e : q = r
      · subst e
        rw [ia_same] at z
        by_cases hi : i < (ι q).length
        · rw [List.getElem?_append_left hi] at z
          exact .inl z
        · rw [List.getElem?_append_right (by omega)] at z
          have hj : i - (ι q).length = 0 := by
            have := (List.getElem?_eq_some_iff.mp z).1
            simpa using this
          rw [hj] at z
          simp at z
          exact .inr ⟨rfl, by omega, z.symm⟩
      · rw [ia_ne _ _ e] at z
        exact .inl z
    rcases new q i e1 with z | ⟨z1, z2, z3⟩
    · rcases new q' i' e2 with w | ⟨w1, w2, w3⟩
      · exact R.inj _ _ _ _ _ z w
      · subst w3
        exact absurd z (fr _ _)
    · rcases new q' i' e2 with w | ⟨w1, w2, w3⟩
      · subst z3
        exact absurd w (fr _ _)
      · exact ⟨z1.trans w1.symm, z2.trans w2.symm⟩
/-- an object changed -/
theorem ext_wr (R : Rel T ι h H) {r i : Nat} {p : Addr} {O : HO} (hp : (ι r)[i]? = some p) : Ext ι H ι (upd H p O) := by
  refine ⟨fun q => ⟨[], by simp, by simp⟩, fun a o e n => ?_⟩
  rw [upd_ne]
  · exact e
  · intro z; subst z
    exact n r i hp
theorem rel_wr (R : Rel T ι h H) {r i : Nat} {p : Addr} {O : HO} {o : MO} (hp : (ι r)[i]? = some p) (ho : OR T ι (upd H p O) p o) : Rel T ι (wr h r i o) (upd H p O) := by
  have X := ext_wr (O := O) R hp
  refine ⟨fun q => ?_, fun q j o' p' e1 e2 => ?_, R.inj⟩
  · unfold wr
    by_cases e : q = r
    · subst e
      rw [put_same, List.length_set, R.len]
    · rw [put_ne _ _ e, R.len]
  · by_cases hpp : p' = p
    · subst hpp
      obtain ⟨rfl, rfl⟩ := R.inj _ _ _ _ _ e2 hp
      unfold wr at e1
      rw [put_same, List.getElem?_set_self] at e1
      · cases e1
        exact ho
      · rw [← R.len]
        exact (List.getElem?_eq_some_iff.mp hp).1
    · have old : (h q)[j]? = some o' := by
        unfold wr at e1
        by_cases e : q = r
        · subst e
          rw [put_same, List.getElem?_set_ne] at e1
          · exact e1
          · intro z; subst z
            rw [hp] at e2
            exact hpp (Option.some.inj e2).symm
        · rw [put_ne _ _ e] at e1
          exact e1
      exact (R.obj q j o' p' old e2).ext R X (upd_ne hpp)
end
/-! ### locals -/
def RS (T : Tx) (ι : IA) (H : Hp) (σm : MS) (σ : L2.St) : Prop := σm.length = σ.length ∧ ∀ (i : Nat) (m : MV), σm[i]? = some (some m) → ∃ v, σ[i]? = some (some v) ∧ RV T.K ι H m v
section
variable {T : Tx} {ι ι' : IA} {h h' : MH} {H H' : Hp} {σm : MS} {σ : L2.St}
theorem RS.ext (R : Rel T ι h H) (X : Ext ι H ι' H') (s : RS T ι H σm σ) : RS T ι' H' σm σ := ⟨s.1, fun i m e => let ⟨v, e1, e2⟩ := s.2 i m e; ⟨v, e1, RV.ext R X _ _ e2⟩⟩
theorem RS.set (s : RS T ι H σm σ) (i : Nat) {m : MV} {v : V} (q : RV T.K ι H m v) : RS T ι H (σm.set i (some m)) (σ.set i (some v)) := by
  refine ⟨by simpa using s.1, fun j m' e => ?_⟩
  by_cases hj : i = j
  · subst hj
    by_cases hl : i < σm.length
    · rw [List.getElem?_set_self hl] at e
      cases e
      exact ⟨v, List.getElem?_set_self (by rw [← s.1]; exact hl), q⟩
    · rw [List.getElem?_eq_none (by simpa using hl)] at e; cases e
  · rw [List.getElem?_set_ne hj] at e
    rw [List.getElem?_set_ne hj]
    exact s.2 j m' e
theorem RS.unset (s : RS T ι H σm σ) (i : Nat) : RS T ι H (σm.set i none) (σ.set i none) := by
  refine ⟨by simpa using s.1, fun j m' e => ?_⟩
  by_cases hj : i = j
  · subst hj
    by_cases hl : i < σm.length
    · rw [List.getElem?_set_self hl] at e
      cases e
    · rw [List.getElem?_eq_none (by simpa using hl)] at e; cases e
  · rw [List.getElem?_set_ne hj] at e
    rw [List.getElem?_set_ne hj]
    exact s.2 j m' e
end
/-! ### what is wanted behind -/
def PQ (T : Tx) (ι : IA) (H : Hp) (Qm : QV) (Q : VK) : Prop := ∀ v h', Qm v h' → ∀ ι' H' u, Rel T ι' h' H' → Ext ι H ι' H' → RV T.K ι' H' v u → Q u H'
def PX (T : Tx) (ι : IA) (H : Hp) (Em : QX) (E : XK) : Prop := ∀ c h', c ∈ T.Er → Em c h' → ∀ ι' H', Rel T ι' h' H' → Ext ι H ι' H' → E (.ref (clA T.K c)) none H'
def PP (T : Tx) (ι : IA) (H : Hp) (Qm : MS → MH → Prop) (Q : L2.St → Hp → Prop) : Prop := ∀ σm h', Qm σm h' → ∀ ι' H' σ, Rel T ι' h' H' → Ext ι H ι' H' → RS T ι' H' σm σ → Q σ H'
def PXS (T : Tx) (ι : IA) (H : Hp) (Em : String → MS → MH → Prop) (W : WX) : Prop := ∀ c σm h', c ∈ T.Er → Em c σm h' → ∀ ι' H' σ, Rel T ι' h' H' → Ext ι H ι' H' → RS T ι' H' σm σ → W (.ref (clA T.K c)) none σ H'
structure PEn (T : Tx) (ι : IA) (H : Hp) (Dm : En) (D : Ends) (W : WX) : Prop where
  nx : PP T ι H Dm.nx D.nx
  rt : PQ T ι H Dm.rt D.rt
  bk : PP T ι H Dm.bk D.bk
  ct : PP T ι H Dm.ct D.ct
  ex : PXS T ι H Dm.ex W
section
variable {T : Tx} {ι ι' : IA} {h h' : MH} {H H' : Hp} {σm : MS} {σ : L2.St}
theorem PQ.ext {Qm : QV} {Q : VK} (R : Rel T ι' h' H') (X : Ext ι H ι' H') (p : PQ T ι H Qm Q) : PQ T ι' H' Qm Q := fun v h1 q ι1 H1 u R1 X1 r => p v h1 q ι1 H1 u R1 (Ext.trans R X X1) r
theorem PX.ext {Em : QX} {E : XK} (R : Rel T ι' h' H') (X : Ext ι H ι' H') (p : PX T ι H Em E) : PX T ι' H' Em E := fun c h1 hc q ι1 H1 R1 X1 => p c h1 hc q ι1 H1 R1 (Ext.trans R X X1)
theorem PP.ext {Qm : MS → MH → Prop} {Q : L2.St → Hp → Prop} (R : Rel T ι' h' H') (X : Ext ι H ι' H') (p : PP T ι H Qm Q) : PP T ι' H' Qm Q := fun v h1 q ι1 H1 u R1 X1 r => p v h1 q ι1 H1 u R1 (Ext.trans R X X1) r
theorem PXS.ext {Em : String → MS → MH → Prop} {W : WX} (R : Rel T ι' h' H') (X : Ext ι H ι' H') (p : PXS T ι H Em W) : PXS T ι' H' Em W := fun c s h1 hc q ι1 H1 σ R1 X1 r => p c s h1 hc q ι1 H1 σ R1 (Ext.trans R X X1) r
theorem PEn.ext {Dm : En} {D : Ends} {W : WX} (R : Rel T ι' h' H') (X : Ext ι H ι' H') (p : PEn T ι H Dm D W) : PEn T ι' H' Dm D W := ⟨p.nx.ext R X, p.rt.ext R X, p.bk.ext R X, p.ct.ext R X, p.ex.ext R X⟩
theorem PXS.at_ {Em : String → MS → MH → Prop} {W : WX} (R : Rel T ι h H) (s : RS T ι H σm σ) (p : PXS T ι H Em W) : PX T ι H (fun c h1 => Em c σm h1) (L2.WE W σ) := fun c h1 hc q ι1 H1 R1 X1 => p c σm h1 hc q ι1 H1 σ R1 X1 (s.ext R X1)
end
/-! ### canonical readings -/
def canE (T : Tx) (W : WX) (m : WE) : TE := fun σ H Q => ∃ ι h σm Qm Em, Rel T ι h H ∧ RS T ι H σm σ ∧ PQ T ι H Qm Q ∧ PX T ι H Em (L2.WE W σ) ∧ m σm h Qm Em
def canT (T : Tx) (W : WX) (m : WT) : TT := fun σ H Q => ∃ ι h σm Qm Em, Rel T ι h H ∧ RS T ι H σm σ ∧ (∀ (k : Bool) h', Qm k h' → ∀ ι' H', Rel T ι' h' H' → Ext ι H ι' H' → Q k H') ∧ PX T ι H Em (L2.WE W σ) ∧ m σm h Qm Em
def canA (T : Tx) (W : WX) (m : WA) : TA := fun σ H Q => ∃ ι h σm Qm Em, Rel T ι h H ∧ RS T ι H σm σ ∧ (∀ ms h', Qm ms h' → ∀ ι' H' vs, Rel T ι' h' H' → Ext ι H ι' H' → RVs T.K ι' H' ms vs → Q vs H') ∧ PX T ι H Em (L2.WE W σ) ∧ m σm h Qm Em
def canS (T : Tx) (W : WX) (m : WS) : TS := fun D σ H => ∃ ι h σm Dm, Rel T ι h H ∧ RS T ι H σm σ ∧ PEn T ι H Dm D W ∧ m Dm σm h
end Mi
end TxMiniRel

section TxMiniE
set_option Elab.async false
set_option linter.all false
set_option autoImplicit false
set_option maxRecDepth 100000
set_option maxHeartbeats 4000000
namespace Mi
open PySem PySem.Spec PyProof.Rows L2
section
variable {T : Tx} {X : Cx} {W : WX} {a b e : Expr} {pos : Pos} {ma mb mc me : WE}
/-! ### weaker readings -/
theorem PE.le {t t' : TE} (h : PE X e t) (le : ∀ σ H Q, t' σ H Q → t σ H Q) : PE X e t' := ⟨fun pins s σ H Q I q => h.run pins s σ H Q I (le _ _ _ q)⟩
theorem PT.le {t t' : TT} (h : PT X e t) (le : ∀ σ H Q, t' σ H Q → t σ H Q) : PT X e t' := ⟨fun pins s σ H Q I q => h.run pins s σ H Q I (le _ _ _ q)⟩
theorem PW.le {t t' : TT} (h : PW X e t) (le : ∀ σ H Q, t' σ H Q → t σ H Q) : PW X e t' := ⟨fun wh pins s σ H Q I q => h.run wh pins s σ H Q I (le _ _ _ q)⟩
theorem PA.le {es : List Expr} {t t' : TA} (h : PA X es t) (le : ∀ σ H Q, t' σ H Q → t σ H Q) : PA X es t' := ⟨fun p pins s σ H Q I q => h.run p pins s σ H Q I (le _ _ _ q)⟩
theorem PS.le {c : Stmt} {t t' : TS} (h : PS X c t) (le : ∀ D σ H, t' D σ H → t D σ H) : PS X c t' := ⟨fun pins s σ H D I q => h.run pins s σ H D I (le _ _ _ q)⟩
theorem PSs.le {c : List Stmt} {t t' : TS} (h : PSs X c t) (le : ∀ D σ H, t' D σ H → t D σ H) : PSs X c t' := ⟨fun pins s σ H D I q => h.run pins s σ H D I (le _ _ _ q)⟩
/-- a reading in continuation -/
theorem canE_mk {σ : L2.St} {H : Hp} {Q : VK} {ι : IA} {h : MH} {σm : MS} {Qm : QV} {Em : QX} (R : Rel T ι h H) (s : RS T ι H σm σ) (x : PX T ι H Em (L2.WE W σ)) (m : me σm h Qm Em)
    (k : ∀ v h', Qm v h' → ∀ ι' H' u, Rel T ι' h' H' → Ext ι H ι' H' → RS T ι' H' σm σ → PX T ι' H' Em (L2.WE W σ) → RV T.K ι' H' v u → Q u H') : canE T W me σ H Q :=
  ⟨ι, h, σm, Qm, Em, R, s, fun v h' q ι' H' u R' X' r => k v h' q ι' H' u R' X' (s.ext R X') (x.ext R' X') r, x, m⟩
/-! ### names, constants -/
theorem e_var {i : Nat} (h : PE X e (L2.tVar i)) : PE X e (canE T W (wV i)) := PE.le h fun σ H Q ⟨ι, h, σm, Qm, Em, R, s, q, x, m⟩ => by
  unfold wV at m
  split at m
  · rename_i v e
    obtain ⟨u, e1, e2⟩ := s.2 i v e
    exact ⟨u, e1, q v h m ι H u R Ext.refl e2⟩
  · exact m.elim
theorem e_con {v : MV} {u : V} (h : PE X e (tC u)) (r : ∀ ι H, RV T.K ι H v u) : PE X e (canE T W (wC v)) := PE.le h fun σ H Q ⟨ι, h, σm, Qm, Em, R, s, q, x, m⟩ => q v h m ι H u R Ext.refl (r ι H)
theorem e_int {i : Int} {j} : PE X (.Constant (.int i) j pos) (canE T W (wC (.int i))) := e_con pe_int fun _ _ => by unfold RV; rfl
theorem e_bl {i : Bool} {j} : PE X (.Constant (.bool i) j pos) (canE T W (wC (.bl i))) := e_con pe_bl fun _ _ => by unfold RV; rfl
theorem e_non {j} : PE X (.Constant .none j pos) (canE T W (wC .non)) := e_con pe_non fun _ _ => by unfold RV; rfl
theorem e_str {s : String} {j} : PE X (.Constant (.str (Str.ofString s)) j pos) (canE T W (wC (.str s))) := e_con pe_str fun _ _ => by unfold RV; rfl
/-! ### operators -/
def canR (T : Tx) (o : Op2) : R2 := fun x y H Q => ∃ ι h mx my Qm, Rel T ι h H ∧ RV T.K ι H mx x ∧ RV T.K ι H my y ∧ PQ T ι H Qm Q ∧ o mx my h Qm
def canU (T : Tx) (o : Op1) : V → Hp → VK → Prop := fun x H Q => ∃ ι h mx Qm, Rel T ι h H ∧ RV T.K ι H mx x ∧ PQ T ι H Qm Q ∧ o mx h Qm
theorem rd_op {o : Op2} {σ : L2.St} {H : Hp} {Q : VK} (c : canE T W (wOp o ma mb) σ H Q) : tOp (canR T o) (canE T W ma) (canE T W mb) σ H Q := by
  obtain ⟨ι, h, σm, Qm, Em, R, s, q, x, m⟩ := c
  refine canE_mk R s x m fun v h1 m1 ι1 H1 u R1 X1 s1 x1 r1 => ?_
  refine canE_mk R1 s1 x1 m1 fun w h2 m2 ι2 H2 z R2 X2 s2 x2 r2 => ?_
  exact ⟨ι2, h2, v, w, Qm, R2, RV.ext R1 X2 _ _ r1, r2, (q.ext R1 X1).ext R2 X2, m2⟩
theorem e_op {op : Operator} {o : Op2} (ho : OpR X (binaryOp op) (canR T o)) (ha : PE X a (canE T W ma)) (hb : PE X b (canE T W mb)) : PE X (.BinOp a op b pos) (canE T W (wOp o ma mb)) :=
  PE.le (pe_op ho ha hb) fun _ _ _ c => rd_op c
theorem e_cmp {op : CmpOp} {o : Op2} (ho : OpR X (compareOp op) (canR T o)) (ha : PE X a (canE T W ma)) (hb : PE X b (canE T W mb)) (hm : behindInMarks op b = false) : PE X (.Compare a [op] [b] pos) (canE T W (wOp o ma mb)) :=
  PE.le (pe_cmpR ho ha hb hm) fun _ _ _ c => rd_op c
theorem e_un {op : UnaryOp} {o : Op1} (ho : UnR X (unaryOp op) (canU T o)) (ha : PE X a (canE T W ma)) : PE X (.UnaryOp op a pos) (canE T W (wUn o ma)) :=
  PE.le (pe_un ho ha) fun _ _ _ ⟨ι, h, σm, Qm, Em, R, s, q, x, m⟩ => canE_mk R s x m fun v h1 m1 ι1 H1 u R1 X1 s1 x1 r1 => ⟨ι1, h1, v, Qm, R1, r1, q.ext R1 X1, m1⟩
/-! tests -/
theorem t_val_rd {σ : L2.St} {H : Hp} {Q : Bool → Hp → Prop} {t : TE} (ht : ∀ σ H Q, canE T W me σ H Q → t σ H Q) (c : canT T W (tV me) σ H Q) : tTest t σ H Q := by
  obtain ⟨ι, h, σm, Qm, Em, R, s, q, x, m⟩ := c
  refine ht _ _ _ (canE_mk R s x m fun v h1 m1 ι1 H1 u R1 X1 s1 x1 r1 => ?_)
  cases v with
  | bl k =>
    unfold RV at r1
    exact ⟨k, r1, q k h1 m1 ι1 H1 R1 X1⟩
  | _ => exact m1.elim
theorem t_cmp {op : CmpOp} {o : Op2} (ho : OpR X (compareOp op) (canR T o)) (ha : PE X a (canE T W ma)) (hb : PE X b (canE T W mb)) (hm : behindInMarks op b = false) : PT X (.Compare a [op] [b] pos) (canT T W (tV (wOp o ma mb))) :=
  PT.le (pt_cmpR ho ha hb hm) fun _ _ _ c => t_val_rd (fun _ _ _ c => rd_op c) c
theorem rd_chain {o o' : Op2} {σ : L2.St} {H : Hp} {Q : VK} (c : canE T W (wChain o o' ma mb mc) σ H Q) : L2.tChain (canR T o) (canR T o') (canE T W ma) (canE T W mb) (canE T W mc) σ H Q := by
  obtain ⟨ι, h, σm, Qm, Em, R, s, q, x, m⟩ := c
  refine canE_mk R s x m fun v h1 m1 ι1 H1 u R1 X1 s1 x1 r1 => ?_
  refine canE_mk R1 s1 x1 m1 fun w h2 m2 ι2 H2 z R2 X2 s2 x2 r2 => ?_
  have q2 := (q.ext R1 X1).ext R2 X2
  refine ⟨ι2, h2, v, w, _, R2, RV.ext R1 X2 _ _ r1, r2, ?_, m2⟩
  intro y h3 m3 ι3 H3 y' R3 X3 r3
  cases y with
  | bl k =>
    unfold RV at r3
    refine ⟨k, r3, ?_⟩
    cases k with
    | false => exact q2 _ _ m3 _ _ _ R3 X3 (by unfold RV; rfl)
    | true =>
      refine canE_mk R3 (s2.ext R2 X3) (x2.ext R3 X3) m3 fun w' h4 m4 ι4 H4 z' R4 X4 s4 x4 r4 => ?_
      exact ⟨ι4, h4, w, w', Qm, R4, RV.ext R3 X4 _ _ (RV.ext R2 X3 _ _ r2), r4, (q2.ext R3 X3).ext R4 X4, m4⟩
  | _ => exact m3.elim
theorem e_chain {c : Expr} {op op' : CmpOp} {o o' : Op2} (ho : OpR X (compareOp op) (canR T o)) (ho' : OpR X (compareOp op') (canR T o')) (ha : PE X a (canE T W ma)) (hb : PE X b (canE T W mb)) (hc : PE X c (canE T W mc))
    (hm : lastMarks [op, op'] [b, c] = false) : PE X (.Compare a [op, op'] [b, c] pos) (canE T W (wChain o o' ma mb mc)) := PE.le (pe_chain ho ho' ha hb hc hm) fun _ _ _ c => rd_chain c
theorem t_chain {c : Expr} {op op' : CmpOp} {o o' : Op2} (ho : OpR X (compareOp op) (canR T o)) (ho' : OpR X (compareOp op') (canR T o')) (ha : PE X a (canE T W ma)) (hb : PE X b (canE T W mb)) (hc : PE X c (canE T W mc))
    (hm : lastMarks [op, op'] [b, c] = false) : PT X (.Compare a [op, op'] [b, c] pos) (canT T W (tV (wChain o o' ma mb mc))) := PT.le (pt_chain ho ho' ha hb hc hm) fun _ _ _ c => t_val_rd (fun _ _ _ c => rd_chain c) c
variable {ta tb : WT}
theorem canT_mk {σ : L2.St} {H : Hp} {Q : Bool → Hp → Prop} {ι : IA} {h : MH} {σm : MS} {Qm : Bool → MH → Prop} {Em : QX} (R : Rel T ι h H) (s : RS T ι H σm σ) (x : PX T ι H Em (L2.WE W σ)) (m : ta σm h Qm Em)
    (k : ∀ v h', Qm v h' → ∀ ι' H', Rel T ι' h' H' → Ext ι H ι' H' → RS T ι' H' σm σ → PX T ι' H' Em (L2.WE W σ) → Q v H') : canT T W ta σ H Q :=
  ⟨ι, h, σm, Qm, Em, R, s, fun v h' q ι' H' R' X' => k v h' q ι' H' R' X' (s.ext R X') (x.ext R' X'), x, m⟩
theorem qT_ext {ι ι1 : IA} {h1 : MH} {H H1 : Hp} {Qm : Bool → MH → Prop} {Q : Bool → Hp → Prop} (R1 : Rel T ι1 h1 H1) (X1 : Ext ι H ι1 H1) (q : ∀ (k : Bool) h', Qm k h' → ∀ ι' H', Rel T ι' h' H' → Ext ι H ι' H' → Q k H') :
    ∀ (k : Bool) h', Qm k h' → ∀ ι' H', Rel T ι' h' H' → Ext ι1 H1 ι' H' → Q k H' := fun k h' m ι' H' R' X' => q k h' m ι' H' R' (Ext.trans R1 X1 X')
theorem t_and1 (ha : PT X a (canT T W ta)) : PW X (.BoolOp .And [a] pos) (canT T W ta) := pw_and1 ha
theorem t_or1 (ha : PT X a (canT T W ta)) : PW X (.BoolOp .Or [a] pos) (canT T W ta) := pw_or1 ha
theorem t_and {r : List Expr} (ha : PT X a (canT T W ta)) (hb : PW X (.BoolOp .And (b :: r) pos) (canT T W tb)) : PW X (.BoolOp .And (a :: b :: r) pos) (canT T W (tAnd ta tb)) :=
  PW.le (pw_and ha hb) fun σ H Q ⟨ι, h, σm, Qm, Em, R, s, q, x, m⟩ => canT_mk R s x m fun k h1 m1 ι1 H1 R1 X1 s1 x1 => by
    cases k with
    | true => exact ⟨ι1, h1, σm, Qm, Em, R1, s1, qT_ext R1 X1 q, x1, m1⟩
    | false => exact q _ _ m1 _ _ R1 X1
theorem t_or {r : List Expr} (ha : PT X a (canT T W ta)) (hb : PW X (.BoolOp .Or (b :: r) pos) (canT T W tb)) : PW X (.BoolOp .Or (a :: b :: r) pos) (canT T W (tOr ta tb)) :=
  PW.le (pw_or ha hb) fun σ H Q ⟨ι, h, σm, Qm, Em, R, s, q, x, m⟩ => canT_mk R s x m fun k h1 m1 ι1 H1 R1 X1 s1 x1 => by
    cases k with
    | false => exact ⟨ι1, h1, σm, Qm, Em, R1, s1, qT_ext R1 X1 q, x1, m1⟩
    | true => exact q _ _ m1 _ _ R1 X1
theorem t_not (ha : PT X a (canT T W ta)) : PT X (.UnaryOp .Not a pos) (canT T W (tNot ta)) :=
  PT.le (pt_not ha) fun σ H Q ⟨ι, h, σm, Qm, Em, R, s, q, x, m⟩ => canT_mk R s x m fun k h1 m1 ι1 H1 R1 X1 s1 x1 => q _ _ m1 _ _ R1 X1
theorem rvs_empty {K : PySem.W.Frag} {ι : IA} {H : Hp} {ms : List MV} {vs : List V} (r : RVs K ι H ms vs) : ms.isEmpty = vs.isEmpty := by
  have := r.length
  cases ms <;> cases vs <;> first | rfl | simp at this
theorem st_len (s : String) : (st s).length = s.length := by
  unfold st
  rw [Str.ofString_eq_toList]
  show (s.toList.map Char.toNat).toArray.size = _
  rw [List.size_toArray, List.length_map]
  exact String.length_toList
theorem lim_le : lim ≤ sizeLine := by rw [sizeLine_eq]; unfold lim; omega
theorem tru_ok {ι : IA} {h : MH} {H : Hp} {v : MV} {u : V} {k : Bool} (R : Rel T ι h H) (r : RV T.K ι H v u) (e : tru h v = some k) : TruV T.K u H k := by
  cases v with
  | non => unfold RV at r; subst r; unfold tru at e; cases e; rfl
  | bl b => unfold RV at r; subst r; unfold tru at e; cases e; rfl
  | int i =>
    unfold RV at r; subst r; unfold tru at e; cases e
    show _ = (i != 0)
    by_cases c : i = 0 <;> simp [c]
  | str s =>
    unfold RV at r; subst r
    have e : (if s.length ≤ lim then some (decide (s ≠ "")) else none) = some k := e
    split at e
    · rename_i hl
      cases e
      refine ⟨by rw [st_len]; exact Nat.le_trans hl lim_le, ?_⟩
      rw [st_len]
      by_cases c : s = ""
      · subst c; rfl
      · have : s.length ≠ 0 := fun z => c (by simpa using z)
        simp [c]
    · cases e
  | tup xs =>
    unfold RV at r; obtain ⟨p, vs, rfl, e1, e2⟩ := r
    unfold tru at e; cases e
    exact .inr (.inl ⟨vs, e1, by rw [rvs_empty e2]⟩)
  | cst xs =>
    unfold RV at r; obtain ⟨p, vs, rfl, e1, e2⟩ := r
    unfold tru at e; cases e
    exact .inl ⟨vs, e1.l, by rw [rvs_empty e2]⟩
  | ref q i =>
    unfold RV at r; obtain ⟨p, e0, rfl⟩ := r
    have e : (match rd h q i with
      | some (.lst xs) => some (!xs.isEmpty)
      | some (.dic kvs) => some (!kvs.isEmpty)
      | _ => none) = some k := e
    split at e
    · rename_i xs hq
      cases e
      obtain ⟨p', e1, vs, e2, e3⟩ := R.of_rd hq
      rw [e0] at e1; cases e1
      exact .inl ⟨vs, SqL.of e2, by rw [rvs_empty e3]⟩
    · rename_i kvs hq
      cases e
      obtain ⟨p', e1, kws, e2, e3⟩ := R.of_rd hq
      rw [e0] at e1; cases e1
      exact .inr (.inr ⟨kws, e2, by cases e3 <;> rfl⟩)
    · cases e
  | exc _ => unfold tru at e; cases e
theorem t_tru (hK : X.K = T.K) (ha : PE X a (canE T W ma)) (he : ∀ whole, isTrue a X.env whole = (do let v ← whole; standAt a.pos; holding [v] (truthy v))) : PT X a (canT T W (tTru ma)) :=
  PT.le (pt_truth ha he) fun σ H Q ⟨ι, h, σm, Qm, Em, R, s, q, x, m⟩ => canE_mk R s x m fun v h1 m1 ι1 H1 u R1 X1 s1 x1 r1 => by
    have m1 : (match tru h1 v with | some k => Qm k h1 | none => False) := m1
    cases e : tru h1 v with
    | none => rw [e] at m1; exact m1.elim
    | some k =>
      rw [e] at m1
      exact ⟨k, by rw [hK]; exact tru_ok R1 r1 e, q k h1 m1 ι1 H1 R1 X1⟩
theorem e_if {c : Expr} (hc : PT X c (canT T W ta)) (ha : PE X a (canE T W ma)) (hb : PE X b (canE T W mb)) : PE X (.IfExp c a b pos) (canE T W (wIf ta ma mb)) :=
  PE.le (pe_ifExp hc ha hb) fun σ H Q ⟨ι, h, σm, Qm, Em, R, s, q, x, m⟩ => canT_mk R s x m fun k h1 m1 ι1 H1 R1 X1 s1 x1 => by
    cases k with
    | true => exact ⟨ι1, h1, σm, Qm, Em, R1, s1, q.ext R1 X1, x1, m1⟩
    | false => exact ⟨ι1, h1, σm, Qm, Em, R1, s1, q.ext R1 X1, x1, m1⟩
theorem e_one {op} (h : PE X a (canE T W ma)) : PE X (.BoolOp op [a] pos) (canE T W ma) := pe_one h
theorem e_and {r : List Expr} (ha : PE X a (canE T W ma)) (hb : PE X (.BoolOp .And (b :: r) pos) (canE T W mb)) : PE X (.BoolOp .And (a :: b :: r) pos) (canE T W (wAndV ma mb)) :=
  PE.le (pe_and ha hb) fun σ H Q ⟨ι, h, σm, Qm, Em, R, s, q, x, m⟩ => canE_mk R s x m fun v h1 m1 ι1 H1 u R1 X1 s1 x1 r1 => by
    cases v with
    | bl k =>
      unfold RV at r1
      refine ⟨k, r1, ?_⟩
      cases k with
      | true => exact ⟨ι1, h1, σm, Qm, Em, R1, s1, q.ext R1 X1, x1, m1⟩
      | false => exact q _ _ m1 _ _ _ R1 X1 (by unfold RV; rfl)
    | _ => exact m1.elim
theorem e_or {r : List Expr} (ha : PE X a (canE T W ma)) (hb : PE X (.BoolOp .Or (b :: r) pos) (canE T W mb)) : PE X (.BoolOp .Or (a :: b :: r) pos) (canE T W (wOrV ma mb)) :=
  PE.le (pe_or ha hb) fun σ H Q ⟨ι, h, σm, Qm, Em, R, s, q, x, m⟩ => canE_mk R s x m fun v h1 m1 ι1 H1 u R1 X1 s1 x1 r1 => by
    cases v with
    | bl k =>
      unfold RV at r1
      refine ⟨k, r1, ?_⟩
      cases k with
      | false => exact ⟨ι1, h1, σm, Qm, Em, R1, s1, q.ext R1 X1, x1, m1⟩
      | true => exact q _ _ m1 _ _ _ R1 X1 (by unfold RV; rfl)
    | _ => exact m1.elim
theorem e_not (hK : X.K = T.K) (ha : PE X a (canE T W ma)) : PE X (.UnaryOp .Not a pos) (canE T W (wNot (tTru ma))) :=
  PE.le (pe_notT ha) fun σ H Q ⟨ι, h, σm, Qm, Em, R, s, q, x, m⟩ => canE_mk R s x m fun v h1 m1 ι1 H1 u R1 X1 s1 x1 r1 => by
    have m1 : (match tru h1 v with | some k => Qm (.bl (!k)) h1 | none => False) := m1
    cases e : tru h1 v with
    | none => rw [e] at m1; exact m1.elim
    | some k =>
      rw [e] at m1
      exact ⟨k, by rw [hK]; exact tru_ok R1 r1 e, q _ h1 m1 ι1 H1 _ R1 X1 (by unfold RV; rfl)⟩
/-! ### argument lists, displays -/
variable {es : List Expr} {as : WA}
theorem a_nil : PA X [] (canA T W aNil) := PA.le pa_nil fun σ H Q ⟨ι, h, σm, Qm, Em, R, s, q, x, m⟩ => q [] h m ι H [] R Ext.refl RVs.nil
theorem canA_mk {σ : L2.St} {H : Hp} {Q : List V → Hp → Prop} {ι : IA} {h : MH} {σm : MS} {Qm : List MV → MH → Prop} {Em : QX} (R : Rel T ι h H) (s : RS T ι H σm σ) (x : PX T ι H Em (L2.WE W σ)) (m : as σm h Qm Em)
    (k : ∀ ms h', Qm ms h' → ∀ ι' H' vs, Rel T ι' h' H' → Ext ι H ι' H' → RS T ι' H' σm σ → PX T ι' H' Em (L2.WE W σ) → RVs T.K ι' H' ms vs → Q vs H') : canA T W as σ H Q :=
  ⟨ι, h, σm, Qm, Em, R, s, fun v h' q ι' H' u R' X' r => k v h' q ι' H' u R' X' (s.ext R X') (x.ext R' X') r, x, m⟩
theorem a_cons (ha : PE X a (canE T W ma)) (hr : PA X es (canA T W as)) (hs : starEach (a :: es) X.env = (false, eval a X.env) :: starEach es X.env := by rfl) : PA X (a :: es) (canA T W (aCons ma as)) :=
  PA.le (pa_cons ha hr hs) fun σ H Q ⟨ι, h, σm, Qm, Em, R, s, q, x, m⟩ => canE_mk R s x m fun v h1 m1 ι1 H1 u R1 X1 s1 x1 r1 =>
    canA_mk R1 s1 x1 m1 fun ms h2 m2 ι2 H2 vs R2 X2 s2 x2 r2 => q _ _ m2 _ _ _ R2 (Ext.trans R1 X1 X2) (RVs.cons (RV.ext R1 X2 _ _ r1) r2)
/-- a new tracked object -/
theorem new_at {ι : IA} {h : MH} {H : Hp} {r : Nat} {p : Addr} {O : HO} {o : MO} (R : Rel T ι h H) (hp : H p = none) (ho : Ext ι H (ia ι r p) (upd H p O) → OR T (ia ι r p) (upd H p O) p o) :
    Rel T (ia ι r p) (al h r o) (upd H p O) ∧ Ext ι H (ia ι r p) (upd H p O) ∧ RV T.K (ia ι r p) (upd H p O) (.ref r (h r).length) (.ref p) := by
  have X := ext_new (O := O) (r := r) R hp
  refine ⟨rel_new R hp (ho X), X, ?_⟩
  unfold RV
  refine ⟨p, ?_, rfl⟩
  rw [ia_same, ← R.len, List.getElem?_append_right (Nat.le_refl _)]
  simp
/-- a thing beside the heap (a tuple) -/
theorem aside {ι : IA} {h : MH} {H : Hp} {p : Addr} {O : HO} (R : Rel T ι h H) (hp : H p = none) : Rel T ι h (upd H p O) ∧ Ext ι H ι (upd H p O) := by
  have X : Ext ι H ι (upd H p O) := ⟨fun r => ⟨[], by simp, by simp⟩, fun a o e n => by rw [upd_ne (ne_of_none e hp)]; exact e⟩
  refine ⟨⟨R.len, fun r i o p' e1 e2 => (R.obj r i o p' e1 e2).ext R X (upd_ne fun z => ?_), R.inj⟩, X⟩
  subst z
  exact R.fresh hp r i e2
theorem tup_at {ι : IA} {h : MH} {H : Hp} {p : Addr} {ms : List MV} {vs : List V} (R : Rel T ι h H) (hp : H p = none) (r : RVs T.K ι H ms vs) :
    Rel T ι h (upd H p (.tup vs)) ∧ Ext ι H ι (upd H p (.tup vs)) ∧ RV T.K ι (upd H p (.tup vs)) (.tup ms) (.ref p) := by
  obtain ⟨R1, X1⟩ := aside (O := .tup vs) R hp
  refine ⟨R1, X1, ?_⟩
  unfold RV
  exact ⟨p, vs, rfl, SqT.of upd_same, RVs.ext R X1 _ _ r⟩
theorem e_tup {j} (h : PA X es (canA T W as)) : PE X (.Tuple es j pos) (canE T W (wTup as)) :=
  PE.le (pe_tup h) fun σ H Q ⟨ι, h, σm, Qm, Em, R, s, q, x, m⟩ => canA_mk R s x m fun ms h1 m1 ι1 H1 vs R1 X1 s1 x1 r1 => by
    obtain ⟨l, m1⟩ := m1
    refine ⟨by rw [← r1.length]; exact Nat.le_trans l lim_le, fun p hp => ?_⟩
    obtain ⟨R2, X2, r2⟩ := tup_at R1 hp r1
    exact q _ _ m1 _ _ _ R2 (Ext.trans R1 X1 X2) r2
theorem lst_at {ι : IA} {h : MH} {H : Hp} {r : Nat} {p : Addr} {ms : List MV} {vs : List V} (R : Rel T ι h H) (hp : H p = none) (q : RVs T.K ι H ms vs) :
    Rel T (ia ι r p) (al h r (.lst ms)) (upd H p (.lst vs)) ∧ Ext ι H (ia ι r p) (upd H p (.lst vs)) ∧ RV T.K (ia ι r p) (upd H p (.lst vs)) (.ref r (h r).length) (.ref p) :=
  new_at R hp fun X => ⟨vs, upd_same, RVs.ext R X _ _ q⟩
theorem e_lst {r : Nat} (h : PA X es (canA T W as)) : PE X (.List es pos) (canE T W (wLst r as)) :=
  PE.le (pe_lst h) fun σ H Q ⟨ι, h, σm, Qm, Em, R, s, q, x, m⟩ => canA_mk R s x m fun ms h1 m1 ι1 H1 vs R1 X1 s1 x1 r1 => by
    obtain ⟨l, m1⟩ := m1
    refine ⟨by rw [← r1.length]; exact Nat.le_trans l lim_le, fun p hp => ?_⟩
    obtain ⟨R2, X2, r2⟩ := lst_at (r := r) R1 hp r1
    exact q _ _ m1 _ _ _ R2 (Ext.trans R1 X1 X2) r2
end
end Mi
end TxMiniE

section TxMiniO
set_option Elab.async false
set_option linter.all false
set_option autoImplicit false
set_option maxRecDepth 100000
set_option maxHeartbeats 4000000
namespace Mi
open PySem PySem.Spec PyProof.Rows L2
theorem RV.int_ {K : PySem.W.Frag} {ι : IA} {H : Hp} {i : Int} {v : V} (r : RV K ι H (.int i) v) : v = .int i := by unfold RV at r; exact r
theorem RV.str_ {K : PySem.W.Frag} {ι : IA} {H : Hp} {i : String} {v : V} (r : RV K ι H (.str i) v) : v = .str (st i) := by unfold RV at r; exact r
theorem RV.bl_ {K : PySem.W.Frag} {ι : IA} {H : Hp} {i : Bool} {v : V} (r : RV K ι H (.bl i) v) : v = .bl i := by unfold RV at r; exact r
theorem RV.non_ {K : PySem.W.Frag} {ι : IA} {H : Hp} {v : V} (r : RV K ι H .non v) : v = .non := by unfold RV at r; exact r
theorem RV.ref_ {K : PySem.W.Frag} {ι : IA} {H : Hp} {q i : Nat} {v : V} (r : RV K ι H (.ref q i) v) : ∃ p, (ι q)[i]? = some p ∧ v = .ref p := by unfold RV at r; exact r
theorem RV.tup_ {K : PySem.W.Frag} {ι : IA} {H : Hp} {xs : List MV} {v : V} (r : RV K ι H (.tup xs) v) : ∃ p vs, v = .ref p ∧ L2.SqT K H p vs ∧ RVs K ι H xs vs := by unfold RV at r; exact r
theorem RV.cst_ {K : PySem.W.Frag} {ι : IA} {H : Hp} {xs : List MV} {v : V} (r : RV K ι H (.cst xs) v) : ∃ p vs, v = .ref p ∧ SqC K H p vs ∧ RVs K ι H xs vs := by unfold RV at r; exact r
theorem RV.int' {K : PySem.W.Frag} {ι : IA} {H : Hp} {i : Int} : RV K ι H (.int i) (.int i) := by unfold RV; rfl
theorem RV.bl' {K : PySem.W.Frag} {ι : IA} {H : Hp} {i : Bool} : RV K ι H (.bl i) (.bl i) := by unfold RV; rfl
theorem RV.str' {K : PySem.W.Frag} {ι : IA} {H : Hp} {i : String} : RV K ι H (.str i) (.str (st i)) := by unfold RV; rfl
theorem RV.non' {K : PySem.W.Frag} {ι : IA} {H : Hp} : RV K ι H .non .non := by unfold RV; rfl
theorem Rel.lst_ {T : Tx} {ι : IA} {h : MH} {H : Hp} (R : Rel T ι h H) {q i : Nat} {v : V} {xs : List MV} (r : RV T.K ι H (.ref q i) v) (e : rd h q i = some (.lst xs)) :
    ∃ p vs, v = .ref p ∧ (ι q)[i]? = some p ∧ H p = some (.lst vs) ∧ RVs T.K ι H xs vs := by
  obtain ⟨p, e1, rfl⟩ := r.ref_
  obtain ⟨p', e2, vs, e3, e4⟩ := R.of_rd e
  rw [e1] at e2; cases e2
  exact ⟨p, vs, rfl, e1, e3, e4⟩
theorem Rel.dic_ {T : Tx} {ι : IA} {h : MH} {H : Hp} (R : Rel T ι h H) {q i : Nat} {v : V} {kvs : List (MV × MV)} (r : RV T.K ι H (.ref q i) v) (e : rd h q i = some (.dic kvs)) :
    ∃ p kws, v = .ref p ∧ (ι q)[i]? = some p ∧ H p = some (.dK kws) ∧ Paired (fun (m : MV × MV) (k : Key × V) => KR m.1 k.1 ∧ RV T.K ι H m.2 k.2) kvs kws := by
  obtain ⟨p, e1, rfl⟩ := r.ref_
  obtain ⟨p', e2, vs, e3, e4⟩ := R.of_rd e
  rw [e1] at e2; cases e2
  exact ⟨p, vs, rfl, e1, e3, e4⟩
theorem Rel.ins_ {T : Tx} {ι : IA} {h : MH} {H : Hp} (R : Rel T ι h H) {q i : Nat} {v : V} {c : String} {fs : List (String × MV)} (r : RV T.K ι H (.ref q i) v) (e : rd h q i = some (.ins c fs)) :
    ∃ p dx fvs, v = .ref p ∧ (ι q)[i]? = some p ∧ c ∈ T.Cl ∧ (∀ p ∈ fs, p.1 ∈ T.Fl) ∧ H p = some (.ins (clA T.K c) dx fvs) ∧ Paired (fun (m : String × MV) (k : Str × V) => k.1 = st m.1 ∧ RV T.K ι H m.2 k.2) fs fvs := by
  obtain ⟨p, e1, rfl⟩ := r.ref_
  obtain ⟨p', e2, hc, hf, dx, fvs, e3, e4⟩ := R.of_rd e
  rw [e1] at e2; cases e2
  exact ⟨p, dx, fvs, rfl, e1, hc, hf, e3, e4⟩
theorem RVs.map_int {K : PySem.W.Frag} {ι : IA} {H : Hp} : ∀ {ns : List Int} {vs : List V}, RVs K ι H (ns.map .int) vs → vs = ns.map V.int
  | [], _, e => by unfold RVs at e; exact e
  | n :: ns, _, e => by
    unfold RVs at e
    obtain ⟨v, r, rfl, e2, e3⟩ := e
    rw [e2.int_, RVs.map_int e3]
    rfl
theorem str_app (a b : String) : st a ++ st b = st (a ++ b) := by
  unfold st
  rw [Str.ofString_eq_toList, Str.ofString_eq_toList, Str.ofString_eq_toList, String.toList_append, List.map_append]
  show Str.append _ _ = _
  unfold Str.append
  simp
section
variable {T : Tx} {X : Cx} {W : WX} {pos : Pos}
theorem le_line {n : Nat} (h : n ≤ lim) : n ≤ sizeLine := Nat.le_trans h lim_le
theorem lt_line {n : Nat} (h : n < lim) : n < sizeLine := Nat.lt_of_lt_of_le h lim_le
/-- the end of an operation that leaves the heap -/
theorem PQ.here {ι : IA} {h : MH} {H : Hp} {Qm : QV} {Q : VK} {v : MV} {u : V} (q : PQ T ι H Qm Q) (R : Rel T ι h H) (m : Qm v h) (r : RV T.K ι H v u) : Q u H := q v h m ι H u R Ext.refl r
theorem PQ.lst {ι : IA} {h : MH} {H : Hp} {Qm : QV} {Q : VK} {r : Nat} {ms : List MV} {vs : List V} {p : Addr} (q : PQ T ι H Qm Q) (R : Rel T ι h H) (m : Qm (.ref r (h r).length) (al h r (.lst ms))) (hp : H p = none) (e : RVs T.K ι H ms vs) : Q (.ref p) (upd H p (.lst vs)) := by
  obtain ⟨R2, X2, r2⟩ := lst_at (r := r) R hp e
  exact q _ _ m _ _ _ R2 X2 r2
theorem PQ.tup {ι : IA} {h : MH} {H : Hp} {Qm : QV} {Q : VK} {ms : List MV} {vs : List V} {p : Addr} (q : PQ T ι H Qm Q) (R : Rel T ι h H) (m : Qm (.tup ms) h) (hp : H p = none) (e : RVs T.K ι H ms vs) : Q (.ref p) (upd H p (.tup vs)) := by
  obtain ⟨R2, X2, r2⟩ := tup_at R hp e
  exact q _ _ m _ _ _ R2 X2 r2
theorem o_add {r : Nat} (hK : X.K = T.K) : OpR X (binaryOp .Add) (canR T (oAdd r)) := by
  intro pins s σ H x y v u Q I rx ry c
  obtain ⟨ι, h, mx, my, Qm, R, r1, r2, q, m⟩ := c
  cases mx with
  | int i =>
    cases my with
    | int j => cases r1.int_; cases r2.int_; exact op_add pins s σ H _ _ v u Q I rx ry ⟨i, j, rfl, rfl, q.here R m .int'⟩
    | _ => exact m.elim
  | str i =>
    cases my with
    | str j =>
      cases r1.str_; cases r2.str_
      obtain ⟨l, m⟩ := m
      exact op_add_str pins s σ H _ _ v u Q I rx ry ⟨_, _, rfl, rfl, by rw [st_len, st_len]; exact le_line l, q.here R m (by rw [str_app]; exact .str')⟩
    | _ => exact m.elim
  | tup xs =>
    cases my with
    | tup ys =>
      obtain ⟨l, m⟩ := m
      obtain ⟨p, vs, rfl, e1, e2⟩ := r1.tup_
      obtain ⟨p', vs', rfl, e1', e2'⟩ := r2.tup_
      have lv := e2.length
      have lv' := e2'.length
      refine op_catA pins s σ H _ _ v u Q I rx ry ⟨p, p', vs, vs', rfl, rfl, by rw [hK]; exact e1, by rw [hK]; exact e1', by rw [← lv, ← lv']; exact le_line l, fun z => ?_, fun _ z => ?_, fun _ _ a ha => q.tup R m ha (e2.append e2')⟩
      · rw [z] at lv
        have : xs = [] := List.length_eq_zero_iff.mp lv
        subst this
        refine q.here R (v := .tup ys) m ?_
        unfold RV
        exact ⟨p', vs', rfl, e1', e2'⟩
      · rw [z] at lv'
        have : ys = [] := List.length_eq_zero_iff.mp lv'
        subst this
        rw [List.append_nil] at m
        refine q.here R m ?_
        unfold RV
        exact ⟨p, vs, rfl, e1, e2⟩
    | _ => exact m.elim
  | ref a i =>
    cases my with
    | ref b j =>
      have m : (match rd h a i, rd h b j with
        | some (.lst x), some (.lst y) => x.length + y.length ≤ lim ∧ Qm (.ref r (h r).length) (al h r (.lst (x ++ y)))
        | _, _ => False) := m
      split at m
      · rename_i xs ys ea eb
        obtain ⟨l, m⟩ := m
        obtain ⟨p, vs, rfl, _, e1, e2⟩ := R.lst_ r1 ea
        obtain ⟨p', vs', rfl, _, e1', e2'⟩ := R.lst_ r2 eb
        exact op_cat pins s σ H _ _ v u Q I rx ry ⟨p, p', vs, vs', rfl, rfl, e1, e1', by rw [← e2.length, ← e2'.length]; exact le_line l, fun z hz => q.lst R m hz (e2.append e2')⟩
      · exact m.elim
    | _ => exact m.elim
  | _ => cases my <;> exact m.elim
theorem o_sub : OpR X (binaryOp .Sub) (canR T oSub) := by
  intro pins s σ H x y v u Q I rx ry c
  obtain ⟨ι, h, mx, my, Qm, R, r1, r2, q, m⟩ := c
  cases mx with
  | int i =>
    cases my with
    | int j => cases r1.int_; cases r2.int_; exact op_sub pins s σ H _ _ v u Q I rx ry ⟨i, j, rfl, rfl, q.here R m .int'⟩
    | _ => exact m.elim
  | _ => cases my <;> exact m.elim
theorem RVs.rep {K : PySem.W.Frag} {ι : IA} {H : Hp} {ms : List MV} {vs : List V} (e : RVs K ι H ms vs) : ∀ n : Nat, RVs K ι H (Mi.rep ms n) (List.replicate n vs).flatten
  | 0 => RVs.nil
  | n + 1 => by
    show RVs K ι H (List.replicate (n + 1) ms).flatten _
    rw [List.replicate_succ, List.replicate_succ, List.flatten_cons, List.flatten_cons]
    exact e.append (RVs.rep e n)
theorem o_mul {r : Nat} : OpR X (binaryOp .Mult) (canR T (oMul r)) := by
  intro pins s σ H x y v u Q I rx ry c
  obtain ⟨ι, h, mx, my, Qm, R, r1, r2, q, m⟩ := c
  cases mx with
  | int i =>
    cases my with
    | int j =>
      cases r1.int_; cases r2.int_
      obtain ⟨c, m⟩ := m
      refine op_mul pins s σ H _ _ v u Q I rx ry ⟨i, j, rfl, rfl, ?_, q.here R m .int'⟩
      rcases c with c | c
      · left; unfold small at c; omega
      · right; unfold small at c; omega
    | _ => exact m.elim
  | ref a i =>
    cases my with
    | int k =>
      cases r2.int_
      have m : (match rd h a i with
        | some (.lst x) => small k ∧ k ≤ lim ∧ x.length * k.toNat ≤ lim ∧ Qm (.ref r (h r).length) (al h r (.lst (Mi.rep x k.toNat)))
        | _ => False) := m
      split at m
      · rename_i xs ea
        obtain ⟨c, c2, l, m⟩ := m
        unfold small at c
        obtain ⟨p, vs, rfl, _, e1, e2⟩ := R.lst_ r1 ea
        exact op_rep pins s σ H _ _ v u Q I rx ry ⟨p, k, vs, rfl, rfl, e1, by omega, by omega, by rw [← e2.length]; exact le_line l, fun z hz => q.lst R m hz (e2.rep _)⟩
      · exact m.elim
    | _ => exact m.elim
  | _ => cases my <;> exact m.elim
theorem o_div : OpR X (binaryOp .FloorDiv) (canR T oDiv) := by
  intro pins s σ H x y v u Q I rx ry c
  obtain ⟨ι, h, mx, my, Qm, R, r1, r2, q, m⟩ := c
  cases mx with
  | int i =>
    cases my with
    | int j =>
      cases r1.int_; cases r2.int_
      obtain ⟨c1, c2, m⟩ := m
      exact op_fdivW pins s σ H _ _ v u Q I rx ry ⟨i, j, rfl, rfl, wide_div (b := 1000) c1 (by unfold dmax at c2; omega) (by omega) (by omega), q.here R m .int'⟩
    | _ => exact m.elim
  | _ => cases my <;> exact m.elim
theorem o_mod : OpR X (binaryOp .Mod) (canR T oMod) := by
  intro pins s σ H x y v u Q I rx ry c
  obtain ⟨ι, h, mx, my, Qm, R, r1, r2, q, m⟩ := c
  cases mx with
  | int i =>
    cases my with
    | int j =>
      cases r1.int_; cases r2.int_
      obtain ⟨c1, m⟩ := m
      exact op_mod pins s σ H _ _ v u Q I rx ry ⟨i, j, rfl, rfl, c1, q.here R m .int'⟩
    | _ => exact m.elim
  | _ => cases my <;> exact m.elim
theorem o_pow : OpR X (binaryOp .Pow) (canR T oPow) := by
  intro pins s σ H x y v u Q I rx ry c
  obtain ⟨ι, h, mx, my, Qm, R, r1, r2, q, m⟩ := c
  cases mx with
  | int i =>
    cases my with
    | int j =>
      cases r1.int_; cases r2.int_
      obtain ⟨c1, c2, c3, m⟩ := m
      unfold small at c3
      exact op_pow pins s σ H _ _ v u Q I rx ry ⟨i, j, rfl, rfl, ⟨c1, by omega, by omega⟩, q.here R m .int'⟩
    | _ => exact m.elim
  | _ => cases my <;> exact m.elim
theorem u_neg : UnR X (unaryOp .USub) (canU T uNeg) := by
  intro pins s σ H x v Q I rx c
  obtain ⟨ι, h, mx, Qm, R, r1, q, m⟩ := c
  cases mx with
  | int i => cases r1.int_; exact un_neg pins s σ H _ v Q I rx ⟨i, rfl, q.here R m .int'⟩
  | _ => exact m.elim
/-! ### comparisons -/
theorem o_ord {o : Op2} {op : CmpOp} {p : Int → Int → Bool} (hr : OpR X (compareOp op) (rI0 fun i j => .bl (p i j))) (ho : ∀ mx my h Q, o mx my h Q → ∃ i j, mx = .int i ∧ my = .int j ∧ Q (.bl (p i j)) h) : OpR X (compareOp op) (canR T o) := by
  intro pins s σ H x y v u Q I rx ry c
  obtain ⟨ι, h, mx, my, Qm, R, r1, r2, q, m⟩ := c
  obtain ⟨i, j, rfl, rfl, m'⟩ := ho _ _ _ _ m
  cases r1.int_; cases r2.int_
  exact hr pins s σ H _ _ v u Q I rx ry ⟨i, j, rfl, rfl, q.here R m' .bl'⟩
theorem o_lt : OpR X (compareOp .Lt) (canR T oLt) := o_ord op_lt fun mx my h Q m => by
  cases mx <;> cases my <;> first | exact ⟨_, _, rfl, rfl, m⟩ | exact m.elim
theorem o_le : OpR X (compareOp .LtE) (canR T oLe) := o_ord op_le fun mx my h Q m => by
  cases mx <;> cases my <;> first | exact ⟨_, _, rfl, rfl, m⟩ | exact m.elim
theorem o_gt : OpR X (compareOp .Gt) (canR T oGt) := o_ord op_gt fun mx my h Q m => by
  cases mx <;> cases my <;> first | exact ⟨_, _, rfl, rfl, m⟩ | exact m.elim
theorem o_ge : OpR X (compareOp .GtE) (canR T oGe) := o_ord op_ge fun mx my h Q m => by
  cases mx <;> cases my <;> first | exact ⟨_, _, rfl, rfl, m⟩ | exact m.elim
/-! == -/
mutual
def toPy : PD → PyData
  | .non => .none
  | .bl b => .bool b
  | .int i => .int i
  | .str s => .str (st s)
  | .tup xs => .tuple (toPys xs)
  | .lst xs => .list (toPys xs)
def toPys : List PD → List PyData
  | [] => []
  | x :: xs => toPy x :: toPys xs
end
theorem strOk_st (s : String) : PyData.strOk (st s) = true := by
  unfold st PyData.strOk
  rw [Str.ofString_eq_toList]
  simp only [List.all_toArray, List.all_map, List.all_eq_true, Function.comp]
  intro c _
  have h := c.valid
  simp only [UInt32.isValidChar, Nat.isValidChar] at h
  have : c.toNat = c.val.toNat := rfl
  simp only [decide_eq_true_eq]
  omega
mutual
theorem canLay_py : ∀ d : PD, (toPy d).canLay0 = true
  | .non => rfl
  | .bl _ => rfl
  | .int _ => rfl
  | .str s => by unfold toPy PyData.canLay0; exact strOk_st s
  | .tup xs => by unfold toPy PyData.canLay0; exact canLay_pys xs
  | .lst xs => by unfold toPy PyData.canLay0; exact canLay_pys xs
theorem canLay_pys : ∀ ds : List PD, PyData.canLayAll0 (toPys ds) = true
  | [] => rfl
  | d :: ds => by
    unfold toPys PyData.canLayAll0
    rw [canLay_py d, canLay_pys ds]
    rfl
end
mutual
theorem eqv_py : ∀ a b : PD, PyData.eqv (toPy a) (toPy b) = PD.eqv a b
  | .non, b => by cases b <;> (unfold toPy PyData.eqv PD.eqv; rfl)
  | .bl x, b => by cases b <;> (unfold toPy PyData.eqv PD.eqv; rfl)
  | .int i, b => by
    cases b with
    | int j => unfold toPy PyData.eqv PD.eqv; exact Bool.beq_eq_decide_eq i j
    | _ => unfold toPy PyData.eqv PD.eqv; rfl
  | .str i, b => by
    cases b with
    | str j =>
      unfold toPy PyData.eqv PD.eqv
      by_cases c : i = j
      · subst c; simp
      · rw [decide_eq_false c]
        exact beq_eq_false_iff_ne.mpr fun z => c (st_inj z)
    | _ => unfold toPy PyData.eqv PD.eqv; rfl
  | .tup xs, b => by
    cases b with
    | tup ys => unfold toPy PyData.eqv PD.eqv; exact eqv_pys xs ys
    | _ => unfold toPy PyData.eqv PD.eqv; rfl
  | .lst xs, b => by
    cases b with
    | lst ys => unfold toPy PyData.eqv PD.eqv; exact eqv_pys xs ys
    | _ => unfold toPy PyData.eqv PD.eqv; rfl
theorem eqv_pys : ∀ a b : List PD, PyData.eqvAll (toPys a) (toPys b) = PD.eqvs a b
  | [], [] => rfl
  | [], _ :: _ => by unfold toPys PyData.eqvAll PD.eqvs; rfl
  | _ :: _, [] => by unfold toPys PyData.eqvAll PD.eqvs; rfl
  | a :: as, b :: bs => by
    unfold toPys PyData.eqvAll PD.eqvs
    rw [eqv_py a b, eqv_pys as bs]
end
theorem dp_all {ι : IA} {h : MH} {H : Hp} {n : Nat} (ih : ∀ (v : MV) (u : V) (d : PD), RV T.K ι H v u → dat h n v = some d → Dp T.K H u (toPy d) ∧ (toPy d).depth ≤ n) :
    ∀ (xs : List MV) (vs : List V) (ds : List PD), RVs T.K ι H xs vs → xs.mapM (dat h n) = some ds → DpAll T.K H vs (toPys ds) ∧ PyData.depthAll (toPys ds) ≤ n
  | [], vs, ds, r, e => by
    unfold RVs at r; subst r
    simp at e; subst e
    exact ⟨.nil, Nat.zero_le _⟩
  | x :: xs, vs, ds, r, e => by
    unfold RVs at r
    obtain ⟨v, w, rfl, r1, r2⟩ := r
    rw [List.mapM_cons] at e
    simp only [Option.pure_def, Option.bind_eq_bind, Option.bind_eq_some_iff] at e
    obtain ⟨d, e1, ds', e2, e3⟩ := e
    cases e3
    obtain ⟨q1, q2⟩ := ih x v d r1 e1
    obtain ⟨q3, q4⟩ := dp_all ih xs w ds' r2 e2
    refine ⟨.cons q1 q3, ?_⟩
    show PyData.depthAll (toPy d :: toPys ds') ≤ n
    unfold PyData.depthAll
    omega
theorem dp_of {ι : IA} {h : MH} {H : Hp} (R : Rel T ι h H) : ∀ (n : Nat) (v : MV) (u : V) (d : PD), RV T.K ι H v u → dat h n v = some d → Dp T.K H u (toPy d) ∧ (toPy d).depth ≤ n
  | n, .non, u, d, r, e => by cases r.non_; unfold dat at e; cases e; exact ⟨.non, Nat.zero_le _⟩
  | n, .bl _, u, d, r, e => by cases r.bl_; unfold dat at e; cases e; exact ⟨.bl _, Nat.zero_le _⟩
  | n, .int _, u, d, r, e => by cases r.int_; unfold dat at e; cases e; exact ⟨.int _, Nat.zero_le _⟩
  | n, .str _, u, d, r, e => by cases r.str_; unfold dat at e; cases e; exact ⟨.str _, Nat.zero_le _⟩
  | 0, .tup _, u, d, r, e => by unfold dat at e; cases e
  | 0, .cst _, u, d, r, e => by unfold dat at e; cases e
  | 0, .ref _ _, u, d, r, e => by unfold dat at e; cases e
  | 0, .exc _, u, d, r, e => by unfold dat at e; cases e
  | n + 1, .exc _, u, d, r, e => by unfold dat at e; cases e
  | n + 1, .tup xs, u, d, r, e => by
    obtain ⟨p, vs, rfl, e1, e2⟩ := r.tup_
    unfold dat at e
    obtain ⟨ds, e3, rfl⟩ := Option.map_eq_some_iff.mp e
    obtain ⟨q1, q2⟩ := dp_all (fun v u d => dp_of R n v u d) xs vs ds e2 e3
    unfold toPy
    refine ⟨.tup e1 q1, ?_⟩
    unfold PyData.depth
    omega
  | n + 1, .cst xs, u, d, r, e => by
    obtain ⟨p, vs, rfl, e1, e2⟩ := r.cst_
    unfold dat at e
    obtain ⟨ds, e3, rfl⟩ := Option.map_eq_some_iff.mp e
    obtain ⟨q1, q2⟩ := dp_all (fun v u d => dp_of R n v u d) xs vs ds e2 e3
    unfold toPy
    refine ⟨.lst e1.l q1, ?_⟩
    unfold PyData.depth
    omega
  | n + 1, .ref a i, u, d, r, e => by
    have e : (match rd h a i with
      | some (.lst xs) => (xs.mapM (dat h n)).map .lst
      | _ => none) = some d := by unfold dat at e; exact e
    split at e
    · rename_i xs ea
      obtain ⟨p, vs, rfl, _, e1, e2⟩ := R.lst_ r ea
      obtain ⟨ds, e3, rfl⟩ := Option.map_eq_some_iff.mp e
      obtain ⟨q1, q2⟩ := dp_all (fun v u d => dp_of R n v u d) xs vs ds e2 e3
      unfold toPy
      refine ⟨.lst (L2.SqL.of e1) q1, ?_⟩
      unfold PyData.depth
      omega
    · cases e
theorem shaped_of {d : PD} {n : Nat} (h : (toPy d).depth ≤ n) (hn : n ≤ 64) : SeqAt.shaped (toPy d) = true := by
  unfold SeqAt.shaped
  rw [canLay_py, decide_eq_true (Nat.le_trans h hn)]
  rfl
theorem o_eq (hK : X.K = T.K) (hu : X.A.units + 64 < cLine) : OpR X (compareOp .Eq) (canR T oEq) := by
  intro pins s σ H x y v u Q I rx ry c
  obtain ⟨ι, h, mx, my, Qm, R, r1, r2, q, m⟩ := c
  unfold oEq at m
  split at m
  · rename_i d e e1 e2
    obtain ⟨q1, q2⟩ := dp_of R _ _ _ _ r1 e1
    obtain ⟨q3, q4⟩ := dp_of R _ _ _ _ r2 e2
    exact op_eqD hu pins s σ H _ _ v u Q I rx ry ⟨_, _, by rw [hK]; exact q1, by rw [hK]; exact q3, shaped_of q2 (by decide), shaped_of q4 (by decide), by rw [eqv_py]; exact q.here R m .bl'⟩
  · exact m.elim
theorem o_ne (hK : X.K = T.K) (hu : X.A.units + 64 < cLine) : OpR X (compareOp .NotEq) (canR T oNe) := by
  intro pins s σ H x y v u Q I rx ry c
  obtain ⟨ι, h, mx, my, Qm, R, r1, r2, q, m⟩ := c
  unfold oNe at m
  split at m
  · rename_i d e e1 e2
    obtain ⟨q1, q2⟩ := dp_of R _ _ _ _ r1 e1
    obtain ⟨q3, q4⟩ := dp_of R _ _ _ _ r2 e2
    exact op_neD hu pins s σ H _ _ v u Q I rx ry ⟨_, _, by rw [hK]; exact q1, by rw [hK]; exact q3, shaped_of q2 (by decide), shaped_of q4 (by decide), by rw [eqv_py]; exact q.here R m .bl'⟩
  · exact m.elim
theorem non_iff {ι : IA} {H : Hp} {m : MV} {v : V} (r : RV T.K ι H m v) : decide (v = .non) = isN m := by
  cases m with
  | non => cases r.non_; rfl
  | bl _ => cases r.bl_; rfl
  | int _ => cases r.int_; rfl
  | str _ => cases r.str_; rfl
  | tup _ => obtain ⟨_, _, rfl, _⟩ := r.tup_; rfl
  | cst _ => obtain ⟨_, _, rfl, _⟩ := r.cst_; rfl
  | ref _ _ => obtain ⟨_, _, rfl⟩ := r.ref_; rfl
  | exc _ => unfold RV at r; subst r; rfl
theorem o_is : OpR X (compareOp .Is) (canR T oIsN) := by
  intro pins s σ H x y v u Q I rx ry c
  obtain ⟨ι, h, mx, my, Qm, R, r1, r2, q, m⟩ := c
  unfold oIsN at m
  split at m
  · cases r2.non_
    exact op_isN pins s σ H _ _ v u Q I rx ry ⟨rfl, q.here R m (by rw [non_iff r1]; exact .bl')⟩
  · exact m.elim
theorem o_isnot : OpR X (compareOp .IsNot) (canR T oNotN) := by
  intro pins s σ H x y v u Q I rx ry c
  obtain ⟨ι, h, mx, my, Qm, R, r1, r2, q, m⟩ := c
  unfold oNotN at m
  split at m
  · cases r2.non_
    exact op_notN pins s σ H _ _ v u Q I rx ry ⟨rfl, q.here R m (by rw [non_iff r1]; exact .bl')⟩
  · exact m.elim
end
end Mi
end TxMiniO

section TxMiniC
set_option Elab.async false
set_option linter.all false
set_option autoImplicit false
set_option maxRecDepth 100000
set_option maxHeartbeats 4000000
namespace Mi
open PySem PySem.Spec PyProof.Rows L2
section
variable {T : Tx} {X : Cx} {W : WX} {pos : Pos}
/-! ### keys -/
theorem KR.eq {m1 m2 : MV} {k1 k2 : Key} (a : KR m1 k1) (b : KR m2 k2) : eqF m1 m2 = decide (k1 = k2) := by
  cases a with
  | int i => cases b with
    | int j => rw [key_ll]; unfold eqF; rw [Bool.beq_eq_decide_eq]
    | str j => rw [key_lr]; rfl
  | str i => cases b with
    | int j => rw [key_rl]; rfl
    | str j =>
      rw [key_rr]
      show decide (i = j) = decide (st i = st j)
      by_cases c : i = j
      · subst c; simp
      · rw [decide_eq_false c, decide_eq_false fun z => c (st_inj z)]
theorem key_of_ {m : MV} {v : V} {ι : IA} {H : Hp} (k : isKey m = true) (r : RV T.K ι H m v) : ∃ k, KR m k ∧ v = kV k := by
  cases m with
  | int i => cases r.int_; exact ⟨_, .int i, rfl⟩
  | str i => cases r.str_; exact ⟨_, .str i, rfl⟩
  | _ => cases k
variable {ι : IA} {h : MH} {H : Hp}
abbrev KVR (T : Tx) (ι : IA) (H : Hp) : List (MV × MV) → List (Key × V) → Prop := Paired (fun (m : MV × MV) (k : Key × V) => KR m.1 k.1 ∧ RV T.K ι H m.2 k.2)
theorem KVR.at_ {m : MV} {k : Key} (hk : KR m k) : ∀ {kvs : List (MV × MV)} {kws : List (Key × V)}, KVR T ι H kvs kws → (∀ v, Mi.atKey m kvs = some v → ∃ u, valV kws k = some u ∧ RV T.K ι H v u) ∧ Mi.hasKey m kvs = (valV kws k).isSome
  | _, _, .nil => by
    refine ⟨fun v e => ?_, rfl⟩
    cases e
  | _, _, .cons (a := p) (b := q) ⟨r1, r2⟩ t => by
    obtain ⟨i1, i2⟩ := KVR.at_ hk t
    have e := r1.eq hk
    unfold Mi.atKey Mi.hasKey valV at *
    rw [List.find?_cons, List.find?_cons, List.any_cons]
    rw [e]
    cases c : decide (q.1 = k) with
    | true => exact ⟨fun v z => ⟨q.2, rfl, by have z : some p.2 = some v := z; cases z; exact r2⟩, rfl⟩
    | false => exact ⟨i1, by rw [Bool.false_or]; exact i2⟩
theorem KVR.has_any {m : MV} {k : Key} (hk : KR m k) : ∀ {kvs : List (MV × MV)} {kws : List (Key × V)}, KVR T ι H kvs kws → Mi.hasKey m kvs = kws.any fun kv => decide (kv.1 = k)
  | _, _, .nil => rfl
  | _, _, .cons (a := p) (b := q) ⟨r1, r2⟩ t => by
    have i2 := KVR.has_any hk t
    unfold Mi.hasKey at *
    rw [List.any_cons, List.any_cons, r1.eq hk, i2]
theorem KVR.map_put {m v : MV} {k : Key} {u : V} (hk : KR m k) (hv : RV T.K ι H v u) : ∀ {kvs : List (MV × MV)} {kws : List (Key × V)}, KVR T ι H kvs kws →
    KVR T ι H (kvs.map fun p => if eqF p.1 m then (p.1, v) else p) (kws.map fun kv => if kv.1 = k then (kv.1, u) else kv)
  | _, _, .nil => .nil
  | _, _, .cons (a := p) (b := q) ⟨r1, r2⟩ t => by
    rw [List.map_cons, List.map_cons]
    refine .cons ?_ (KVR.map_put hk hv t)
    have e := r1.eq hk
    by_cases c : q.1 = k
    · rw [decide_eq_true c] at e
      rw [if_pos c, if_pos e]
      exact ⟨r1, hv⟩
    · rw [decide_eq_false c] at e
      rw [if_neg c, if_neg (by rw [e]; exact Bool.false_ne_true)]
      exact ⟨r1, r2⟩
theorem KVR.append : ∀ {kvs kvs' : List (MV × MV)} {kws kws' : List (Key × V)}, KVR T ι H kvs kws → KVR T ι H kvs' kws' → KVR T ι H (kvs ++ kvs') (kws ++ kws')
  | _, _, _, _, .nil, s => s
  | _, _, _, _, .cons r t, s => .cons r (KVR.append t s)
theorem KVR.put {m v : MV} {k : Key} {u : V} {kvs : List (MV × MV)} {kws : List (Key × V)} (hk : KR m k) (hv : RV T.K ι H v u) (r : KVR T ι H kvs kws) : KVR T ι H (putKey m v kvs) (putK kws k u) := by
  unfold putKey putK
  rw [r.has_any hk]
  by_cases c : (kws.any fun kv => decide (kv.1 = k)) = true
  · rw [if_pos c, if_pos c]
    exact KVR.map_put hk hv r
  · rw [if_neg c, if_neg c]
    exact KVR.append r (.cons ⟨hk, hv⟩ .nil)
theorem KVR.ext {ι' : IA} {H' : Hp} (R : Rel T ι h H) (X : Ext ι H ι' H') {kvs : List (MV × MV)} {kws : List (Key × V)} (r : KVR T ι H kvs kws) : KVR T ι' H' kvs kws := Paired.imp (fun a b q => ⟨q.1, RV.ext R X _ _ q.2⟩) r
/-! ### in -/
theorem flat_of {m : MV} {v : V} (r : RV T.K ι H m v) (f : Mi.flat m = true) : flatV v = true ∧ ∀ m' v', RV T.K ι H m' v' → Mi.flat m' = true → eqV v v' = eqF m m' := by
  cases m with
  | non => cases r.non_; exact ⟨rfl, fun m' v' r' f' => by cases m' <;> first | (cases f' <;> done) | (first | cases r'.non_ | cases r'.bl_ | cases r'.int_ | cases r'.str_) <;> rfl⟩
  | bl b => cases r.bl_; exact ⟨rfl, fun m' v' r' f' => by cases m' <;> first | (cases f' <;> done) | (first | cases r'.non_ | cases r'.bl_ | cases r'.int_ | cases r'.str_) <;> rfl⟩
  | int b =>
    cases r.int_
    refine ⟨rfl, fun m' v' r' f' => ?_⟩
    cases m' with
    | non => cases r'.non_; rfl
    | bl _ => cases r'.bl_; rfl
    | int j => cases r'.int_; exact Bool.beq_eq_decide_eq b j
    | str _ => cases r'.str_; rfl
    | _ => cases f'
  | str b =>
    cases r.str_
    refine ⟨rfl, fun m' v' r' f' => ?_⟩
    cases m' with
    | non => cases r'.non_; rfl
    | bl _ => cases r'.bl_; rfl
    | int j => cases r'.int_; rfl
    | str j =>
      cases r'.str_
      show (st b == st j) = decide (b = j)
      by_cases c : b = j
      · subst c; simp
      · rw [decide_eq_false c]
        exact beq_eq_false_iff_ne.mpr fun z => c (st_inj z)
    | _ => cases f'
  | _ => cases f
theorem flats_of : ∀ {ms : List MV} {vs : List V}, RVs T.K ι H ms vs → ms.all Mi.flat = true → vs.all flatV = true ∧ ∀ m' v', RV T.K ι H m' v' → Mi.flat m' = true → (vs.any fun y => eqV y v') = ms.any fun y => eqF y m'
  | [], _, e, _ => by unfold RVs at e; subst e; exact ⟨rfl, fun _ _ _ _ => rfl⟩
  | m :: ms, _, e, f => by
    unfold RVs at e
    obtain ⟨v, w, rfl, e1, e2⟩ := e
    rw [List.all_cons, Bool.and_eq_true] at f
    obtain ⟨a1, a2⟩ := flat_of e1 f.1
    obtain ⟨b1, b2⟩ := flats_of e2 f.2
    exact ⟨by rw [List.all_cons, a1, b1]; rfl, fun m' v' r' f' => by rw [List.any_cons, List.any_cons, a2 m' v' r' f', b2 m' v' r' f']⟩
theorem sign_of {s : String} {c : Char} (e : s.toList = [c]) : st s = ⟨#[c.toNat]⟩ := by
  unfold st
  rw [Str.ofString_eq_toList, e]
  rfl
theorem mem_st (z : String) (c : Char) : decide (c.toNat ∈ (st z).cps.toList) = z.toList.any fun d => decide (d = c) := by
  have e : (st z).cps.toList = z.toList.map Char.toNat := by
    unfold st
    rw [Str.ofString_eq_toList]
  rw [e, Bool.eq_iff_iff]
  simp only [decide_eq_true_eq, List.mem_map, List.any_eq_true]
  constructor
  · rintro ⟨d, hd, q⟩
    exact ⟨d, hd, Char.ext (UInt32.toNat.inj q)⟩
  · rintro ⟨d, hd, rfl⟩
    exact ⟨d, hd, rfl⟩
theorem inB_ok {op : CmpOp} {f : Bool → Bool} (hK : X.K = T.K) (h1 : OpR X (compareOp op) (fun x y H Q => ∃ p xs, y = .ref p ∧ (L2.SqL X.K H p xs ∨ L2.SqT X.K H p xs) ∧ flatV x = true ∧ xs.all flatV = true ∧ Q (.bl (f (inV x xs))) H))
    (h2 : OpR X (compareOp op) (fun y x H Q => ∃ a o, x = .ref a ∧ DGet H a y o ∧ Q (.bl (f o.isSome)) H))
    (h3 : OpR X (compareOp op) (fun x y H Q => ∃ (c : Nat) (z : Str), x = .str ⟨#[c]⟩ ∧ y = .str z ∧ Q (.bl (f (decide (c ∈ z.cps.toList)))) H)) :
    OpR X (compareOp op) (canR T fun x y h Q => match inB x y h with | some b => Q (.bl (f b)) h | none => False) := by
  intro pins s σ H x y v u Q I rx ry c
  obtain ⟨ι, h, mx, my, Qm, R, r1, r2, q, m⟩ := c
  have m : (match (generalizing := false) inB mx my h with | some b => Qm (.bl (f b)) h | none => False) := m
  cases e : inB mx my h with
  | none => rw [e] at m; exact m.elim
  | some b =>
    rw [e] at m
    have go : ∀ {p : Addr} {ms : List MV} {vs : List V}, y = .ref p → (L2.SqL X.K H p vs ∨ L2.SqT X.K H p vs) → RVs T.K ι H ms vs → (if Mi.flat mx && ms.all Mi.flat then some (ms.any fun y => eqF y mx) else none) = some b →
        wpAny (model X.prog X.w) X.A (compareOp op v u) (EP X pins σ Q) X.xe s := fun {p ms vs} hy hq hr hb => by
      split at hb
      · rename_i hf
        rw [Bool.and_eq_true] at hf
        obtain ⟨a1, _⟩ := flat_of r1 hf.1
        obtain ⟨b1, b2⟩ := flats_of hr hf.2
        refine h1 pins s σ H x y v u Q I rx ry ⟨p, vs, hy, hq, a1, b1, ?_⟩
        unfold inV
        rw [b2 _ _ r1 hf.1, Option.some.inj hb]
        exact q.here R m .bl'
      · cases hb
    cases my with
    | tup ys =>
      obtain ⟨p, vs, rfl, e1, e2⟩ := r2.tup_
      exact go rfl (.inr (by rw [hK]; exact e1)) e2 e
    | cst ys =>
      obtain ⟨p, vs, rfl, e1, e2⟩ := r2.cst_
      exact go rfl (.inl (by rw [hK]; exact e1.l)) e2 e
    | str z =>
      cases mx with
      | str w =>
        have e : (match w.toList with | [c] => some (z.toList.any fun d => decide (d = c)) | _ => none) = some b := e
        split at e
        · rename_i c hc
          cases r1.str_; cases r2.str_
          cases e
          refine h3 pins s σ H _ _ v u Q I rx ry ⟨c.toNat, st z, by rw [sign_of hc], rfl, ?_⟩
          rw [mem_st]
          exact q.here R m .bl'
        · cases e
      | _ => cases e
    | ref a i =>
      have e : (match rd h a i with
        | some (.lst ys) => if Mi.flat mx && ys.all Mi.flat then some (ys.any fun y => eqF y mx) else none
        | some (.dic kvs) => if isKey mx then some (hasKey mx kvs) else none
        | _ => none) = some b := e
      split at e
      · rename_i ys ea
        obtain ⟨p, vs, rfl, _, e1, e2⟩ := R.lst_ r2 ea
        exact go rfl (.inl (SqL.of e1)) e2 e
      · rename_i kvs ea
        split at e
        · rename_i hk
          cases e
          obtain ⟨k, k1, rfl⟩ := key_of_ hk r1
          obtain ⟨p, kws, rfl, _, e1, e2⟩ := R.dic_ r2 ea
          refine h2 pins s σ H _ _ v u Q I rx ry ⟨p, _, rfl, DGet.k e1, ?_⟩
          rw [← (KVR.at_ k1 e2).2]
          exact q.here R m .bl'
        · cases e
      · cases e
    | _ => cases e
theorem o_in (hK : X.K = T.K) (hu : X.A.units + 1 < cLine) : OpR X (compareOp .In) (canR T oIn) :=
  inB_ok (f := fun b => b) hK op_in_seq (fun pins s σ H y x v u Q I ry rx ⟨a, o, e, g, q⟩ => by
    subst e
    obtain rfl : u = Value.ref a := rx
    exact d_in hu I g ry fun s3 I3 => ⟨.bl o.isSome, H, I3, rfl, q⟩) op_in_sign
theorem o_notin (hK : X.K = T.K) (hu : X.A.units + 1 < cLine) : OpR X (compareOp .NotIn) (canR T oNotIn) :=
  inB_ok (f := fun b => !b) hK op_notIn_seq (fun pins s σ H y x v u Q I ry rx ⟨a, o, e, g, q⟩ => by
    subst e
    obtain rfl : u = Value.ref a := rx
    exact d_notIn hu I g ry fun s3 I3 => ⟨.bl (!o.isSome), H, I3, rfl, q⟩) op_notIn_sign
/-! ### items -/
theorem ix_dic (hu : X.A.units + 1 < cLine) : IxR X (fun x y H Q => ∃ a v, x = .ref a ∧ DGet H a y (some v) ∧ Q v H) := by
  intro value slice pins s σ H x y v u Q I rx ry hq hs
  obtain ⟨a, w, rfl, g, q⟩ := hq
  obtain rfl : v = Value.ref a := rx
  have ty := dict_typeIs I g
  unfold subscriptTail
  refine wpAny_bind ?_
  rw [getitemInPython_of_ne ty.not_modules]
  refine wpAny_bind (wpAny_specialOf ty PySem.F.slot_dict_getitem.lookup ?_)
  have fin : wpAny (model X.prog X.w) X.A (subscripted slice false (.ref a) u) (fun r s₃ => wpAny (model X.prog X.w) X.A (letTemporaryGo value (.ref a) r >>= fun _ => pure r) (EP X pins σ Q) X.xe s₃) X.xe s := by
    rw [hs]
    exact wpAny_operating (d_getItem hu I g ry fun w' s3 I3 rw' => wpAny_bind (wpAny_letTemporaryGo (wpAny_pure ⟨w, H, I3, rw', q⟩)))
  first
    | exact wpAny_pure (wpAny_bind fin)
    | exact wpAny_bind (wpAny_pure (wpAny_bind fin))
    | exact wpAny_bind fin
theorem RVs.atI : ∀ {ms : List MV} {vs : List V} {i : Int} {m : MV}, RVs T.K ι H ms vs → Mi.atI ms i = some m → ∃ v, L2.atI vs i = some v ∧ RV T.K ι H m v := fun {ms vs i m} r e => by
  unfold Mi.atI at e
  obtain ⟨j, e1, e2⟩ := Option.bind_eq_some_iff.mp e
  obtain ⟨v, e3, e4⟩ := r.get e2
  refine ⟨v, ?_, e4⟩
  unfold L2.atI
  rw [← r.length]
  have : L2.ixN ms.length i = some j := e1
  rw [this]
  exact e3
theorem ix_ok (hK : X.K = T.K) (hu : X.A.units + 1 < cLine) : IxR X (canR T oIx) := by
  intro value slice pins s σ H x y v u Q I rx ry c hs
  obtain ⟨ι, h, mx, my, Qm, R, r1, r2, q, m⟩ := c
  have m' : (match (generalizing := false) getIx mx my h with | some v => Qm v h | none => False) := m
  clear m
  cases e : getIx mx my h with
  | none => rw [e] at m'; exact m'.elim
  | some w =>
    rw [e] at m'
    have m' : Qm w h := m'
    cases mx with
    | tup xs => cases my with
      | int i =>
        obtain ⟨p, vs, rfl, e1, e2⟩ := r1.tup_
        cases r2.int_
        obtain ⟨z, e3, e4⟩ := e2.atI (show Mi.atI xs i = some w from e)
        exact ix_tup value slice pins s σ H _ _ v u Q I rx ry ⟨p, vs, i, z, rfl, rfl, by rw [hK]; exact e1, e3, q.here R m' e4⟩ hs
      | _ => cases e
    | cst xs => cases my with
      | int i =>
        obtain ⟨p, vs, rfl, e1, e2⟩ := r1.cst_
        cases r2.int_
        obtain ⟨z, e3, e4⟩ := e2.atI (show Mi.atI xs i = some w from e)
        exact ix_list value slice pins s σ H _ _ v u Q I rx ry ⟨p, vs, i, z, rfl, rfl, by rw [hK]; exact e1.l, e3, q.here R m' e4⟩ hs
      | _ => cases e
    | str z => cases my with
      | int i =>
        cases r1.str_; cases r2.int_
        have e : (if z.length ≤ lim then (Mi.atI z.toList i).map fun c => .str (String.singleton c) else none) = some w := e
        split at e
        · rename_i hl
          obtain ⟨c, e1, rfl⟩ := Option.map_eq_some_iff.mp e
          have e2 : L2.atI (st z).cps.toList i = some c.toNat := by
            have e3 : (st z).cps.toList = z.toList.map Char.toNat := by
              unfold st
              rw [Str.ofString_eq_toList]
            unfold Mi.atI at e1
            obtain ⟨j, e4, e5⟩ := Option.bind_eq_some_iff.mp e1
            unfold L2.atI
            rw [e3, List.length_map]
            have : L2.ixN z.toList.length i = some j := e4
            rw [this]
            show (z.toList.map Char.toNat)[j]? = _
            rw [List.getElem?_map, e5]
            rfl
          refine ix_str value slice pins s σ H _ _ v u Q I rx ry ⟨st z, i, c.toNat, rfl, rfl, by rw [st_len]; exact le_line hl, e2, ?_⟩ hs
          rw [← sign_of (s := String.singleton c) (c := c) (by simp)]
          exact q.here R m' .str'
        · cases e
      | _ => cases e
    | ref a i =>
      have e : (match (generalizing := false) rd h a i, my with
        | some (.lst xs), .int i => Mi.atI xs i
        | some (.dic kvs), k => if isKey k then Mi.atKey k kvs else none
        | _, _ => none) = some w := e
      split at e
      · rename_i xs j ea _
        obtain ⟨p, vs, rfl, _, e1, e2⟩ := R.lst_ r1 ea
        cases r2.int_
        obtain ⟨z, e3, e4⟩ := e2.atI e
        exact ix_list value slice pins s σ H _ _ v u Q I rx ry ⟨p, vs, j, z, rfl, rfl, SqL.of e1, e3, q.here R m' e4⟩ hs
      · rename_i kvs ea _
        split at e
        · rename_i hk
          obtain ⟨k, k1, rfl⟩ := key_of_ hk r2
          obtain ⟨p, kws, rfl, _, e1, e2⟩ := R.dic_ r1 ea
          obtain ⟨z, e3, e4⟩ := (KVR.at_ k1 e2).1 w e
          exact ix_dic hu value slice pins s σ H _ _ v u Q I rx ry ⟨p, z, rfl, by rw [← e3]; exact DGet.k e1, q.here R m' e4⟩ hs
        · cases e
      · cases e
    | _ => cases e
variable {a b e : Expr} {ma mb me : WE}
theorem e_ix (hK : X.K = T.K) (hu : X.A.units + 1 < cLine) (ha : PE X a (canE T W ma)) (hb : PE X b (canE T W mb)) (hs : PlainIx b) : PE X (.Subscript a b pos) (canE T W (wOp oIx ma mb)) :=
  PE.le (pe_ix (ix_ok hK hu) ha hb hs) fun _ _ _ c => rd_op c
/-! ### slices -/
def canO (T : Tx) (W : WX) (m : WO) : L2.TO := fun σ H Q => ∃ ι h σm Qm Em, Rel T ι h H ∧ RS T ι H σm σ ∧ (∀ k h', Qm k h' → ∀ ι' H', Rel T ι' h' H' → Ext ι H ι' H' → Q k H') ∧ PX T ι H Em (L2.WE W σ) ∧ m σm h Qm Em
theorem p_none : PO X none (canO T W pNone) := ⟨fun pins s σ H Q I c => po_none.run pins s σ H Q I (by
  obtain ⟨ι, h, σm, Qm, Em, R, s, q, x, m⟩ := c
  exact q _ _ m _ _ R Ext.refl)⟩
theorem p_some (ha : PE X a (canE T W ma)) : PO X (some a) (canO T W (pSome ma)) := ⟨fun pins s σ H Q I c => (po_some ha).run pins s σ H Q I (by
  obtain ⟨ι, h, σm, Qm, Em, R, s, q, x, m⟩ := c
  refine canE_mk R s x m fun v h1 m1 ι1 H1 u R1 X1 s1 x1 r1 => ?_
  cases v with
  | int i => exact ⟨i, r1.int_, q _ _ m1 _ _ R1 X1⟩
  | _ => exact m1.elim)⟩
theorem sIx_eq (n d : Nat) (o : Option Int) : HT.sIx n d o = Mi.sIx n d o := by
  unfold HT.sIx Mi.sIx
  cases o <;> rfl
theorem RVs.cut {ms : List MV} {vs : List V} (r : RVs T.K ι H ms vs) (lo hi : Option Int) : RVs T.K ι H (Mi.cut ms lo hi) (cutV vs lo hi) := by
  unfold Mi.cut cutV
  rw [← r.length, sIx_eq, sIx_eq]
  exact (r.drop _).take _
def canL (T : Tx) (r : Nat) : V → Option Int → Option Int → Hp → VK → Prop := fun x l u H Q => ∃ ι h mx Qm, Rel T ι h H ∧ RV T.K ι H mx x ∧ PQ T ι H Qm Q ∧ (match mx with
  | .tup xs => Qm (.tup (Mi.cut xs l u)) h
  | .str s => s.length ≤ lim ∧ Qm (.str (String.ofList (Mi.cut s.toList l u))) h
  | .cst xs => Qm (.ref r (h r).length) (al h r (.lst (Mi.cut xs l u)))
  | .ref q i => match rd h q i with
    | some (.lst xs) => Qm (.ref r (h r).length) (al h r (.lst (Mi.cut xs l u)))
    | _ => False
  | _ => False)
theorem cutS_st (s : String) (lo hi : Option Int) : cutS (st s) lo hi = st (String.ofList (Mi.cut s.toList lo hi)) := by
  have e3 : (st s).cps.toList = s.toList.map Char.toNat := by
    unfold st
    rw [Str.ofString_eq_toList]
  unfold cutS Mi.cut
  rw [e3, st_len, sIx_eq, sIx_eq, ← List.map_drop, ← List.map_take]
  unfold st
  rw [Str.ofString_eq_toList, String.toList_ofList, String.length_toList]
theorem sl_ok {r : Nat} (hK : X.K = T.K) : SlR X (canL T r) := by
  intro pins s σ H x v vl vu lo hi sl Q I rx hs pl pu c
  obtain ⟨ι, h, mx, Qm, R, r1, q, m⟩ := c
  cases mx with
  | tup xs =>
    obtain ⟨p, vs, rfl, e1, e2⟩ := r1.tup_
    refine sl_tupA pins s σ H _ v vl vu lo hi sl Q I rx hs pl pu ⟨p, vs, rfl, by rw [hK]; exact e1, fun z => ?_, fun z a ha => q.tup R m ha (e2.cut lo hi)⟩
    have e : Mi.cut xs lo hi = xs := by
      unfold Mi.cut
      rw [← sIx_eq, ← sIx_eq, e2.length, z.1, z.2, ← e2.length]
      simp
    have m : Qm (.tup (Mi.cut xs lo hi)) h := m
    rw [e] at m
    refine q.here R m ?_
    unfold RV
    exact ⟨p, vs, rfl, e1, e2⟩
  | str z =>
    cases r1.str_
    obtain ⟨l, m⟩ := (show z.length ≤ lim ∧ Qm (.str (String.ofList (Mi.cut z.toList lo hi))) h from m)
    refine sl_str pins s σ H _ v vl vu lo hi sl Q I rx hs pl pu ⟨st z, rfl, by rw [st_len]; exact le_line l, ?_⟩
    rw [cutS_st]
    exact q.here R m .str'
  | cst xs =>
    obtain ⟨p, vs, rfl, e1, e2⟩ := r1.cst_
    exact sl_list pins s σ H _ v vl vu lo hi sl Q I rx hs pl pu ⟨p, vs, rfl, by rw [hK]; exact e1.l, fun a ha => q.lst R m ha (e2.cut lo hi)⟩
  | ref a i =>
    have m : (match rd h a i with
      | some (.lst xs) => Qm (.ref r (h r).length) (al h r (.lst (Mi.cut xs lo hi)))
      | _ => False) := m
    split at m
    · rename_i xs ea
      obtain ⟨p, vs, rfl, _, e1, e2⟩ := R.lst_ r1 ea
      exact sl_list pins s σ H _ v vl vu lo hi sl Q I rx hs pl pu ⟨p, vs, rfl, SqL.of e1, fun a ha => q.lst R m ha (e2.cut lo hi)⟩
    · exact m.elim
  | _ => exact m.elim
theorem e_sl {r : Nat} {lo hi : Option Expr} {ml mh : WO} {p2 : Pos} (hK : X.K = T.K) (ha : PE X a (canE T W ma)) (hl : PO X lo (canO T W ml)) (hh : PO X hi (canO T W mh)) :
    PE X (.Subscript a (.Slice lo hi none p2) pos) (canE T W (wSl r ma ml mh)) := PE.le (pe_slice (sl_ok (T := T) (r := r) hK) ha hl hh) fun σ H Q ⟨ι, h, σm, Qm, Em, R, s, q, x, m⟩ => by
  refine canE_mk R s x m fun v h1 m1 ι1 H1 u R1 X1 s1 x1 r1 => ?_
  refine ⟨ι1, h1, σm, _, Em, R1, s1, fun l h2 m2 ι2 H2 R2 X2 => ?_, x1, m1⟩
  refine ⟨ι2, h2, σm, _, Em, R2, s1.ext R1 X2, fun y h3 m3 ι3 H3 R3 X3 => ?_, x1.ext R2 X2, m2⟩
  exact ⟨ι3, h3, v, Qm, R3, RV.ext R2 X3 _ _ (RV.ext R1 X2 _ _ r1), ((q.ext R1 X1).ext R2 X2).ext R3 X3, m3⟩
end
end Mi
end TxMiniC

section TxMiniD
set_option Elab.async false
set_option linter.all false
set_option autoImplicit false
set_option maxRecDepth 100000
set_option maxHeartbeats 4000000
namespace Mi
open PySem PySem.Spec PyProof.Rows L2
/-! ### fields -/
section
variable {T : Tx} {X : Cx} {W : WX} {pos : Pos} {ι : IA} {h : MH} {H : Hp}
abbrev FVR (T : Tx) (ι : IA) (H : Hp) : List (String × MV) → List (Str × V) → Prop := Paired (fun (m : String × MV) (k : Str × V) => k.1 = st m.1 ∧ RV T.K ι H m.2 k.2)
theorem st_beq (a b : String) : (st a == st b) = (a == b) := by
  by_cases c : a = b
  · subst c; simp
  · rw [beq_eq_false_iff_ne.mpr c]
    exact beq_eq_false_iff_ne.mpr fun z => c (st_inj z)
theorem FVR.look : ∀ {fs : List (String × MV)} {gs : List (Str × V)} {f : String}, FVR T ι H fs gs → (∀ v, fs.lookup f = some v → ∃ u, gs.lookup (st f) = some u ∧ RV T.K ι H v u) ∧ (fs.lookup f = none → gs.lookup (st f) = none)
  | _, _, f, .nil => by
    refine ⟨fun v e => ?_, fun _ => rfl⟩
    cases e
  | _, _, f, .cons (a := p) (b := q) ⟨r1, r2⟩ t => by
    obtain ⟨i1, i2⟩ := FVR.look (f := f) t
    obtain ⟨p1, p2⟩ := p
    obtain ⟨q1, q2⟩ := q
    simp only at r1 r2
    subst r1
    rw [List.lookup_cons, List.lookup_cons, st_beq]
    cases c : f == p1 with
    | true => exact ⟨fun v e => ⟨q2, rfl, by cases e; exact r2⟩, fun e => by cases e⟩
    | false => exact ⟨i1, i2⟩
theorem FVR.put {f : String} {v : MV} {u : V} (hv : RV T.K ι H v u) : ∀ {fs : List (String × MV)} {gs : List (Str × V)}, FVR T ι H fs gs → FVR T ι H (Mi.putF f v fs) (L2.putF (st f) u gs)
  | _, _, .nil => .cons ⟨rfl, hv⟩ .nil
  | _, _, .cons (a := p) (b := q) ⟨r1, r2⟩ t => by
    have ih := FVR.put (f := f) hv t
    obtain ⟨p1, p2⟩ := p
    obtain ⟨q1, q2⟩ := q
    simp only at r1 r2
    subst r1
    show FVR T ι H (if f = p1 then (p1, v) :: _ else (p1, p2) :: Mi.putF f v _) (if st p1 = st f then (st p1, u) :: _ else (st p1, q2) :: L2.putF (st f) u _)
    by_cases c : f = p1
    · subst c
      rw [if_pos rfl, if_pos rfl]
      exact .cons ⟨rfl, hv⟩ t
    · rw [if_neg c, if_neg (fun z => c (st_inj z).symm)]
      exact .cons ⟨rfl, r2⟩ ih
theorem FVR.length {fs : List (String × MV)} {gs : List (Str × V)} (r : FVR T ι H fs gs) : fs.length = gs.length := Paired.length r
theorem FVR.ext {ι' : IA} {H' : Hp} (R : Rel T ι h H) (X : Ext ι H ι' H') {fs : List (String × MV)} {gs : List (Str × V)} (r : FVR T ι H fs gs) : FVR T ι' H' fs gs := Paired.imp (fun a b q => ⟨q.1, RV.ext R X _ _ q.2⟩) r
/-- an object changed -/
theorem wr_at {r i : Nat} {p : Addr} {O : HO} {o : MO} {Qm : MH → Prop} {Q : Hp → Prop} (R : Rel T ι h H) (hp : (ι r)[i]? = some p) (ho : Ext ι H ι (upd H p O) → OR T ι (upd H p O) p o) :
    Rel T ι (wr h r i o) (upd H p O) ∧ Ext ι H ι (upd H p O) := by
  have X := ext_wr (O := O) R hp
  exact ⟨rel_wr R hp (ho X), X⟩
theorem wr_lst {r i : Nat} {p : Addr} {ms : List MV} {vs : List V} (R : Rel T ι h H) (hp : (ι r)[i]? = some p) (e : RVs T.K ι H ms vs) :
    Rel T ι (wr h r i (.lst ms)) (upd H p (.lst vs)) ∧ Ext ι H ι (upd H p (.lst vs)) :=
  wr_at (Qm := fun _ => True) (Q := fun _ => True) R hp fun X => ⟨vs, upd_same, RVs.ext R X _ _ e⟩
theorem wr_dic {r i : Nat} {p : Addr} {ms : List (MV × MV)} {vs : List (Key × V)} (R : Rel T ι h H) (hp : (ι r)[i]? = some p) (e : KVR T ι H ms vs) :
    Rel T ι (wr h r i (.dic ms)) (upd H p (.dK vs)) ∧ Ext ι H ι (upd H p (.dK vs)) :=
  wr_at (Qm := fun _ => True) (Q := fun _ => True) R hp fun X => ⟨vs, upd_same, KVR.ext R X e⟩
theorem wr_ins {r i : Nat} {p dx : Addr} {c : String} {ms : List (String × MV)} {vs : List (Str × V)} (R : Rel T ι h H) (hp : (ι r)[i]? = some p) (hc : c ∈ T.Cl) (hf : ∀ p ∈ ms, p.1 ∈ T.Fl) (e : FVR T ι H ms vs) :
    Rel T ι (wr h r i (.ins c ms)) (upd H p (.ins (clA T.K c) dx vs)) ∧ Ext ι H ι (upd H p (.ins (clA T.K c) dx vs)) :=
  wr_at (Qm := fun _ => True) (Q := fun _ => True) R hp fun X => ⟨hc, hf, dx, vs, upd_same, FVR.ext R X e⟩
variable {o e : Expr} {mo me : WE}
theorem e_fld {f : String} (hK : X.K = T.K) (hc : ∀ c ∈ T.Cl, Cls T.K (clA T.K c)) (hn : ∀ c ∈ T.Cl, NoAttr T.K (clA T.K c) (st f)) (he : PE X e (canE T W me)) (hb : attributeBase e (st f) X.env (eval e X.env) = eval e X.env) :
    PE X (.Attribute e (st f) pos) (canE T W (wFld me f)) := PE.le (pe_fld he hb) fun σ H Q ⟨ι, h, σm, Qm, Em, R, s, q, x, m⟩ => by
  refine canE_mk R s x m fun v h1 m1 ι1 H1 u R1 X1 s1 x1 r1 => ?_
  cases v with
  | ref r i =>
    have m1 : (match rd h1 r i with
      | some (.ins _ fs) => match fs.lookup f with
        | some v => Qm v h1
        | none => False
      | _ => False) := m1
    split at m1
    · rename_i c fs ea
      obtain ⟨p, dx, gs, rfl, _, cl, _, e1, e2⟩ := R1.ins_ r1 ea
      split at m1
      · rename_i w el
        obtain ⟨z, e3, e4⟩ := (FVR.look e2).1 w el
        exact ⟨p, _, dx, gs, z, rfl, e1, by rw [hK]; exact hc c cl, by rw [hK]; exact hn c cl, e3, (q.ext R1 X1).here R1 m1 e4⟩
      · exact m1.elim
    · exact m1.elim
  | _ => exact m1.elim
/-! ### what defs promise -/
def spM (T : Tx) (F : WF) : Sp := fun vs H Q E => ∃ ι h ms Qm Em, Rel T ι h H ∧ RVs T.K ι H ms vs ∧ PQ T ι H Qm Q ∧ PX T ι H Em E ∧ F ms h Qm Em
/-- the function object at an address -/
def FdAt (K : PySem.W.Frag) (f : Addr) (fd : FuncData) : Prop := ∃ oc od osl, K.lookup f = some ⟨oc, od, .func fd, osl⟩
theorem FdAt.inj {K : PySem.W.Frag} {f : Addr} {fd fd' : FuncData} (a : FdAt K f fd) (b : FdAt K f fd') : fd = fd' := by
  obtain ⟨_, _, _, a⟩ := a
  obtain ⟨_, _, _, b⟩ := b
  rw [a] at b
  cases b
  rfl
/-- a def of the text: it keeps its reading -/
structure FnM (T : Tx) (P : Program) (w : World) (mg : Str → Option Value) (base : Heap) (k : Nat) (x : String) (ps : List Str) (F : WF) : Prop where
  ok : ∃ fd, FnOk P w T.K mg base (L2.CX P w) k (He.ga T.K (st x)) fd ps (spM T F) ∧ Binds T.K fd ps [] ∧ FdAt T.K (He.ga T.K (st x)) fd
  at_ : mg (st x) = some (.ref (He.ga T.K (st x)))
  kp : PySem.W.keepIn T.K (.ref (He.ga T.K (st x))) = true
/-- a method -/
structure MtM (T : Tx) (P : Program) (w : World) (mg : Str → Option Value) (base : Heap) (k : Nat) (c m : String) (ps : List Str) (F : WF) : Prop where
  ok : ∃ fd, FnOk P w T.K mg base (L2.CX P w) k (He.ma T.K (clA T.K c) (st m)) fd ps (spM T F) ∧ Binds T.K fd ps []
  at_ : Meth T.K (clA T.K c) (st m) (He.ma T.K (clA T.K c) (st m))
variable {P : Program} {w : World} {mg : Str → Option Value} {base : Heap} {k j : Nat} {x c mt : String} {ps : List Str} {F : WF} {es : List Expr} {as : WA}
theorem FnM.mono (f : FnM T P w mg base j x ps F) (h : j ≤ k) : FnM T P w mg base k x ps F := ⟨let ⟨fd, a, b, c⟩ := f.ok; ⟨fd, a.mono h, b, c⟩, f.at_, f.kp⟩
theorem MtM.mono (f : MtM T P w mg base j c mt ps F) (h : j ≤ k) : MtM T P w mg base k c mt ps F := ⟨let ⟨fd, a, b⟩ := f.ok; ⟨fd, a.mono h, b⟩, f.at_⟩
theorem sp_of {σ : L2.St} {Q : VK} {Qm : QV} {Em : QX} {ms : List MV} {vs : List V} (R : Rel T ι h H) (r : RVs T.K ι H ms vs) (q : PQ T ι H Qm Q) (x : PX T ι H Em (L2.WE W σ)) (m : F ms h Qm Em) : spM T F vs H Q (L2.WE W σ) := ⟨ι, h, ms, Qm, Em, R, r, q, x, m⟩
theorem e_call {e : Expr} {p : Pos} (hK : X.K = T.K) (tk : Takes X W) (f : FnM T X.prog X.w X.mg X.base j x ps F) (hj : j ≤ k) (hr : Room k X.A) (hg : Gl X (st x)) (ha : PA X (e :: es) (canA T W as)) (hdb : (st x == ("__debug__" : Str)) = false)
    (he : starEach (e :: es) X.env = (false, eval e X.env) :: starEach es X.env := by rfl) (hpl : (backTo pos (starEach es X.env)).any (·.1) = false := by rfl) :
    PE X (.Call (.Name (st x) p) (e :: es) [] pos) (canE T W (wCall F as)) := by
  obtain ⟨fd, g, b, _⟩ := f.ok
  rw [← hK] at g b
  have kp := f.kp
  have at_ := f.at_
  rw [← hK] at kp at_
  refine PE.le (pe_callS (E := L2.WE W) g (hr.mono hj) hg at_ kp b (fun σ => passAt tk σ) ha hdb he hpl) fun σ H Q ⟨ι, h, σm, Qm, Em, R, s, q, x, m⟩ => ?_
  exact canA_mk R s x m fun ms h1 m1 ι1 H1 vs R1 X1 s1 x1 r1 => sp_of R1 r1 (q.ext R1 X1) x1 m1
theorem e_call0 {p : Pos} (hK : X.K = T.K) (tk : Takes X W) (f : FnM T X.prog X.w X.mg X.base j x ps F) (hj : j ≤ k) (hr : Room k X.A) (hg : Gl X (st x)) (hdb : (st x == ("__debug__" : Str)) = false) :
    PE X (.Call (.Name (st x) p) [] [] pos) (canE T W (wCall F aNil)) := by
  obtain ⟨fd, g, b, _⟩ := f.ok
  rw [← hK] at g b
  have kp := f.kp
  have at_ := f.at_
  rw [← hK] at kp at_
  refine ⟨fun pins s σ H Q I ⟨ι, h, σm, Qm, Em, R, sr, q, x, m⟩ => ?_⟩
  refine wpAny_Call_Name_kw (ld_glob I hg at_ ?_ hdb)
  exact PySem.W.callWith_K0 I.kIn kp (run_fnS (E := L2.WE W) (us := []) g (hr.mono hj) b (passAt tk σ) I .nil (sp_of R RVs.nil q x m))
/-- which methods an expression may come to -/
def MtAll (T : Tx) (P : Program) (w : World) (mg : Str → Option Value) (base : Heap) (k : Nat) (m : String) (tb : String → Option WF) : Prop := ∀ c F, c ∈ T.Cl → tb c = some F → ∃ ps, MtM T P w mg base k c m ps F
theorem MtAll.one (f : MtM T P w mg base j c mt ps F) (h : j ≤ k) : MtAll T P w mg base k mt (tb1 c F) := fun d G _ e => by
  unfold tb1 at e
  split at e
  · rename_i z
    subst z
    cases e
    exact ⟨ps, f.mono h⟩
  · cases e
theorem MtAll.or {a b : String → Option WF} (f : MtAll T P w mg base k mt a) (g : MtAll T P w mg base k mt b) : MtAll T P w mg base k mt (tbO a b) := fun d G hd e => by
  have e : (match a d with | some F => some F | none => b d) = some G := e
  split at e
  · rename_i F ea
    cases e
    exact f d G hd ea
  · exact g d G hd e
theorem nolook {fs : List (String × MV)} {gs : List (Str × V)} {Fl : List String} (r : FVR T ι H fs gs) (hf : ∀ p ∈ fs, p.1 ∈ Fl) (hm : mt ∉ Fl) : gs.lookup (st mt) = none := by
  refine (FVR.look r).2 ?_
  cases e : fs.lookup mt with
  | none => rfl
  | some v =>
    have : (mt, v) ∈ fs := by
      have := List.lookup_eq_some_iff.mp e
      obtain ⟨l1, l2, e1, _⟩ := this
      rw [e1]
      simp
    exact absurd (hf _ this) hm
end
end Mi
end TxMiniD

section TxMiniF
set_option Elab.async false
set_option linter.all false
set_option autoImplicit false
set_option maxRecDepth 100000
set_option maxHeartbeats 4000000
namespace Mi
open PySem PySem.Spec PyProof.Rows L2
section
variable {T : Tx} {X : Cx} {W : WX} {pos : Pos} {ι : IA} {h : MH} {H : Hp} {o e : Expr} {mo me : WE}
variable {P : Program} {w : World} {mg : Str → Option Value} {base : Heap} {k j : Nat} {x c mt : String} {ps : List Str} {F : WF} {es : List Expr} {as : WA} {tb : String → Option WF}
/-! ### methods -/
theorem e_meth {apos : Pos} {pl : Sem Bool} (hK : X.K = T.K) (tk : Takes X W) (hc : ∀ c ∈ T.Cl, Cls T.K (clA T.K c)) (f : MtAll T X.prog X.w X.mg X.base k mt tb) (hm : mt ∉ T.Fl) (hr : Room k X.A) (ho : PE X o (canE T W mo)) (ha : PA X (e :: es) (canA T W as))
    (hst : starEach (e :: es) X.env = (false, eval e X.env) :: starEach es X.env := by rfl) (hpl : (backTo pos (starEach es X.env)).any (·.1) = false := by rfl)
    (ht : eval (.Call (.Attribute o (st mt) apos) (e :: es) [] pos) X.env = (do
      let ov ← eval o X.env
      standAt apos.atName
      let (f, first) ← holding [ov] (getMethod ov (st mt) pl)
      callWith pos f first (backTo pos (starEach (e :: es) X.env)) (backToKw pos (keywordEach [] X.env))) := by rfl) :
    PE X (.Call (.Attribute o (st mt) apos) (e :: es) [] pos) (canE T W (wMeth tb mo as)) := by
  refine ⟨fun pins s σ H Q I ⟨ι, h, σm, Qm, Em, R, sr, q, xx, m⟩ => ?_⟩
  refine PySem.W.methodCall_KW (pl := pl) (thn (ho.run pins s σ H (fun x H1 => ∃ ι1 h1 r i c fs F, Rel T ι1 h1 H1 ∧ Ext ι H ι1 H1 ∧ RV T.K ι1 H1 (.ref r i) x ∧ rd h1 r i = some (.ins c fs) ∧ tb c = some F ∧ as σm h1 (fun vs h2 => F (.ref r i :: vs) h2 Qm Em) Em) I
    (canE_mk R sr xx m fun v h1 m1 ι1 H1 u R1 X1 s1 x1 r1 => ?_)) fun u s1 ⟨x, H1, I1, rx, ι1, h1, r, i, c, fs, F, R1, X1, r1, ea, et, m1⟩ => ?_) ht
  · cases v with
    | ref r i =>
      have m2 : (match rd h1 r i with
        | some (.ins c _) => match tb c with
          | some F => as σm h1 (fun vs h2 => F (.ref r i :: vs) h2 Qm Em) Em
          | none => False
        | _ => False) := m1
      split at m2
      · rename_i c fs ea
        split at m2
        · rename_i F et
          exact ⟨ι1, h1, r, i, c, fs, F, R1, X1, r1, ea, et, m2⟩
        · exact m2.elim
      · exact m2.elim
    | _ => exact m1.elim
  · obtain ⟨p, dx, gs, rfl, e0, cl, hf, e1, e2⟩ := R1.ins_ r1 ea
    obtain rfl : u = Value.ref p := rx
    obtain ⟨ps, M⟩ := f c F cl et
    obtain ⟨fd, g, b⟩ := M.ok
    have at_ := M.at_
    have hcl := hc c cl
    rw [← hK] at g b at_ hcl e1
    refine getmeth_ok I1 e1 hcl at_ (nolook e2 hf hm) ?_
    have A1 : canA T W as σ H1 (fun vs H2 => spM T F (.ref p :: vs) H2 Q (L2.WE W σ)) :=
      canA_mk R1 (sr.ext R X1) (xx.ext R1 X1) m1 fun ms h2 m2 ι2 H2 vs R2 X2 s2 x2 r2 => sp_of R2 (RVs.cons (RV.ext R1 X2 _ _ r1) r2) ((q.ext R1 X1).ext R2 X2) x2 m2
    refine PySem.W.callWith_K (first := [.ref p]) (h₀ := X.base) I.ok.mod.kin at_.kp (thn (ha.run pos pins s1 σ H1 _ I1 A1) fun us s2 ⟨vs, H2, I2, r, q2⟩ => ⟨I2.kIn, ?_⟩) hst hpl
    exact run_fnS (E := L2.WE W) (us := .ref p :: us) (vs := .ref p :: vs) g hr b (passAt tk σ) I2 (.cons rfl r) q2
theorem e_meth0 {apos : Pos} {pl : Sem Bool} (hK : X.K = T.K) (tk : Takes X W) (hc : ∀ c ∈ T.Cl, Cls T.K (clA T.K c)) (f : MtAll T X.prog X.w X.mg X.base k mt tb) (hm : mt ∉ T.Fl) (hr : Room k X.A) (ho : PE X o (canE T W mo))
    (ht : eval (.Call (.Attribute o (st mt) apos) [] [] pos) X.env = (do
      let ov ← eval o X.env
      standAt apos.atName
      let (f, first) ← holding [ov] (getMethod ov (st mt) pl)
      callWith pos f first (backTo pos (starEach [] X.env)) (backToKw pos (keywordEach [] X.env))) := by rfl) :
    PE X (.Call (.Attribute o (st mt) apos) [] [] pos) (canE T W (wMeth tb mo aNil)) := by
  refine ⟨fun pins s σ H Q I ⟨ι, h, σm, Qm, Em, R, sr, q, xx, m⟩ => ?_⟩
  refine PySem.W.methodCall_KW (pl := pl) (thn (ho.run pins s σ H (fun x H1 => ∃ ι1 h1 r i c fs F, Rel T ι1 h1 H1 ∧ Ext ι H ι1 H1 ∧ RV T.K ι1 H1 (.ref r i) x ∧ rd h1 r i = some (.ins c fs) ∧ tb c = some F ∧ F [.ref r i] h1 Qm Em) I
    (canE_mk R sr xx m fun v h1 m1 ι1 H1 u R1 X1 s1 x1 r1 => ?_)) fun u s1 ⟨x, H1, I1, rx, ι1, h1, r, i, c, fs, F, R1, X1, r1, ea, et, m1⟩ => ?_) ht
  · cases v with
    | ref r i =>
      have m2 : (match rd h1 r i with
        | some (.ins c _) => match tb c with
          | some F => F [.ref r i] h1 Qm Em
          | none => False
        | _ => False) := m1
      split at m2
      · rename_i c fs ea
        split at m2
        · rename_i F et
          exact ⟨ι1, h1, r, i, c, fs, F, R1, X1, r1, ea, et, m2⟩
        · exact m2.elim
      · exact m2.elim
    | _ => exact m1.elim
  · obtain ⟨p, dx, gs, rfl, e0, cl, hf, e1, e2⟩ := R1.ins_ r1 ea
    obtain rfl : u = Value.ref p := rx
    obtain ⟨ps, M⟩ := f c F cl et
    obtain ⟨fd, g, b⟩ := M.ok
    have at_ := M.at_
    have hcl := hc c cl
    rw [← hK] at g b at_ hcl e1
    refine getmeth_ok I1 e1 hcl at_ (nolook e2 hf hm) ?_
    exact PySem.W.callWith_K0 (first := [.ref p]) I1.kIn at_.kp (run_fnS (E := L2.WE W) (us := [.ref p]) (vs := [.ref p]) g hr b (passAt tk σ) I1 (.cons rfl .nil)
      (sp_of R1 (RVs.one r1) (q.ext R1 X1) (xx.ext R1 X1) m1))
/-! ### instances made -/
/-- a class whose instances are made here -/
structure MkM (T : Tx) (P : Program) (w : World) (mg : Str → Option Value) (base : Heap) (k : Nat) (c : String) (ps : List Str) (F : WF) : Prop where
  cl : c ∈ T.Cl
  ok : ∃ fd, FnOk P w T.K mg base (L2.CX P w) k (He.ma T.K (clA T.K c) (st "__init__")) fd ps (spM T F) ∧ Binds T.K fd ps []
  mk_ : Mk T.K (clA T.K c) (He.ma T.K (clA T.K c) (st "__init__"))
  at_ : mg (st c) = some (.ref (clA T.K c))
theorem MkM.mono (f : MkM T P w mg base j c ps F) (h : j ≤ k) : MkM T P w mg base k c ps F := ⟨f.cl, let ⟨fd, a, b⟩ := f.ok; ⟨fd, a.mono h, b⟩, f.mk_, f.at_⟩
theorem run_mk {pins : List (Addr × Obj)} {σ : L2.St} {H : Hp} {s : Shared} {Q : VK} {us : List Value} {vs : List V} {C f : Addr} {fd : FuncData} {ps : List Str} {sp : Sp} (M : Mk X.K C f) (F : FnOk X.prog X.w X.K X.mg X.base (L2.CX X.prog X.w) k f fd ps sp) (hr : Room (k + 1) X.A) (hb : Binds X.K fd ps [])
    (tk : Takes X W) (I : Inv X pins σ H s) (r : Vals vs us)
    (h : ∀ x dx, H x = none → H dx = none → dx ≠ x → sp (.ref x :: vs) (upd (upd H dx (.own x)) x (.ins C dx [])) (fun v H2 => v = .non ∧ Q (.ref x) H2) (L2.WE W σ)) :
    wpAny (model X.prog X.w) X.A (call (.ref C) us) (EP X pins σ Q) X.xe s := by
  have hq := h (s.heap.objs.size + 1) s.heap.objs.size (I.hok.fresh (Nat.le_succ _)) (I.hok.fresh (Nat.le_refl _)) (Nat.ne_of_lt (Nat.lt_succ_self _))
  have I2 := Inv.made (C := C) I
  have r2 : Vals (V.ref (s.heap.objs.size + 1) :: vs) (Value.ref (s.heap.objs.size + 1) :: us) := .cons rfl r
  have hl : ((Value.ref (s.heap.objs.size + 1) :: us) ++ []).length = ps.length := by
    rw [List.append_nil, ← r2.length]
    exact F.len _ _ _ _ hq
  have b := hb _ (Value.ref (s.heap.objs.size + 1) :: us) I2.kIn hl
  rw [List.append_nil] at b
  refine wpAny_call (make_map (f := f) I.kIn M.makes M.init (beq_iff_eq.mp M.fn) (codeAny_mono (F.run _ X.stack _ _ ⟨Value.ref (s.heap.objs.size + 1) :: us, []⟩ (Value.ref (s.heap.objs.size + 1) :: us) _ _ (L2.WE W σ) (hr.make C us [])
    (I2.env0.make C us []) b r2 hq) fun r s' hq' => ?_))
  cases r with
  | error e => exact passAt tk σ pins _ _ e s' I2 hq'
  | ok fl =>
    cases fl with
    | ret u =>
      obtain ⟨v, H', I3, rv, ev, q3⟩ := I2.after hq'
      subst ev
      exact ⟨rv, ⟨V.ref (s.heap.objs.size + 1), H', I3, rfl, q3⟩⟩
    | next => exact False.elim hq'
    | brk => exact False.elim hq'
    | cont => exact False.elim hq'
theorem ins_at {r : Nat} {p dx : Addr} (cl : c ∈ T.Cl) (R : Rel T ι h H) (hp : H p = none) (hd : H dx = none) (ne : dx ≠ p) :
    Rel T (ia ι r p) (al h r (.ins c [])) (upd (upd H dx (.own p)) p (.ins (clA T.K c) dx [])) ∧ Ext ι H (ia ι r p) (upd (upd H dx (.own p)) p (.ins (clA T.K c) dx [])) ∧
      RV T.K (ia ι r p) (upd (upd H dx (.own p)) p (.ins (clA T.K c) dx [])) (.ref r (h r).length) (.ref p) := by
  obtain ⟨R1, X1⟩ := aside (O := .own p) R hd
  obtain ⟨R2, X2, r2⟩ := new_at (r := r) (p := p) (O := .ins (clA T.K c) dx []) (o := .ins c []) R1 (by rw [upd_ne ne.symm]; exact hp) fun _ => ⟨cl, by simp, dx, [], upd_same, .nil⟩
  exact ⟨R2, Ext.trans R1 X1 X2, r2⟩
theorem sp_mk {r : Nat} {σ : L2.St} {Q : VK} {Qm : QV} {Em : QX} {ms : List MV} {vs : List V} (cl : c ∈ T.Cl) (R : Rel T ι h H) (rv : RVs T.K ι H ms vs) (q : PQ T ι H Qm Q) (xx : PX T ι H Em (L2.WE W σ))
    (m : F (.ref r (h r).length :: ms) (al h r (.ins c [])) (fun v h2 => match v with | .non => Qm (.ref r (h r).length) h2 | _ => False) Em) :
    ∀ x dx, H x = none → H dx = none → dx ≠ x → spM T F (.ref x :: vs) (upd (upd H dx (.own x)) x (.ins (clA T.K c) dx [])) (fun v H2 => v = .non ∧ Q (.ref x) H2) (L2.WE W σ) := fun p dx hp hd ne => by
  obtain ⟨R1, X1, r1⟩ := ins_at (r := r) cl R hp hd ne
  refine ⟨_, _, _, _, Em, R1, RVs.cons r1 (RVs.ext R X1 _ _ rv), ?_, xx.ext R1 X1, m⟩
  intro v h2 m2 ι2 H2 u R2 X2 r2
  cases v with
  | non => exact ⟨r2.non_, q _ _ m2 _ _ _ R2 (Ext.trans R1 X1 X2) (RV.ext R1 X2 _ _ r1)⟩
  | _ => exact m2.elim
theorem e_make {r : Nat} {e : Expr} {p : Pos} (hK : X.K = T.K) (tk : Takes X W) (f : MkM T X.prog X.w X.mg X.base j c ps F) (hj : j ≤ k) (hr : Room (k + 1) X.A) (hg : Gl X (st c)) (ha : PA X (e :: es) (canA T W as)) (hdb : (st c == ("__debug__" : Str)) = false)
    (he : starEach (e :: es) X.env = (false, eval e X.env) :: starEach es X.env := by rfl) (hpl : (backTo pos (starEach es X.env)).any (·.1) = false := by rfl) :
    PE X (.Call (.Name (st c) p) (e :: es) [] pos) (canE T W (wMake c r F as)) := by
  obtain ⟨fd, g, b⟩ := f.ok
  have M := f.mk_
  have at_ := f.at_
  have cl := f.cl
  rw [← hK] at g b M at_
  refine ⟨fun pins s σ H Q I ⟨ι, h, σm, Qm, Em, R, sr, q, xx, m⟩ => ?_⟩
  refine wpAny_Call_Name_kw (ld_glob I hg at_ ?_ hdb)
  refine PySem.W.callWith_K (h₀ := X.base) I.ok.mod.kin M.kp (thn (ha.run pos pins s σ H (fun vs H1 => ∃ ι1 h1 ms, Rel T ι1 h1 H1 ∧ Ext ι H ι1 H1 ∧ RVs T.K ι1 H1 ms vs ∧
      F (.ref r (h1 r).length :: ms) (al h1 r (.ins c [])) (fun v h2 => match v with | .non => Qm (.ref r (h1 r).length) h2 | _ => False) Em) I
      (canA_mk R sr xx m fun ms h1 m1 ι1 H1 vs R1 X1 s1 x1 r1 => ⟨ι1, h1, ms, R1, X1, r1, m1⟩)) fun us s1 ⟨vs, H1, I1, ru, ι1, h1, ms, R1, X1, r1, m1⟩ => ⟨I1.kIn, ?_⟩) he hpl
  refine run_mk M g (hr.mono (by omega)) b tk I1 ru ?_
  rw [hK]
  exact sp_mk cl R1 r1 (q.ext R1 X1) (xx.ext R1 X1) m1
theorem e_make0 {r : Nat} {p : Pos} (hK : X.K = T.K) (tk : Takes X W) (f : MkM T X.prog X.w X.mg X.base j c ps F) (hj : j ≤ k) (hr : Room (k + 1) X.A) (hg : Gl X (st c)) (hdb : (st c == ("__debug__" : Str)) = false) :
    PE X (.Call (.Name (st c) p) [] [] pos) (canE T W (wMake c r F aNil)) := by
  obtain ⟨fd, g, b⟩ := f.ok
  have M := f.mk_
  have at_ := f.at_
  have cl := f.cl
  rw [← hK] at g b M at_
  refine ⟨fun pins s σ H Q I ⟨ι, h, σm, Qm, Em, R, sr, q, xx, m⟩ => ?_⟩
  refine wpAny_Call_Name_kw (ld_glob I hg at_ ?_ hdb)
  refine PySem.W.callWith_K0 I.kIn M.kp (run_mk (us := []) M g (hr.mono (by omega)) b tk I .nil ?_)
  rw [hK]
  exact sp_mk cl R RVs.nil q xx m
/-! ### built-in functions -/
def canB (T : Tx) (b : List MV → MH → QV → Prop) : List V → Hp → VK → Prop := fun vs H Q => ∃ ι h ms Qm, Rel T ι h H ∧ RVs T.K ι H ms vs ∧ PQ T ι H Qm Q ∧ b ms h Qm
theorem rd_b {b : List MV → MH → QV → Prop} {σ : L2.St} {H : Hp} {Q : VK} (c : canE T W (wB b as) σ H Q) : tCB (canB T b) (canA T W as) σ H Q := by
  obtain ⟨ι, h, σm, Qm, Em, R, s, q, x, m⟩ := c
  exact canA_mk R s x m fun ms h1 m1 ι1 H1 vs R1 X1 s1 x1 r1 => ⟨ι1, h1, ms, Qm, R1, r1, q.ext R1 X1, m1⟩
theorem e_b {x : Str} {id : String} {p : Pos} {b : List MV → MH → QV → Prop} (hb : CallR X (.builtin id) (canB T b)) (hg : Gl X x) (hm : X.mg x = none) (hv : bootBuiltins x = some (.builtin id)) (ha : PA X (e :: es) (canA T W as)) (hn : x ≠ "__name__") (hdb : (x == ("__debug__" : Str)) = false)
    (he : starEach (e :: es) X.env = (false, eval e X.env) :: starEach es X.env := by rfl) (hpl : (backTo pos (starEach es X.env)).any (·.1) = false := by rfl) : PE X (.Call (.Name x p) (e :: es) [] pos) (canE T W (wB b as)) :=
  PE.le (pe_callB hb hg hm hv ha hn hdb he hpl) fun _ _ _ c => rd_b c
theorem e_bt {x : Str} {id : String} {p : Pos} {b : List MV → MH → QV → Prop} (hb : CallR X (.type id) (canB T b)) (hg : Gl X x) (hm : X.mg x = none) (hv : bootBuiltins x = some (.type id)) (ha : PA X (e :: es) (canA T W as)) (hn : x ≠ "__name__") (hdb : (x == ("__debug__" : Str)) = false)
    (he : starEach (e :: es) X.env = (false, eval e X.env) :: starEach es X.env := by rfl) (hpl : (backTo pos (starEach es X.env)).any (·.1) = false := by rfl) : PE X (.Call (.Name x p) (e :: es) [] pos) (canE T W (wB b as)) :=
  PE.le (pe_callTy hb hg hm hv ha hn hdb he hpl) fun _ _ _ c => rd_b c
theorem RVs.one_ {K : PySem.W.Frag} {m : MV} {vs : List V} (r : RVs K ι H [m] vs) : ∃ v, vs = [v] ∧ RV K ι H m v := by
  unfold RVs at r
  obtain ⟨v, r', rfl, e1, e2⟩ := r
  unfold RVs at e2
  subst e2
  exact ⟨v, rfl, e1⟩
theorem RVs.two_ {K : PySem.W.Frag} {m n : MV} {vs : List V} (r : RVs K ι H [m, n] vs) : ∃ v u, vs = [v, u] ∧ RV K ι H m v ∧ RV K ι H n u := by
  unfold RVs at r
  obtain ⟨v, r', rfl, e1, e2⟩ := r
  obtain ⟨u, rfl, e3⟩ := RVs.one_ e2
  exact ⟨v, u, rfl, e1, e3⟩
theorem b_len (hK : X.K = T.K) : CallR X (.builtin "len") (canB T bLen) := by
  intro pins s σ H xs us Q I r c
  obtain ⟨ι, h, ms, Qm, R, rv, q, m⟩ := c
  unfold bLen at m
  split at m
  · obtain ⟨v, rfl, r1⟩ := rv.one_
    obtain ⟨p, vs, rfl, e1, e2⟩ := r1.tup_
    exact call_len_seq pins s σ H _ us Q I r ⟨p, vs, rfl, .inr (by rw [hK]; exact e1), by rw [← e2.length]; exact q.here R m.2 .int'⟩
  · obtain ⟨v, rfl, r1⟩ := rv.one_
    obtain ⟨p, vs, rfl, e1, e2⟩ := r1.cst_
    exact call_len_seq pins s σ H _ us Q I r ⟨p, vs, rfl, .inl (by rw [hK]; exact e1.l), by rw [← e2.length]; exact q.here R m .int'⟩
  · obtain ⟨v, rfl, r1⟩ := rv.one_
    cases r1.str_
    exact call_len pins s σ H _ us Q I r ⟨_, _, rfl, ⟨by rw [st_len]; exact le_line m.1, rfl⟩, by rw [st_len]; exact q.here R m.2 .int'⟩
  · obtain ⟨v, rfl, r1⟩ := rv.one_
    split at m
    · rename_i ys ea
      obtain ⟨p, vs, rfl, _, e1, e2⟩ := R.lst_ r1 ea
      exact call_len_seq pins s σ H _ us Q I r ⟨p, vs, rfl, .inl (SqL.of e1), by rw [← e2.length]; exact q.here R m .int'⟩
    · rename_i kvs ea
      obtain ⟨p, kws, rfl, _, e1, e2⟩ := R.dic_ r1 ea
      cases r with
      | cons r0 rr =>
        cases rr
        cases r0
        refine d_len I (.inl e1) fun t s' I' => ⟨.int kws.length, H, I', ⟨_, rfl⟩, ?_⟩
        rw [← Paired.length e2]
        exact q.here R m .int'
    · exact m.elim
  · exact m.elim
theorem b_int : CallR X (.type "int") (canB T bInt) := by
  intro pins s σ H xs us Q I r c
  obtain ⟨ι, h, ms, Qm, R, rv, q, m⟩ := c
  unfold bInt at m
  split at m
  · obtain ⟨v, rfl, r1⟩ := rv.one_
    cases r1.int_
    exact call_int1 pins s σ H _ us Q I r (.inl ⟨_, rfl, q.here R m .int'⟩)
  · obtain ⟨v, rfl, r1⟩ := rv.one_
    cases r1.bl_
    exact call_int1 pins s σ H _ us Q I r (.inr ⟨_, rfl, q.here R m .int'⟩)
  · exact m.elim
theorem b_min (hc : X.calm = true) : CallR X (.builtin "min") (canB T bMin) := by
  intro pins s σ H xs us Q I r c
  obtain ⟨ι, h, ms, Qm, R, rv, q, m⟩ := c
  unfold bMin at m
  split at m
  · obtain ⟨v, u, rfl, r1, r2⟩ := rv.two_
    cases r1.int_; cases r2.int_
    exact call_min2 hc pins s σ H _ us Q I r ⟨_, _, rfl, q.here R m .int'⟩
  · exact m.elim
theorem b_max (hc : X.calm = true) : CallR X (.builtin "max") (canB T bMax) := by
  intro pins s σ H xs us Q I r c
  obtain ⟨ι, h, ms, Qm, R, rv, q, m⟩ := c
  unfold bMax at m
  split at m
  · obtain ⟨v, u, rfl, r1, r2⟩ := rv.two_
    cases r1.int_; cases r2.int_
    exact call_max2 hc pins s σ H _ us Q I r ⟨_, _, rfl, q.here R m .int'⟩
  · exact m.elim
theorem lstOf_ok {m : MV} {v : V} {xs : List MV} (R : Rel T ι h H) (r : RV T.K ι H m v) (e : lstOf h m = some xs) : ∃ p vs, v = .ref p ∧ L2.SqL T.K H p vs ∧ RVs T.K ι H xs vs := by
  cases m with
  | cst ys =>
    cases e
    obtain ⟨p, vs, rfl, e1, e2⟩ := r.cst_
    exact ⟨p, vs, rfl, e1.l, e2⟩
  | ref a i =>
    have e : (match rd h a i with | some (.lst xs) => some xs | _ => none) = some xs := e
    split at e
    · rename_i ys ea
      cases e
      obtain ⟨p, vs, rfl, _, e1, e2⟩ := R.lst_ r ea
      exact ⟨p, vs, rfl, SqL.of e1, e2⟩
    · cases e
  | _ => cases e
theorem allB_ok : ∀ {ms : List MV} {vs : List V} {bs : List Bool}, RVs T.K ι H ms vs → allB ms = some bs → vs = bs.map V.bl
  | [], _, _, r, e => by unfold RVs at r; cases e; exact r
  | m :: ms, _, bs, r, e => by
    unfold RVs at r
    obtain ⟨v, r', rfl, e1, e2⟩ := r
    cases m with
    | bl b =>
      obtain ⟨bs', e3, rfl⟩ := Option.map_eq_some_iff.mp (show (allB ms).map (b :: ·) = some bs from e)
      rw [e1.bl_, allB_ok e2 e3]
      rfl
    | _ => cases e
theorem allI_ok : ∀ {ms : List MV} {vs : List V} {bs : List Int}, RVs T.K ι H ms vs → allI ms = some bs → vs = bs.map V.int
  | [], _, _, r, e => by unfold RVs at r; cases e; exact r
  | m :: ms, _, bs, r, e => by
    unfold RVs at r
    obtain ⟨v, r', rfl, e1, e2⟩ := r
    cases m with
    | int b =>
      obtain ⟨bs', e3, rfl⟩ := Option.map_eq_some_iff.mp (show (allI ms).map (b :: ·) = some bs from e)
      rw [e1.int_, allI_ok e2 e3]
      rfl
    | _ => cases e
theorem b_all (hK : X.K = T.K) (hc : X.calm = true) : CallR X (.builtin "all") (canB T bAll) := by
  intro pins s σ H xs us Q I r c
  obtain ⟨ι, h, ms, Qm, R, rv, q, m⟩ := c
  unfold bAll at m
  split at m
  rotate_left
  · exact m.elim
  · obtain ⟨v, rfl, r1⟩ := rv.one_
    split at m
    · rename_i bs eb
      obtain ⟨ys, e1, e2⟩ := Option.bind_eq_some_iff.mp eb
      obtain ⟨p, vs, rfl, e3, e4⟩ := lstOf_ok R r1 e1
      rw [allB_ok e4 e2] at e3
      exact cr_all hc pins s σ H _ us Q I r ⟨p, bs, rfl, by rw [hK]; exact e3, q.here R m .bl'⟩
    · exact m.elim
theorem b_sum (hK : X.K = T.K) (hc : X.calm = true) : CallR X (.builtin "sum") (canB T bSum) := by
  intro pins s σ H xs us Q I r c
  obtain ⟨ι, h, ms, Qm, R, rv, q, m⟩ := c
  unfold bSum at m
  split at m
  rotate_left
  · exact m.elim
  · obtain ⟨v, rfl, r1⟩ := rv.one_
    split at m
    · rename_i bs eb
      obtain ⟨ys, e1, e2⟩ := Option.bind_eq_some_iff.mp eb
      obtain ⟨p, vs, rfl, e3, e4⟩ := lstOf_ok R r1 e1
      rw [allI_ok e4 e2] at e3
      exact cr_sum hc pins s σ H _ us Q I r ⟨p, bs, rfl, by rw [hK]; exact e3, q.here R m .int'⟩
    · exact m.elim
theorem seqOf_ok {m : MV} {v : V} {xs : List MV} (R : Rel T ι h H) (r : RV T.K ι H m v) (e : seqOf h m = some xs) : ∃ p vs, v = .ref p ∧ (L2.SqL T.K H p vs ∨ L2.SqT T.K H p vs) ∧ RVs T.K ι H xs vs := by
  cases m with
  | tup ys =>
    cases e
    obtain ⟨p, vs, rfl, e1, e2⟩ := r.tup_
    exact ⟨p, vs, rfl, .inr e1, e2⟩
  | _ => exact let ⟨p, vs, e1, e2, e3⟩ := lstOf_ok R r e; ⟨p, vs, e1, .inl e2, e3⟩
theorem b_list {r : Nat} (hK : X.K = T.K) : CallR X (.type "list") (canB T (bList r)) := by
  intro pins s σ H xs us Q I ru c
  obtain ⟨ι, h, ms, Qm, R, rv, q, m⟩ := c
  unfold bList at m
  split at m
  rotate_left
  · exact m.elim
  · obtain ⟨v, rfl, r1⟩ := rv.one_
    split at m
    · rename_i ys e1
      obtain ⟨p, vs, rfl, e3, e4⟩ := seqOf_ok R r1 e1
      exact call_list_of pins s σ H _ us Q I ru ⟨p, vs, rfl, by rw [hK]; exact e3, fun a ha => q.lst R m ha e4⟩
    · exact m.elim
theorem b_tuple (hK : X.K = T.K) : CallR X (.type "tuple") (canB T bTuple) := by
  intro pins s σ H xs us Q I ru c
  obtain ⟨ι, h, ms, Qm, R, rv, q, m⟩ := c
  unfold bTuple at m
  split at m
  rotate_left
  · exact m.elim
  · obtain ⟨v, rfl, r1⟩ := rv.one_
    split at m
    · rename_i ys e1
      obtain ⟨p, vs, rfl, e3, e4⟩ := seqOf_ok R r1 e1
      rcases e3 with e3 | e3
      · exact call_tuple_of pins s σ H _ us Q I ru ⟨p, vs, rfl, .inl ⟨by rw [hK]; exact e3, fun a ha => q.tup R m ha e4⟩⟩
      · refine call_tuple_of pins s σ H _ us Q I ru ⟨p, vs, rfl, .inr ⟨by rw [hK]; exact e3, q.here R m ?_⟩⟩
        unfold RV
        exact ⟨p, vs, rfl, e3, e4⟩
    · exact m.elim
/-! ### isinstance -/
def tyNames : List String := ["NoneType", "bool", "int", "str", "tuple", "list"]
theorem tyN_ok {m : MV} {v : V} {t : String} (R : Rel T ι h H) (r : RV T.K ι H m v) (e : tyN h m = some t) : t ∈ tyNames ∧ TyX T.K H v (.type t) := by
  cases m with
  | non => cases r.non_; cases e; exact ⟨by decide, .base .non⟩
  | bl _ => cases r.bl_; cases e; exact ⟨by decide, .base (.bl _)⟩
  | int _ => cases r.int_; cases e; exact ⟨by decide, .base (.int _)⟩
  | str _ => cases r.str_; cases e; exact ⟨by decide, .base (.str _)⟩
  | tup ys =>
    cases e
    obtain ⟨p, vs, rfl, e1, e2⟩ := r.tup_
    refine ⟨by decide, ?_⟩
    rcases e1 with (e1 | ⟨ob, e1⟩) | ⟨ob, its, n, e1, e3, _⟩
    · exact .base (.tup e1)
    · exact .fTuple e1
    · exact .kTuple e1 e3
  | cst _ => cases e
  | exc _ => cases e
  | ref a i =>
    have e : (match rd h a i with | some (.lst _) => some "list" | _ => none) = some t := e
    split at e
    · rename_i ys ea
      cases e
      obtain ⟨p, vs, rfl, _, e1, e2⟩ := R.lst_ r ea
      exact ⟨by decide, .base (.lst e1)⟩
    · cases e
theorem e_isi {ty : String} {p p2 : Pos} (hK : X.K = T.K) (hg : Gl X "isinstance") (hm : X.mg "isinstance" = none) (hgt : Gl X (st ty)) (hmt : X.mg (st ty) = none) (hv : bootBuiltins (st ty) = some (.type ty)) (hn : st ty ≠ "__name__") (hdb : (st ty == ("__debug__" : Str)) = false)
    (hk : ∀ t ∈ tyNames, PySem.W.kitOne T.K (.type t) (.type ty) = some (tySub t ty)) (he : PE X e (canE T W me))
    (hs : starEach [e, .Name (st ty) p2] X.env = (false, eval e X.env) :: starEach [.Name (st ty) p2] X.env := by rfl) (hpl : (backTo pos (starEach [.Name (st ty) p2] X.env)).any (·.1) = false := by rfl) :
    PE X (.Call (.Name "isinstance" p) [e, .Name (st ty) p2] [] pos) (canE T W (bIsi [ty] me)) := by
  refine PE.le (pe_callB call_isi hg hm (by decide +kernel) (pa_cons he (pa_cons (pe_bltn (v := V.ty ty) hgt hmt hv rfl hn hdb) pa_nil) hs) (by decide) (by decide) hs hpl) fun σ H Q ⟨ι, h, σm, Qm, Em, R, s, q, x, m⟩ => ?_
  refine canE_mk R s x m fun v h1 m1 ι1 H1 u R1 X1 s1 x1 r1 => ?_
  have m1 : (match tyN h1 v with | some t => Qm (.bl ([ty].any (tySub t))) h1 | none => False) := m1
  split at m1
  · rename_i t et
    obtain ⟨t1, t2⟩ := tyN_ok R1 r1 et
    refine ⟨u, .ty ty, .type t, .type ty, tySub t ty, rfl, .ty ty, by rw [hK]; exact t2, by rw [hK]; exact hk t t1, ?_⟩
    have m1 : Qm (.bl (tySub t ty || false)) h1 := m1
    rw [Bool.or_false] at m1
    exact (q.ext R1 X1).here R1 m1 .bl'
  · exact m1.elim
/-! ### built-in methods -/
def canM (T : Tx) (b : MV → List MV → MH → QV → Prop) : V → List V → Hp → VK → Prop := fun x vs H Q => ∃ ι h mx ms Qm, Rel T ι h H ∧ RV T.K ι H mx x ∧ RVs T.K ι H ms vs ∧ PQ T ι H Qm Q ∧ b mx ms h Qm
theorem tyV_of {m : MV} {v : V} {ty : String} (R : Rel T ι h H) (r : RV T.K ι H m v) (e : hasTy ty h m = true) : tyV T.K ty v H := by
  cases m with
  | str _ => cases r.str_; exact beq_iff_eq.mp e
  | ref a i =>
    have e : (match rd h a i with | some (.lst _) => ty == "list" | some (.dic _) => ty == "dict" | _ => false) = true := e
    split at e
    · rename_i ys ea
      obtain ⟨p, vs, rfl, _, e1, e2⟩ := R.lst_ r ea
      exact .inl ⟨beq_iff_eq.mp e, vs, SqL.of e1⟩
    · rename_i ys ea
      obtain ⟨p, vs, rfl, _, e1, e2⟩ := R.dic_ r ea
      exact .inr (.inr (.inl ⟨beq_iff_eq.mp e, .inl ⟨vs, e1⟩⟩))
    · cases e
  | _ => cases e
theorem e_bm {name : Str} {apos : Pos} {ty id : String} {b : MV → List MV → MH → QV → Prop} (hK : X.K = T.K) (pa : PlainAttrs ty) (slot : Slot ty name id) (hty : typeOf (.builtin id) = pure (.type "method_descriptor")) (hm : MtR X id (canM T b)) (ho : PE X o (canE T W mo)) (ha : PA X (e :: es) (canA T W as))
    (hbase : attributeBase o name X.env (eval o X.env) = eval o X.env := by rfl)
    (hfew : ((backTo pos (starEach (e :: es) X.env)).all (fun x => !x.1) && (backToKw pos (keywordEach [] X.env)).all (fun x => x.1.isSome)
      && decide ((e :: es).length + ([] : List Keyword).length + (if ([] : List Keyword).isEmpty then 0 else 1) < 30)) = true := by rfl)
    (hline : (apos.endLine == pos.line) = true := by rfl) (hs : starEach (e :: es) X.env = (false, eval e X.env) :: starEach es X.env := by rfl) (hpl : (backTo pos (starEach es X.env)).any (·.1) = false := by rfl) :
    PE X (.Call (.Attribute o name apos) (e :: es) [] pos) (canE T W (wBM ty b mo as)) := PE.le (pe_bm pa slot hty hm ho ha hbase hfew hline hs hpl) fun σ H Q ⟨ι, h, σm, Qm, Em, R, s, q, x, m⟩ => by
  refine canE_mk R s x m fun v h1 m1 ι1 H1 u R1 X1 s1 x1 r1 => ?_
  obtain ⟨m1, m2⟩ := m1
  refine ⟨by rw [hK]; exact tyV_of R1 r1 m1, ?_⟩
  exact canA_mk R1 s1 x1 m2 fun ms h2 m3 ι2 H2 vs R2 X2 s2 x2 r2 => ⟨ι2, h2, v, ms, Qm, R2, RV.ext R1 X2 _ _ r1, r2, (q.ext R1 X1).ext R2 X2, m3⟩
theorem e_bm0 {name : Str} {apos : Pos} {ty id : String} {b : MV → List MV → MH → QV → Prop} (hK : X.K = T.K) (pa : PlainAttrs ty) (slot : Slot ty name id) (hty : typeOf (.builtin id) = pure (.type "method_descriptor")) (hm : MtR X id (canM T b)) (ho : PE X o (canE T W mo))
    (hbase : attributeBase o name X.env (eval o X.env) = eval o X.env := by rfl) (hline : (apos.endLine == pos.line) = true := by rfl) :
    PE X (.Call (.Attribute o name apos) [] [] pos) (canE T W (wBM ty b mo aNil)) := PE.le (pe_bm0 pa slot hty hm ho hbase hline) fun σ H Q ⟨ι, h, σm, Qm, Em, R, s, q, x, m⟩ => by
  refine canE_mk R s x m fun v h1 m1 ι1 H1 u R1 X1 s1 x1 r1 => ?_
  obtain ⟨m1, m2⟩ := m1
  exact ⟨by rw [hK]; exact tyV_of R1 r1 m1, ι1, h1, v, [], Qm, R1, r1, RVs.nil, q.ext R1 X1, m2⟩
theorem PQ.wr {r i : Nat} {p : Addr} {Qm : QV} {Q : VK} {ms : List MV} {vs : List V} (q : PQ T ι H Qm Q) (R : Rel T ι h H) (hp : (ι r)[i]? = some p) (e : RVs T.K ι H ms vs) (m : Qm .non (wr h r i (.lst ms))) : Q .non (upd H p (.lst vs)) := by
  obtain ⟨R2, X2⟩ := wr_lst (r := r) R hp e
  exact q _ _ m _ _ _ R2 X2 .non'
theorem m_append : MtR X "list.append" (canM T mAppend) := by
  intro pins s σ H x xs v us Q I rx rv c
  obtain ⟨ι, h, mx, ms, Qm, R, r1, rs, q, m⟩ := c
  unfold mAppend at m
  split at m
  rotate_left
  · exact m.elim
  · obtain ⟨u, rfl, r2⟩ := rs.one_
    split at m
    · rename_i ys ea
      obtain ⟨p, vs, rfl, e0, e1, e2⟩ := R.lst_ r1 ea
      exact mt_append pins s σ H _ _ v us Q I rx rv ⟨p, vs, u, rfl, rfl, e1, by rw [← e2.length]; exact lt_line m.1, q.wr R e0 (e2.append (RVs.one r2)) m.2⟩
    · exact m.elim
theorem m_clear : MtR X "list.clear" (canM T mClear) := by
  intro pins s σ H x xs v us Q I rx rv c
  obtain ⟨ι, h, mx, ms, Qm, R, r1, rs, q, m⟩ := c
  unfold mClear at m
  split at m
  rotate_left
  · exact m.elim
  · unfold RVs at rs
    subst rs
    split at m
    · rename_i ys ea
      obtain ⟨p, vs, rfl, e0, e1, e2⟩ := R.lst_ r1 ea
      exact mt_clear pins s σ H _ _ v us Q I rx rv ⟨p, vs, rfl, rfl, e1, q.wr R e0 RVs.nil m⟩
    · exact m.elim
end
end Mi
end TxMiniF

section TxMiniS
set_option Elab.async false
set_option linter.all false
set_option autoImplicit false
set_option maxRecDepth 100000
set_option maxHeartbeats 4000000
namespace Mi
open PySem PySem.Spec PyProof.Rows L2
section
variable {T : Tx} {X : Cx} {W : WX} {pos pos' : Pos} {e o : Expr} {me mo : WE} {c : Stmt} {cs ds : List Stmt} {a b : WS} {t : WT}
/-! ### statements -/
theorem canS_mk {σ : L2.St} {H : Hp} {D : Ends} {ι : IA} {h : MH} {σm : MS} {Dm : En} (R : Rel T ι h H) (s : RS T ι H σm σ) (p : PEn T ι H Dm D W) (m : a Dm σm h) : canS T W a D σ H := ⟨ι, h, σm, Dm, R, s, p, m⟩
theorem ss_nil : PSs X [] (canS T W sNx) := PSs.le pss_nil fun D σ H ⟨ι, h, σm, Dm, R, s, p, m⟩ => p.nx σm h m ι H σ R Ext.refl s
theorem ss_one (h : PS X c (canS T W a)) : PSs X [c] (canS T W a) := pss_one h
theorem ss_cons (h1 : PS X c (canS T W a)) (h2 : PSs X cs (canS T W b)) : PSs X (c :: cs) (canS T W (sSeq a b)) := PSs.le (pss_cons h1 h2) fun D σ H ⟨ι, h, σm, Dm, R, s, p, m⟩ =>
  canS_mk R s (Dm := { Dm with nx := b Dm }) ⟨fun σm' h' m' ι' H' σ' R' X' s' => canS_mk R' s' (p.ext R' X') m', p.rt, p.bk, p.ct, p.ex⟩ m
theorem s_pass : PS X (.Pass pos) (canS T W sNx) := PS.le ps_pass fun D σ H ⟨ι, h, σm, Dm, R, s, p, m⟩ => p.nx σm h m ι H σ R Ext.refl s
theorem s_brk : PS X (.Break pos) (canS T W sBrk) := PS.le ps_break fun D σ H ⟨ι, h, σm, Dm, R, s, p, m⟩ => p.bk σm h m ι H σ R Ext.refl s
theorem s_cnt : PS X (.Continue pos) (canS T W sCnt) := PS.le ps_continue fun D σ H ⟨ι, h, σm, Dm, R, s, p, m⟩ => p.ct σm h m ι H σ R Ext.refl s
theorem s_doc {x : Str} {j} : PS X (.Expr (.Constant (.str x) j pos) pos') (canS T W sNx) := PS.le ps_doc fun D σ H ⟨ι, h, σm, Dm, R, s, p, m⟩ => p.nx σm h m ι H σ R Ext.refl s
theorem s_ex (he : PE X e (canE T W me)) (hs : swapsWith e none pos.line X.env = pure false := by rfl) : PS X (.Expr e pos) (canS T W (sEx me)) := PS.le (ps_expr he hs) fun D σ H ⟨ι, h, σm, Dm, R, s, p, m⟩ =>
  canE_mk R s (p.ex.at_ R s) m fun v h1 m1 ι1 H1 u R1 X1 s1 x1 r1 => p.nx _ _ m1 _ _ _ R1 X1 s1
theorem s_ret (he : PE X e (canE T W me)) : PS X (.Return (some e) pos) (canS T W (sRet me)) := PS.le (ps_ret he) fun D σ H ⟨ι, h, σm, Dm, R, s, p, m⟩ =>
  canE_mk R s (p.ex.at_ R s) m fun v h1 m1 ι1 H1 u R1 X1 s1 x1 r1 => p.rt _ _ m1 _ _ _ R1 X1 r1
theorem s_retN : PS X (.Return none pos) (canS T W sRetN) := PS.le ps_retN fun D σ H ⟨ι, h, σm, Dm, R, s, p, m⟩ => p.rt _ _ m _ _ _ R Ext.refl .non'
theorem s_if {d : Expr} (hc : PT X d (canT T W t)) (ha : PSs X cs (canS T W a)) (hb : PSs X ds (canS T W b)) : PS X (.If d cs ds pos) (canS T W (sIf t a b)) := PS.le (ps_if hc ha hb) fun D σ H ⟨ι, h, σm, Dm, R, s, p, m⟩ =>
  canT_mk R s (p.ex.at_ R s) m fun k h1 m1 ι1 H1 R1 X1 s1 x1 => by
    cases k with
    | true => exact canS_mk R1 s1 (p.ext R1 X1) m1
    | false => exact canS_mk R1 s1 (p.ext R1 X1) m1
/-! targets -/
def canG (T : Tx) (W : WX) (g : WG) : TG := fun v σ H Q => ∃ ι h σm mv Qm Em, Rel T ι h H ∧ RS T ι H σm σ ∧ RV T.K ι H mv v ∧ PP T ι H Qm Q ∧ PX T ι H Em (L2.WE W σ) ∧ g mv σm h Qm Em
def canGs (T : Tx) (W : WX) (g : WGs) : TGs := fun vs σ H Q => ∃ ι h σm ms Qm Em, Rel T ι h H ∧ RS T ι H σm σ ∧ RVs T.K ι H ms vs ∧ PP T ι H Qm Q ∧ (∀ σm' σ', RS T ι H σm' σ' → PX T ι H Em (L2.WE W σ')) ∧ g ms σm h Qm Em
theorem PG.le {e : Expr} {t t' : TG} (h : PG X e t) (le : ∀ v σ H Q, t' v σ H Q → t v σ H Q) : PG X e t' := ⟨fun pins s σ H v u Q I r q => h.run pins s σ H v u Q I r (le _ _ _ _ q)⟩
theorem g_name {i : Nat} {x : Str} (h : PG X (.Name x pos) (gName i)) : PG X (.Name x pos) (canG T W (gN i)) := PG.le h fun v σ H Q ⟨ι, h, σm, mv, Qm, Em, R, s, r, q, x, m⟩ => q _ _ m _ _ _ R Ext.refl (s.set i r)
def canSet (T : Tx) : TSet := fun o i v H Q => ∃ (ι : IA) (h : MH) (mo mi mv : MV) (Qm : MH → Prop), Rel T ι h H ∧ RV T.K ι H mo o ∧ RV T.K ι H mi i ∧ RV T.K ι H mv v ∧ (∀ h', Qm h' → ∀ ι' H', Rel T ι' h' H' → Ext ι H ι' H' → Q H') ∧ (match setIx mo mi mv h with | some h3 => Qm h3 | none => False)
theorem set_ok (hu : X.A.units + 1 < cLine) : PSet X (canSet T) := by
  intro pins s σ H o i v ov iv u Q I ro ri rv c
  obtain ⟨ι, h, mo, mi, mv, Qm, R, r1, r2, r3, q, m⟩ := c
  cases e : setIx mo mi mv h with
  | none => rw [e] at m; exact m.elim
  | some h3 =>
    rw [e] at m
    have m : Qm h3 := m
    unfold setIx at e
    split at e
    · rename_i r j
      split at e
      · rename_i xs k ea
        obtain ⟨p, vs, rfl, e0, e1, e2⟩ := R.lst_ r1 ea
        obtain ⟨n, en, rfl⟩ := Option.map_eq_some_iff.mp e
        cases r2.int_
        obtain ⟨R2, X2⟩ := wr_lst (r := r) R e0 (RVs.set r3 n e2)
        refine set_list pins s σ H _ _ v ov iv u Q I ro ri rv ⟨p, vs, k, n, rfl, rfl, e1, ?_, q _ m _ _ R2 X2⟩
        rw [← e2.length]
        exact en
      · rename_i kvs ea
        split at e
        · rename_i hk
          rw [Bool.and_eq_true] at hk
          cases e
          obtain ⟨k, k1, rfl⟩ := key_of_ hk.1 r2
          obtain ⟨p, kws, rfl, e0, e1, e2⟩ := R.dic_ r1 ea
          obtain ⟨R2, X2⟩ := wr_dic (r := r) R e0 (KVR.put k1 r3 e2)
          obtain rfl : ov = Value.ref p := ro
          exact d_setItem hu I (DPut.k e1 (by rw [← Paired.length e2]; exact lt_line (of_decide_eq_true hk.2))) ri rv fun s4 I4 => ⟨_, I4, q _ m _ _ R2 X2⟩
        · cases e
      · cases e
    · cases e
theorem g_ix {i : Expr} {mi : WE} (hu : X.A.units + 1 < cLine) (ho : PE X o (canE T W mo)) (hi : PE X i (canE T W mi))
    (ha : ∀ v, assign (.Subscript o i pos) X.env v = (do
      let ov ← holding [v] (eval o X.env)
      let iv ← holding [v, ov] (eval i X.env)
      standAt pos
      holding [v, ov, iv] (setItem ov iv v)
      release [v, ov, iv] []) := by intro _; rfl) : PG X (.Subscript o i pos) (canG T W (gIx mo mi)) := PG.le (pg_sub ho hi (set_ok (T := T) hu) ha) fun v σ H Q ⟨ι, h, σm, mv, Qm, Em, R, s, r, q, x, m⟩ => by
  refine canE_mk R s x m fun v1 h1 m1 ι1 H1 u R1 X1 s1 x1 r1 => ?_
  refine canE_mk R1 s1 x1 m1 fun v2 h2 m2 ι2 H2 u2 R2 X2 s2 x2 r2 => ?_
  refine ⟨ι2, h2, v1, v2, mv, fun h3 => Qm σm h3, R2, RV.ext R1 X2 _ _ r1, r2, RV.ext R1 X2 _ _ (RV.ext R X1 _ _ r), fun h3 m3 ι3 H3 R3 X3 => ?_, m2⟩
  exact (q.ext R1 X1).ext R2 X2 _ _ m3 _ _ _ R3 X3 (s2.ext R2 X3)
theorem s_asg {tg : Expr} {g : WG} (he : PE X e (canE T W me)) (hg : PG X tg (canG T W g)) (hs : swapsWithSole [tg] e pos.line X.env = pure false := by rfl) (hw : swappedStores [tg] e X.env = pure none := by rfl)
    (h1 : (assignEach [tg] X.env).map (·.2) = [assign tg X.env] := by rfl) : PS X (.Assign [tg] e pos) (canS T W (sAsg me g)) := PS.le (ps_asg he hg hs hw h1) fun D σ H ⟨ι, h, σm, Dm, R, s, p, m⟩ =>
  canE_mk R s (p.ex.at_ R s) m fun v h1 m1 ι1 H1 u R1 X1 s1 x1 r1 => ⟨ι1, h1, σm, v, Dm.nx, _, R1, s1, r1, (p.ext R1 X1).nx, x1, m1⟩
theorem s_set {i : Nat} {x : Str} (h : ∀ te, PE X e te → PS X (.Assign [.Name x pos'] e pos) (tAsg te (gName i))) (he : PE X e (canE T W me)) : PS X (.Assign [.Name x pos'] e pos) (canS T W (sAsg me (gN i))) :=
  PS.le (h _ he) fun D σ H ⟨ι, h, σm, Dm, R, s, p, m⟩ => canE_mk R s (p.ex.at_ R s) m fun v h1 m1 ι1 H1 u R1 X1 s1 x1 r1 => p.nx _ _ m1 _ _ _ R1 X1 (s1.set i r1)
theorem mem_putF {f : String} {v : MV} {Fl : List String} (hf : f ∈ Fl) : ∀ {fs : List (String × MV)}, (∀ p ∈ fs, p.1 ∈ Fl) → ∀ p ∈ Mi.putF f v fs, p.1 ∈ Fl
  | [], _, p, hp => by
    have : p = (f, v) := List.mem_singleton.mp hp
    rw [this]; exact hf
  | q :: fs, hq, p, hp => by
    have hp : p ∈ (if f = q.1 then (q.1, v) :: fs else q :: Mi.putF f v fs) := hp
    by_cases c : f = q.1
    · rw [if_pos c] at hp
      rcases List.mem_cons.mp hp with z | z
      · rw [z]; exact hq q List.mem_cons_self
      · exact hq p (List.mem_cons_of_mem _ z)
    · rw [if_neg c] at hp
      rcases List.mem_cons.mp hp with z | z
      · rw [z]; exact hq q List.mem_cons_self
      · exact mem_putF hf (fun p hp => hq p (List.mem_cons_of_mem _ hp)) p z
theorem s_fld {f : String} {value : Expr} {mv : WE} (hK : X.K = T.K) (hc : ∀ c ∈ T.Cl, Cls T.K (clA T.K c)) (hn : ∀ c ∈ T.Cl, NoAttr T.K (clA T.K c) (st f)) (hf : f ∈ T.Fl) (ho : PE X o (canE T W mo)) (hv : PE X value (canE T W mv))
    (hs : swapsWith value (some (.Attribute o (st f) pos')) pos.line X.env = pure false := by rfl) : PS X (.Assign [.Attribute o (st f) pos'] value pos) (canS T W (sAsg mv (gFld mo f))) :=
  PS.le (ps_fld ho hv hs) fun D σ H ⟨ι, h, σm, Dm, R, s, p, m⟩ => by
    refine canE_mk R s (p.ex.at_ R s) m fun v h1 m1 ι1 H1 u R1 X1 s1 x1 r1 => ?_
    refine canE_mk R1 s1 x1 m1 fun v2 h2 m2 ι2 H2 u2 R2 X2 s2 x2 r2 => ?_
    cases v2 with
    | ref r i =>
      have m2 : (match rd h2 r i with
        | some (.ins c fs) => fs.length < 1000 ∧ Dm.nx σm (wr h2 r i (.ins c (Mi.putF f v fs)))
        | _ => False) := m2
      split at m2
      · rename_i c fs ea
        obtain ⟨l, m2⟩ := m2
        obtain ⟨q, dx, gs, rfl, e0, cl, hfl, e1, e2⟩ := R2.ins_ r2 ea
        obtain ⟨R3, X3⟩ := wr_ins (r := r) (dx := dx) R2 e0 cl (mem_putF (v := v) hf hfl) (FVR.put (f := f) (RV.ext R1 X2 _ _ r1) e2)
        exact ⟨q, _, dx, gs, rfl, e1, by rw [hK]; exact hc c cl, by rw [hK]; exact hn c cl, by rw [← e2.length]; exact l, ((p.ext R1 X1).ext R2 X2).nx _ _ m2 _ _ _ R3 X3 (s2.ext R2 X3)⟩
      · exact m2.elim
    | _ => exact m2.elim
/-! ### while -/
theorem s_while (hp : PassesOwn (model X.prog X.w) X.A X.env X.xe) {d : Expr} (hc : PT X d (canT T W t)) (hb : PSs X cs (canS T W b)) : PS X (.While d cs [] pos) (canS T W (sWhile t b)) := PS.le (ps_while hp hc hb) fun D σ H ⟨ι, h, σm, Dm, R, s, p, n, m⟩ => by
  refine ⟨fun n σ' H' => ∃ ι' h' σm', Rel T ι' h' H' ∧ Ext ι H ι' H' ∧ RS T ι' H' σm' σ' ∧ whileN t b n Dm σm' h', ⟨n, ι, h, σm, R, Ext.refl, s, m⟩, ?_⟩
  rintro n σ1 H1 ⟨ι1, h1, σm1, R1, X1, s1, m1⟩
  cases n with
  | zero => exact m1.elim
  | succ n =>
    refine canT_mk R1 s1 ((p.ext R1 X1).ex.at_ R1 s1) m1 fun k h2 m2 ι2 H2 R2 X2 s2 x2 => ?_
    have X12 := Ext.trans R1 X1 X2
    cases k with
    | false => exact p.nx _ _ m2 _ _ _ R2 X12 s2
    | true =>
      refine ⟨fun σ' H' => ∃ ι' h' σm', Rel T ι' h' H' ∧ Ext ι H ι' H' ∧ RS T ι' H' σm' σ' ∧ whileN t b n Dm σm' h', fun σ' H' z => ⟨n, Nat.lt_succ_self n, z⟩, ?_⟩
      have pp := p.ext R2 X12
      have nx : PP T ι2 H2 (whileN t b n Dm) fun σ' H' => ∃ ι' h' σm', Rel T ι' h' H' ∧ Ext ι H ι' H' ∧ RS T ι' H' σm' σ' ∧ whileN t b n Dm σm' h' :=
        fun σm3 h3 m3 ι3 H3 σ3 R3 X3 s3 => ⟨ι3, h3, σm3, R3, Ext.trans R2 X12 X3, s3, m3⟩
      exact canS_mk R2 s2 (Dm := { Dm with nx := whileN t b n Dm, ct := whileN t b n Dm, bk := Dm.nx }) ⟨nx, pp.rt, pp.nx, nx, pp.ex⟩ m2
/-! ### walks -/
structure SrcR (T : Tx) (ι : IA) (H : Hp) (src : Src) (J : It) : Prop where
  go : ∀ i ι' h' H', Rel T ι' h' H' → Ext ι H ι' H' → src.chk h' → i < src.xs.length → J.go i H'
  yld : ∀ i ι' h' H' m x H'', Rel T ι' h' H' → Ext ι H ι' H' → src.chk h' → src.xs[i]? = some m → J.yld i H' x H'' → Rel T ι' h' H'' ∧ Ext ι' H' ι' H'' ∧ RV T.K ι' H'' m x
  stop : ∀ ι' h' H', Rel T ι' h' H' → Ext ι H ι' H' → src.chk h' → J.stop src.xs.length H'
def canI (T : Tx) (W : WX) (m : WI) : L2.TI := fun σ H R => ∃ ι h σm Rm Em, Rel T ι h H ∧ RS T ι H σm σ ∧ PX T ι H Em (L2.WE W σ) ∧ (∀ src h', Rm src h' → ∀ ι' H' J, Rel T ι' h' H' → Ext ι H ι' H' → SrcR T ι' H' src J → R J H') ∧ m σm h Rm Em
theorem PI.le {tg it : Expr} {t t' : L2.TI} (h : PI X tg it t) (le : ∀ σ H R, t' σ H R → t σ H R) : PI X tg it t' := ⟨fun pins s σ H R I q => h.run pins s σ H R I (le _ _ _ q)⟩
theorem srcR_lst {ι : IA} {h : MH} {H : Hp} {r i : Nat} {p : Addr} {xs : List MV} (e0 : (ι r)[i]? = some p) : SrcR T ι H ⟨xs, fun h' => rd h' r i = some (.lst xs)⟩ (Itl T.K p) where
  go := fun j ι' h' H' R X c hj => by
    obtain ⟨p', e1, vs, e2, e3⟩ := R.of_rd c
    rw [X.ix e0] at e1; cases e1
    have hj : j < xs.length := hj
    exact ⟨vs, vs[j]'(by rw [← e3.length]; exact hj), SqL.of e2, List.getElem?_eq_getElem _⟩
  yld := fun j ι' h' H' m x H'' R X c hm y => by
    obtain ⟨p', e1, vs, e2, e3⟩ := R.of_rd c
    rw [X.ix e0] at e1; cases e1
    obtain ⟨rfl, y⟩ := y
    obtain ⟨v, e4, e5⟩ := e3.get hm
    have := y vs (SqL.of e2)
    rw [e4] at this; cases this
    exact ⟨R, Ext.refl, e5⟩
  stop := fun ι' h' H' R X c => by
    obtain ⟨p', e1, vs, e2, e3⟩ := R.of_rd c
    rw [X.ix e0] at e1; cases e1
    exact ⟨vs, SqL.of e2, by rw [e3.length]; exact Nat.le_refl _⟩
theorem srcR_tup {ι : IA} {h : MH} {H : Hp} {p : Addr} {xs : List MV} {vs : List V} (R0 : Rel T ι h H) (e : L2.SqT T.K H p vs) (r : RVs T.K ι H xs vs) : SrcR T ι H ⟨xs, fun _ => True⟩ (Itt T.K p) where
  go := fun j ι' h' H' R X c hj => ⟨vs, vs[j]'(by rw [← r.length]; exact hj), sqT_ext R0 X e, List.getElem?_eq_getElem _⟩
  yld := fun j ι' h' H' m x H'' R X c hm y => by
    obtain ⟨rfl, y⟩ := y
    obtain ⟨v, e4, e5⟩ := r.get hm
    have := y vs (sqT_ext R0 X e)
    rw [e4] at this; cases this
    exact ⟨R, Ext.refl, RV.ext R0 X _ _ e5⟩
  stop := fun ι' h' H' R X c => ⟨vs, sqT_ext R0 X e, by rw [r.length]; exact Nat.le_refl _⟩
theorem srcR_cst {ι : IA} {h : MH} {H : Hp} {p : Addr} {xs : List MV} {vs : List V} (R0 : Rel T ι h H) (e : SqC T.K H p vs) (r : RVs T.K ι H xs vs) : SrcR T ι H ⟨xs, fun _ => True⟩ (Itl T.K p) where
  go := fun j ι' h' H' R X c hj => ⟨vs, vs[j]'(by rw [← r.length]; exact hj), (SqC.ext R0 X e).l, List.getElem?_eq_getElem _⟩
  yld := fun j ι' h' H' m x H'' R X c hm y => by
    obtain ⟨rfl, y⟩ := y
    obtain ⟨v, e4, e5⟩ := r.get hm
    have := y vs (SqC.ext R0 X e).l
    rw [e4] at this; cases this
    exact ⟨R, Ext.refl, RV.ext R0 X _ _ e5⟩
  stop := fun ι' h' H' R X c => ⟨vs, (SqC.ext R0 X e).l, by rw [r.length]; exact Nat.le_refl _⟩
theorem rng_get {lo : Int} {n i : Nat} {m : MV} (h : (rng lo n)[i]? = some m) : m = .int (lo + i) ∧ i < n := by
  unfold rng at h
  rw [List.getElem?_map] at h
  obtain ⟨k, e1, e2⟩ := Option.map_eq_some_iff.mp h
  rw [List.getElem?_range] at e1
  · cases e1
    refine ⟨e2.symm, ?_⟩
    by_cases c : i < n
    · exact c
    · simp [c] at h
  · by_cases c : i < n
    · exact c
    · simp [c] at h
theorem rng_len (lo : Int) (n : Nat) : (rng lo n).length = n := by unfold rng; simp
theorem srcR_rng {ι : IA} {H : Hp} {lo : Int} {n : Nat} : SrcR T ι H ⟨rng lo n, fun _ => True⟩ (Itr lo n) where
  go := fun j ι' h' H' R X c hj => by
    have hj : j < (rng lo n).length := hj
    rw [rng_len] at hj
    exact hj
  yld := fun j ι' h' H' m x H'' R X c hm y => by
    obtain ⟨rfl, y⟩ := y
    obtain ⟨rfl, _⟩ := rng_get hm
    exact ⟨R, Ext.refl, by rw [y]; exact .int'⟩
  stop := fun ι' h' H' R X c => by
    show n ≤ (rng lo n).length
    rw [rng_len]
    exact Nat.le_refl _
/-- a list or a tuple, walked -/
def iEither (K : PySem.W.Frag) (tl : TE) : L2.TI := fun σ H R => tl σ H fun x H1 => ∃ a, x = .ref a ∧ (((∃ xs, L2.SqL K H1 a xs) ∧ R (Itl K a) H1) ∨ ((∃ xs, L2.SqT K H1 a xs) ∧ R (Itt K a) H1))
theorem pi_either {tg l : Expr} {tl : TE} (hl : PE X l tl) : PI X tg l (iEither X.K tl) := by
  refine ⟨fun pins s σ H R I h => ?_⟩
  refine thn (hl.run pins s σ H _ I h) fun v s1 ⟨x, H1, I1, r1, q1⟩ => ?_
  obtain ⟨a, ex, q1⟩ := q1
  subst ex
  obtain rfl : v = Value.ref a := r1
  have fp : ∀ b ∈ [s1.heap.objs.size], FpOk X pins H1 b := fun b hb => by
    have eb : b = s1.heap.objs.size := List.mem_singleton.mp hb
    subst eb
    exact I1.fpOk (Nat.le_refl _) (I1.hok.fresh (Nat.le_refl _))
  rcases q1 with ⟨⟨xs, hq⟩, q⟩ | ⟨⟨xs, hq⟩, q⟩
  · obtain ⟨its, rv, p, hz⟩ := I1.list hq
    exact wpAny_pyIter_list p.isList ⟨_, _, _, _, H1, rfl, I1.kept (t' := s1.toks) fun b o e => Heap.get?_push_of_some _ e, turn_list a _, ⟨_, Heap.get?_push_size _ rfl, rfl, rfl⟩, fp, q⟩
  · obtain ⟨its, rv, p, hz⟩ := I1.tuple hq
    exact wpAny_pyIter_tuple (show s1.heap.IsTuple a its.toArray from p) ⟨_, _, _, _, H1, rfl, I1.kept (t' := s1.toks) fun b o e => Heap.get?_push_of_some _ e, turn_tuple a _, ⟨_, Heap.get?_push_size _ rfl, rfl, rfl⟩, fp, q⟩
theorem i_seq {tg l : Expr} {ml : WE} (hK : X.K = T.K) (hl : PE X l (canE T W ml)) : PI X tg l (canI T W (iSeq ml)) := PI.le (pi_either hl) fun σ H Rr ⟨ι, h, σm, Rm, Em, R, s, x, q, m⟩ => by
  refine canE_mk R s x m fun v h1 m1 ι1 H1 u R1 X1 s1 x1 r1 => ?_
  cases v with
  | tup xs =>
    obtain ⟨p, vs, rfl, e1, e2⟩ := r1.tup_
    exact ⟨p, rfl, .inr ⟨⟨vs, by rw [hK]; exact e1⟩, by rw [hK]; exact q _ _ m1 _ _ _ R1 X1 (srcR_tup R1 e1 e2)⟩⟩
  | cst xs =>
    obtain ⟨p, vs, rfl, e1, e2⟩ := r1.cst_
    exact ⟨p, rfl, .inl ⟨⟨vs, by rw [hK]; exact e1.l⟩, by rw [hK]; exact q _ _ m1 _ _ _ R1 X1 (srcR_cst R1 e1 e2)⟩⟩
  | ref r i =>
    have m1 : (match rd h1 r i with
      | some (.lst xs) => Rm ⟨xs, fun h' => rd h' r i = some (.lst xs)⟩ h1
      | _ => False) := m1
    split at m1
    · rename_i xs ea
      obtain ⟨p, vs, rfl, e0, e1, e2⟩ := R1.lst_ r1 ea
      exact ⟨p, rfl, .inl ⟨⟨vs, SqL.of e1⟩, by rw [hK]; exact q _ _ m1 _ _ _ R1 X1 (srcR_lst (h := h1) e0)⟩⟩
    · exact m1.elim
  | _ => exact m1.elim
theorem i_rng1 {tg a : Expr} {ma : WE} {p : Pos} (hg : Gl X "range") (hm : X.mg "range" = none) (ha : PE X a (canE T W ma)) (hs : starEach [a] X.env = [(false, eval a X.env)] := by rfl) :
    PI X tg (.Call (.Name "range" p) [a] [] pos) (canI T W (iRng1 ma)) := PI.le (pi_range1 hg hm (pa_cons ha pa_nil (by rw [hs]; rfl)) hs) fun σ H Rr ⟨ι, h, σm, Rm, Em, R, s, x, q, m⟩ => by
  refine canE_mk R s x m fun v h1 m1 ι1 H1 u R1 X1 s1 x1 r1 => ?_
  cases v with
  | int j =>
    obtain ⟨⟨b1, b2⟩, m1⟩ := m1
    cases r1.int_
    exact ⟨j, rfl, b1, b2, q _ _ m1 _ _ _ R1 X1 srcR_rng⟩
  | _ => exact m1.elim
theorem i_rng2 {tg a b : Expr} {ma mb : WE} {p : Pos} (hg : Gl X "range") (hm : X.mg "range" = none) (ha : PE X a (canE T W ma)) (hb : PE X b (canE T W mb)) (hs : starEach [a, b] X.env = [(false, eval a X.env), (false, eval b X.env)] := by rfl) (hs2 : starEach [b] X.env = [(false, eval b X.env)] := by rfl) :
    PI X tg (.Call (.Name "range" p) [a, b] [] pos) (canI T W (iRng2 ma mb)) := PI.le (pi_range2 hg hm (pa_cons ha (pa_cons hb pa_nil (by rw [hs2]; rfl)) (by rw [hs, hs2])) hs hs2) fun σ H Rr ⟨ι, h, σm, Rm, Em, R, s, x, q, m⟩ => by
  refine canE_mk R s x m fun v h1 m1 ι1 H1 u R1 X1 s1 x1 r1 => ?_
  refine canE_mk R1 s1 x1 m1 fun v2 h2 m2 ι2 H2 u2 R2 X2 s2 x2 r2 => ?_
  cases v with
  | int i =>
    cases v2 with
    | int j =>
      obtain ⟨⟨b1, b2⟩, ⟨b3, b4⟩, m2⟩ := m2
      cases r1.int_; cases r2.int_
      exact ⟨i, j, rfl, ⟨b1, b2, b3, b4⟩, q _ _ m2 _ _ _ R2 (Ext.trans R1 X1 X2) srcR_rng⟩
    | _ => exact m2.elim
  | _ => cases v2 <;> exact m2.elim
/-! ### for -/
theorem s_for {tg it : Expr} {i : WI} {g : WG} (hp : PassesOwn (model X.prog X.w) X.A X.env X.xe) (hc : X.calm = true) (hi : PI X tg it (canI T W i)) (hg : PG X tg (canG T W g)) (hb : PSs X cs (canS T W b))
    (hs : ∀ x, foldedSetIterable it X.env x = pure x := by intro _; rfl) : PS X (.For tg it cs [] pos) (canS T W (sFor i g b)) := PS.le (ps_for hp hc hi hg hb hs) fun D σ H ⟨ι, h, σm, Dm, R, s, p, m⟩ => by
  refine ⟨ι, h, σm, _, _, R, s, p.ex.at_ R s, fun src h1 m1 ι1 H1 J R1 X1 sr => ?_, m⟩
  rw [forL_eq] at m1
  refine ⟨fun i n σ' H' => ∃ ι' h' σm', Rel T ι' h' H' ∧ Ext ι1 H1 ι' H' ∧ RS T ι' H' σm' σ' ∧ n = src.xs.length - i ∧ i ≤ src.xs.length ∧ forR src.chk g b (src.xs.drop i) Dm σm' h', ⟨_, ι1, h1, σm, R1, Ext.refl, s.ext R X1, rfl, Nat.zero_le _, m1⟩, ?_⟩
  rintro i n σ2 H2 ⟨ι2, h2, σm2, R2, X2, s2, rfl, hi, m2⟩
  by_cases hlt : i < src.xs.length
  · rw [List.drop_eq_getElem_cons hlt] at m2
    obtain ⟨ck, m2⟩ := m2
    refine .inr ⟨sr.go i ι2 h2 H2 R2 X2 ck hlt, fun σ' H' => ∃ ι' h' σm', Rel T ι' h' H' ∧ Ext ι1 H1 ι' H' ∧ RS T ι' H' σm' σ' ∧ forR src.chk g b (src.xs.drop (i + 1)) Dm σm' h', ?_, fun x H3 y => ?_⟩
    · rintro σ' H' ⟨ι', h', σm', z1, z2, z3, z4⟩
      exact ⟨src.xs.length - (i + 1), by omega, ι', h', σm', z1, z2, z3, rfl, hlt, z4⟩
    · obtain ⟨R3, X3, r3⟩ := sr.yld i ι2 h2 H2 _ x H3 R2 X2 ck (List.getElem?_eq_getElem hlt) y
      have X23 := Ext.trans R2 X2 X3
      have X03 := Ext.trans R1 X1 X23
      have pp := p.ext R3 X03
      have s3 := s2.ext R2 X3
      refine ⟨ι2, h2, σm2, _, _, _, R3, s3, r3, fun σm4 h4 m4 ι4 H4 σ4 R4 X4 s4 => ?_, pp.ex.at_ R3 s3, m2⟩
      have X14 := Ext.trans R3 X23 X4
      have p4 := pp.ext R4 X4
      have nx : PP T ι4 H4 (forR src.chk g b (src.xs.drop (i + 1)) Dm) fun σ' H' => ∃ ι' h' σm', Rel T ι' h' H' ∧ Ext ι1 H1 ι' H' ∧ RS T ι' H' σm' σ' ∧ forR src.chk g b (src.xs.drop (i + 1)) Dm σm' h' :=
        fun σm5 h5 m5 ι5 H5 σ5 R5 X5 s5 => ⟨ι5, h5, σm5, R5, Ext.trans R4 X14 X5, s5, m5⟩
      exact canS_mk R4 s4 (Dm := { Dm with nx := forR src.chk g b (src.xs.drop (i + 1)) Dm, ct := forR src.chk g b (src.xs.drop (i + 1)) Dm, bk := Dm.nx }) ⟨nx, p4.rt, p4.nx, nx, p4.ex⟩ m4
  · have e : i = src.xs.length := by omega
    subst e
    rw [List.drop_length] at m2
    obtain ⟨ck, m2⟩ := m2
    exact .inl ⟨sr.stop ι2 h2 H2 R2 X2 ck, (p.ext R1 X1).nx _ _ m2 _ _ _ R2 X2 s2⟩
/-! ### raise -/
theorem s_raise {cn : String} {x m : Str} {j : Nat} {p p2 : Pos} (hK : X.K = T.K) (hc : X.calm = true) (tk : Takes X W) (he : cn ∈ T.Er) (q : PySem.W.excIn T.K (clA T.K cn) He.veBase "ValueError.__new__" = true) (gC : X.mg (st cn) = some (.ref (clA T.K cn))) (kC : PySem.W.keepIn T.K (.ref (clA T.K cn)) = true)
    (h1 : PySem.W.subIn T.K (.ref (clA T.K cn)) (.type "BaseException") = some true) (h2 : PySem.W.typeIn T.K (.ref (clA T.K cn)) = some (.type "type")) (hg : Gl X (st cn)) (hdb : (st cn == ("__debug__" : Str)) = false) :
    PS X (.Raise (some (.Call (.Name (st cn) p) [.Constant (.str m) j p2] [] pos')) none pos) (canS T W (sRaise cn)) := by
  rw [← hK] at q kC h1 h2
  refine PS.le (ps_raise hc tk (pmk_own PySem.F.excBase_ValueError q (by rw [hK]; exact gC) kC (raises_own h1 h2) hg hdb)) fun D σ H ⟨ι, h, σm, Dm, R, s, pp, m⟩ => ?_
  rw [hK]
  exact pp.ex cn σm h he m ι H σ R Ext.refl s
end
end Mi
end TxMiniS

section TxMiniT
set_option Elab.async false
set_option linter.all false
set_option autoImplicit false
set_option maxRecDepth 100000
set_option maxHeartbeats 4000000
namespace Mi
open PySem PySem.Spec PyProof.Rows L2
abbrev W0 : WX := fun _ _ _ _ => False
/-! ### what leans on the tuples alone -/
def Keeps (H H' : Hp) : Prop := ∀ p u, ((∃ xs, u = HO.tup xs) ∨ ∃ o w, u = HO.frz o w) → H p = some u → H' p = some u
section
variable {T : Tx} {ι : IA} {h : MH} {H H' : Hp}
theorem sqT_keep {p : Addr} {vs : List V} (k : Keeps H H') (e : L2.SqT T.K H p vs) : L2.SqT T.K H' p vs := by
  rcases e with (e | ⟨o, e⟩) | e
  · exact .inl (.inl (k _ _ (.inl ⟨_, rfl⟩) e))
  · exact .inl (.inr ⟨o, k _ _ (.inr ⟨_, _, rfl⟩) e⟩)
  · exact .inr e
theorem sqC_keep {p : Addr} {vs : List V} (k : Keeps H H') (e : SqC T.K H p vs) : SqC T.K H' p vs := by
  rcases e with ⟨o, e⟩ | e
  · exact .inl ⟨o, k _ _ (.inr ⟨_, _, rfl⟩) e⟩
  · exact .inr e
mutual
theorem RV.keep (k : Keeps H H') : ∀ (m : MV) (v : V), RV T.K ι H m v → RV T.K ι H' m v
  | .non, _, e => by unfold RV at e ⊢; exact e
  | .bl _, _, e => by unfold RV at e ⊢; exact e
  | .int _, _, e => by unfold RV at e ⊢; exact e
  | .str _, _, e => by unfold RV at e ⊢; exact e
  | .tup xs, _, e => by
    unfold RV at e ⊢
    obtain ⟨p, vs, e1, e2, e3⟩ := e
    exact ⟨p, vs, e1, sqT_keep k e2, RVs.keep k xs vs e3⟩
  | .cst xs, _, e => by
    unfold RV at e ⊢
    obtain ⟨p, vs, e1, e2, e3⟩ := e
    exact ⟨p, vs, e1, sqC_keep k e2, RVs.keep k xs vs e3⟩
  | .ref r i, _, e => by unfold RV at e ⊢; exact e
  | .exc _, _, e => by unfold RV at e ⊢; exact e
theorem RVs.keep (k : Keeps H H') : ∀ (ms : List MV) (vs : List V), RVs T.K ι H ms vs → RVs T.K ι H' ms vs
  | [], _, e => by unfold RVs at e ⊢; exact e
  | m :: ms, _, e => by
    unfold RVs at e ⊢
    obtain ⟨v, r, e1, e2, e3⟩ := e
    exact ⟨v, r, e1, RV.keep k m v e2, RVs.keep k ms r e3⟩
end
theorem OR.keep (k : Keeps H H') {p : Addr} {o : MO} (x : OR T ι H p o) (e : H' p = H p) : OR T ι H' p o := by
  cases o with
  | lst xs =>
    obtain ⟨vs, e1, e2⟩ := x
    exact ⟨vs, e.trans e1, RVs.keep k _ _ e2⟩
  | dic kvs =>
    obtain ⟨kws, e1, e2⟩ := x
    exact ⟨kws, e.trans e1, Paired.imp (fun a b q => ⟨q.1, RV.keep k _ _ q.2⟩) e2⟩
  | ins c fs =>
    obtain ⟨hc, hf, dx, fvs, e1, e2⟩ := x
    exact ⟨hc, hf, dx, fvs, e.trans e1, Paired.imp (fun a b q => ⟨q.1, RV.keep k _ _ q.2⟩) e2⟩
/-- a list beside what is related changes -/
theorem Rel.off (R : Rel T ι h H) {D : Addr} {xs : List V} (hd : H D = some (.lst xs)) (nd : ∀ (r i : Nat), (ι r)[i]? ≠ some D) (e : ∀ b, b ≠ D → H' b = H b) : Rel T ι h H' ∧ Keeps H H' := by
  have k : Keeps H H' := fun p u hu hp => by
    rw [e]
    · exact hp
    · intro z
      subst z
      rw [hd] at hp
      rcases hu with ⟨_, rfl⟩ | ⟨_, _, rfl⟩ <;> cases hp
  refine ⟨⟨R.len, fun r i o p e1 e2 => (R.obj r i o p e1 e2).keep k (e p fun z => ?_), R.inj⟩, k⟩
  subst z
  exact nd r i e2
end
section
variable {T : Tx} {X : Cx} {W : WX} {pos : Pos} {me : WE} {t : WT}
theorem tst_nil : PTs X [] (canT T W tYes) := ⟨fun pins s σ H Q I ⟨ι, h, σm, Qm, Em, R, sr, q, x, m⟩ => pts_nil.run pins s σ H Q I (q _ _ m _ _ R Ext.refl)⟩
theorem tst_one {c : Expr} (hc : PT X c (canT T W t)) : PTs X [c] (canT T W t) := pts_one hc
theorem px_none {ι : IA} {H : Hp} {E : XK} : PX T ι H (fun _ _ => False) E := fun _ _ _ z => z.elim
/-- the reading of a comprehension -/
theorem rd_comp {r : Nat} {wi : WI} {i : Nat} {σ : L2.St} {H : Hp} {Q : VK} (c : canE T W (wComp r wi i t me) σ H Q) : tLc (canI T W wi) (gName i) (canT T W0 t) (canE T W0 me) [i] σ H Q := by
  obtain ⟨ι, h, σm, Qm, Em, R, s, q, x, m⟩ := c
  refine ⟨ι, h, σm, _, Em, R, s, x, fun src h1 m1 ι1 H1 J R1 X1 sr => ?_, m⟩
  rw [compL_eq] at m1
  intro D hD
  obtain ⟨RD, XD⟩ := aside (O := .lst []) R1 hD
  refine ⟨fun k n H' => ∃ ι' h' am av, Rel T ι' h' H' ∧ Ext ι1 H1 ι' H' ∧ (∀ (r i : Nat), (ι' r)[i]? ≠ some D) ∧ H' D = some (.lst av) ∧ RVs T.K ι' H' am av ∧ n = src.xs.length - k ∧ k ≤ src.xs.length ∧ compR r src.chk i t me σm Qm (src.xs.drop k) am h',
    ⟨_, ι1, h1, [], [], RD, XD, R1.fresh hD, upd_same, RVs.nil, rfl, Nat.zero_le _, m1⟩, ?_⟩
  rintro k n H2 ⟨ι2, h2, am, av, R2, X2, nd, hd, ra, rfl, hk, m2⟩
  by_cases hlt : k < src.xs.length
  · rw [List.drop_eq_getElem_cons hlt] at m2
    obtain ⟨ck, m2⟩ := m2
    refine .inr ⟨sr.go k ι2 h2 H2 R2 X2 ck hlt, fun H' => ∃ ι' h' am av, Rel T ι' h' H' ∧ Ext ι1 H1 ι' H' ∧ (∀ (r i : Nat), (ι' r)[i]? ≠ some D) ∧ H' D = some (.lst av) ∧ RVs T.K ι' H' am av ∧ compR r src.chk i t me σm Qm (src.xs.drop (k + 1)) am h', ?_, fun v H3 y => ?_⟩
    · rintro H' ⟨ι', h', am', av', z1, z2, z3, z4, z5, z6⟩
      exact ⟨src.xs.length - (k + 1), by omega, ι', h', am', av', z1, z2, z3, z4, z5, rfl, hlt, z6⟩
    · obtain ⟨R3, X3, r3⟩ := sr.yld k ι2 h2 H2 _ v H3 R2 X2 ck (List.getElem?_eq_getElem hlt) y
      have d3 : H3 D = some (.lst av) := X3.oth _ _ hd nd
      have X13 := Ext.trans R2 X2 X3
      have ew : wipe σ [i] = σ.set i none := rfl
      show wipe ((wipe σ [i]).set i (some v)) [i] = wipe σ [i] ∧ _
      rw [ew, List.set_set]
      refine ⟨by show (σ.set i (some v)).set i none = _; rw [List.set_set], ?_⟩
      have s3 : RS T ι2 H3 (σm.set i (some src.xs[k])) (σ.set i (some v)) := RS.set ((s.ext R X1).ext R1 X13) i r3
      have step : ∀ {ι4 : IA} {h4 : MH} {H4 : Hp}, Rel T ι4 h4 H4 → Ext ι2 H3 ι4 H4 → Ext ι1 H1 ι4 H4 ∧ (∀ (r i : Nat), (ι4 r)[i]? ≠ some D) ∧ H4 D = some (.lst av) ∧ RVs T.K ι4 H4 am av := fun {ι4 h4 H4} R4 X4 => by
        have d4 := X4.oth _ _ d3 nd
        refine ⟨Ext.trans R3 X13 X4, fun r' i' z => ?_, d4, RVs.ext R3 X4 _ _ (RVs.ext R2 X3 _ _ ra)⟩
        obtain ⟨more, e1, e2⟩ := X4.pre r'
        rw [e1] at z
        rcases List.mem_append.mp (List.mem_of_getElem? z) with z | z
        · obtain ⟨j, hj⟩ := List.mem_iff_getElem?.mp z
          exact nd r' j hj
        · rw [e2 D z] at d3; cases d3
      refine canT_mk R3 s3 px_none m2 fun b h4 m4 ι4 H4 R4 X4 s4 x4 => ?_
      cases b with
      | false =>
        obtain ⟨y1, y2, y3, y4⟩ := step R4 X4
        exact ⟨ι4, h4, am, av, R4, y1, y2, y3, y4, m4⟩
      | true =>
        refine canE_mk R4 s4 x4 m4 fun v5 h5 m5 ι5 H5 u5 R5 X5 s5 x5 r5 => ?_
        obtain ⟨y1, y2, y3, y4⟩ := step R5 (Ext.trans R4 X4 X5)
        obtain ⟨l5, m5⟩ := m5
        refine ⟨av, y3, by rw [← y4.length]; exact lt_line l5, ?_⟩
        obtain ⟨R6, k6⟩ := R5.off (H' := upd H5 D (.lst (av ++ [u5]))) y3 y2 fun b hb => upd_ne hb
        refine ⟨ι5, h5, am ++ [v5], av ++ [u5], R6, ⟨y1.pre, fun p o e n => ?_⟩, y2, upd_same, RVs.keep k6 _ _ (y4.append (RVs.one r5)), m5⟩
        rw [upd_ne (ne_of_none e hD)]
        exact y1.oth p o e n
  · have e : k = src.xs.length := by omega
    subst e
    rw [List.drop_length] at m2
    obtain ⟨ck, m2⟩ := m2
    refine .inl ⟨sr.stop ι2 h2 H2 R2 X2 ck, ?_⟩
    -- D is taken into what is related
    let H0 : Hp := fun b => if b = D then none else H2 b
    have e0 : H0 D = none := if_pos rfl
    obtain ⟨R5, k5⟩ := R2.off (H' := H0) hd nd fun b hb => if_neg hb
    have eu : upd H0 D (.lst av) = H2 := by
      funext b
      unfold upd
      by_cases c : b = D
      · rw [if_pos c, c, hd]
      · rw [if_neg c]; exact if_neg c
    obtain ⟨R6, X6, r6⟩ := lst_at (r := r) R5 e0 (RVs.keep k5 _ _ ra)
    rw [eu] at R6 X6 r6
    refine q _ _ m2 _ _ _ R6 (Ext.trans R1 X1 ⟨fun r' => ?_, fun p o e n => X2.oth p o e n⟩) r6
    obtain ⟨m1', a1, a2⟩ := X2.pre r'
    by_cases c : r' = r
    · subst c
      refine ⟨m1' ++ [D], by rw [ia_same, a1, List.append_assoc], fun p hp => ?_⟩
      rcases List.mem_append.mp hp with z | z
      · exact a2 p z
      · rw [List.mem_singleton.mp z]; exact hD
    · exact ⟨m1', by rw [ia_ne _ _ c, a1], a2⟩
variable {elt tg it : Expr} {ifs : List Expr} {scope : Scope} {xn : Str}
theorem e_comp {r : Nat} {wi : WI} {i : Nat} (hc : X.calm = true) (hN : X.N.Nodup) (hi : PI X tg it (canI T W wi)) (ok : BlkOk X.N X.env.scope scope [(xn, i)])
    (hg : ∀ (s : Shared) (H : Hp) (C : Addr) (cl : List (Str × Addr)) (fp : List Addr), PG (X.blk s H scope (compEnvC scope cl C X.env) fp) tg (gName i)) (ht : ∀ (s : Shared) (H : Hp) (C : Addr) (cl : List (Str × Addr)) (fp : List Addr), PTs (X.blk s H scope (compEnvC scope cl C X.env) fp) ifs (canT T W0 t))
    (he : ∀ (s : Shared) (H : Hp) (C : Addr) (cl : List (Str × Addr)) (fp : List Addr), PE (X.blk s H scope (compEnvC scope cl C X.env) fp) elt (canE T W0 me)) (hs : ∀ x, foldedSetIterable it X.env x = pure x := by intro _; rfl) :
    PE X (.ListComp elt [⟨tg, it, ifs, 0⟩] scope pos) (canE T W (wComp r wi i t me)) := PE.le (pe_lc (own := [(xn, i)]) hc hN hi ok hg ht he hs) fun _ _ _ c => rd_comp c
theorem s_setLc {r : Nat} {wi : WI} {i j : Nat} {y : Str} {py spos : Pos} (hc : X.calm = true) (hN : X.N.Nodup) (hy : X.N[j]? = some y) (hyl : X.env.scope.names.lookup y = some .local) (hsw : swapsWith (.ListComp elt [⟨tg, it, ifs, 0⟩] scope pos) (some (.Name y py)) spos.line X.env = pure true)
    (hi : PI X tg it (canI T W wi)) (ok : BlkOk X.N X.env.scope scope [(xn, i)])
    (hg : ∀ (s : Shared) (H : Hp) (C : Addr) (cl : List (Str × Addr)) (fp : List Addr), PG (X.blk s H scope (compEnvC scope cl C X.env) fp) tg (gName i)) (ht : ∀ (s : Shared) (H : Hp) (C : Addr) (cl : List (Str × Addr)) (fp : List Addr), PTs (X.blk s H scope (compEnvC scope cl C X.env) fp) ifs (canT T W0 t))
    (he : ∀ (s : Shared) (H : Hp) (C : Addr) (cl : List (Str × Addr)) (fp : List Addr), PE (X.blk s H scope (compEnvC scope cl C X.env) fp) elt (canE T W0 me)) (hs : ∀ x, foldedSetIterable it X.env x = pure x := by intro _; rfl) :
    PS X (.Assign [.Name y py] (.ListComp elt [⟨tg, it, ifs, 0⟩] scope pos) spos) (canS T W (sAsg (wComp r wi i t me) (gN j))) :=
  PS.le (ps_setLc (i := j) (own := [(xn, i)]) hc hN hy hyl hsw hi ok hg ht he hs) fun D σ H ⟨ι, h, σm, Dm, R, s, p, m⟩ =>
    rd_comp (canE_mk R s (p.ex.at_ R s) m fun v h1 m1 ι1 H1 u R1 X1 s1 x1 r1 => p.nx _ _ m1 _ _ _ R1 X1 (s1.set j r1))
/-! ### try -/
variable {body suite : List Stmt} {b0 : Stmt} {n : Str} {np pos' : Pos} {b : WS} {su : String → Nat → WS} {cn : String}
theorem s_try_as {i : Nat} (hs : X.stack = X.env :: X.outer) (hf : X.env.frame = some X.env.locals) (hN : X.N.Nodup) (hi : X.N[i]? = some n) (hln : X.env.kindOf n = some .local) (hK : X.K = T.K) (hc : Names X (st cn) (.ref (clA T.K cn))) (tk : Takes X W)
    (hx : ∀ c ∈ T.Er, PySem.W.exmOne T.K (.ref (clA T.K c)) (.ref (clA T.K cn)) = some (isSub c cn))
    (hb : ∀ (W' : WX) (pn : List (Addr × Obj)) (xe : Value → Shared → Prop), Takes (X.tr pn xe) W' → PassesOwn (model X.prog X.w) X.A X.env xe → PSs (X.tr pn xe) body (canS T W' b))
    (hsu : ∀ c ∈ T.Er, isSub c cn = true → ∀ (a : Addr) (oe : Obj) (pn : List (Addr × Obj)), Zc (.ref (clA T.K c)) none oe → (∃ vs, oe.data = .fields vs) → PSs (X.suite a ((a, oe) :: pn)) (b0 :: suite) (canS T W0 (su c a))) :
    PS X (.Try body [.ExceptHandler (some (.Name (st cn) np)) (some n) (b0 :: suite) pos'] [] [] pos) (canS T W (sTry b [cn] (some i) su)) := by
  refine PS.le (ps_try_as (i := i) (tb := fun W' => canS T W' b) (ts := fun a cls d D σ H => ∃ c, c ∈ T.Er ∧ isSub c cn = true ∧ cls = .ref (clA T.K c) ∧ d = none ∧ canS T W0 (su c a) D σ H) hs hf hN hi hln hc tk hb (fun a oe cls d pn hz hv => ?_)) fun D σ H ⟨ι, h, σm, Dm, R, s, p, m⟩ => ?_
  · refine ⟨fun pins s σ H D I ⟨c, hc, hsub, e1, e2, can⟩ => ?_⟩
    subst e1 e2
    exact (hsu c hc hsub a oe pn hz hv).run pins s σ H D I can
  · refine canS_mk R s (Dm := tryEn [cn] (some i) su Dm) ⟨p.nx, p.rt, p.bk, p.ct, fun c σ1 h1 hc m1 ι1 H1 σ2 R1 X1 s1 => ?_⟩ m
    have m1 : if ([cn].any (isSub c)) = true then ∀ a : Nat, su c a (suEn (some i) Dm) (bindE (some i) a σ1) h1 else Dm.ex c σ1 h1 := m1
    refine ⟨isSub c cn, by rw [hK]; exact hx c hc, fun ht a ha => ?_, fun ht => ?_⟩
    · refine ⟨c, hc, ht, rfl, rfl, ?_⟩
      rw [if_pos (by show (isSub c cn || false) = true; rw [ht]; rfl)] at m1
      have pp := p.ext R1 X1
      have up : ∀ {Qm : MS → MH → Prop} {Q : L2.St → Hp → Prop}, PP T ι1 H1 Qm Q → PP T ι1 H1 (fun σ2 h2 => Qm (unset (some i) σ2) h2) fun σ' H' => Q (σ'.set i none) H' := fun {Qm Q} q σm h' m' ι' H' σ' R' X' s' => q _ _ m' _ _ _ R' X' (s'.unset i)
      exact canS_mk (Dm := suEn (some i) Dm) (σm := bindE (some i) a σ1) R1 (RS.set s1 i (m := .exc a) (v := .ref a) (by unfold RV; rfl)) ⟨up pp.nx, pp.rt, up pp.bk, up pp.ct, fun _ _ _ _ z => z.elim⟩ (m1 a)
    · have m1 : (if ([cn].any (isSub c)) = true then _ else _) := m1
      rw [if_neg (by show ¬ (isSub c cn || false) = true; rw [ht]; exact Bool.false_ne_true)] at m1
      exact p.ex c σ1 h1 hc m1 _ _ _ R1 X1 s1
theorem s_try (hs : X.stack = X.env :: X.outer) (hf : X.env.frame = some X.env.locals) (hK : X.K = T.K) (hc : Names X (st cn) (.ref (clA T.K cn))) (tk : Takes X W)
    (hx : ∀ c ∈ T.Er, PySem.W.exmOne T.K (.ref (clA T.K c)) (.ref (clA T.K cn)) = some (isSub c cn))
    (hb : ∀ (W' : WX) (pn : List (Addr × Obj)) (xe : Value → Shared → Prop), Takes (X.tr pn xe) W' → PassesOwn (model X.prog X.w) X.A X.env xe → PSs (X.tr pn xe) body (canS T W' b))
    (hsu : ∀ c ∈ T.Er, isSub c cn = true → ∀ (a : Addr) (oe : Obj) (pn : List (Addr × Obj)), Zc (.ref (clA T.K c)) none oe → (∃ vs, oe.data = .fields vs) → PSs (X.suite a ((a, oe) :: pn)) (b0 :: suite) (canS T W0 (su c a))) :
    PS X (.Try body [.ExceptHandler (some (.Name (st cn) np)) none (b0 :: suite) pos'] [] [] pos) (canS T W (sTry b [cn] none su)) := by
  refine PS.le (ps_try_only (tb := fun W' => canS T W' b) (ts := fun a cls d D σ H => ∃ c, c ∈ T.Er ∧ isSub c cn = true ∧ cls = .ref (clA T.K c) ∧ d = none ∧ canS T W0 (su c a) D σ H) hs hf hc tk hb (fun a oe cls d pn hz hv => ?_)) fun D σ H ⟨ι, h, σm, Dm, R, s, p, m⟩ => ?_
  · refine ⟨fun pins s σ H D I ⟨c, hc, hsub, e1, e2, can⟩ => ?_⟩
    subst e1 e2
    exact (hsu c hc hsub a oe pn hz hv).run pins s σ H D I can
  · refine canS_mk R s (Dm := tryEn [cn] none su Dm) ⟨p.nx, p.rt, p.bk, p.ct, fun c σ1 h1 hc m1 ι1 H1 σ2 R1 X1 s1 => ?_⟩ m
    have m1 : if ([cn].any (isSub c)) = true then ∀ a : Nat, su c a (suEn none Dm) (bindE none a σ1) h1 else Dm.ex c σ1 h1 := m1
    refine ⟨isSub c cn, by rw [hK]; exact hx c hc, fun ht a ha => ?_, fun ht => ?_⟩
    · refine ⟨c, hc, ht, rfl, rfl, ?_⟩
      rw [if_pos (by show (isSub c cn || false) = true; rw [ht]; rfl)] at m1
      have pp := p.ext R1 X1
      exact canS_mk (Dm := suEn none Dm) (σm := bindE none a σ1) R1 s1 ⟨pp.nx, pp.rt, pp.bk, pp.ct, fun _ _ _ _ z => z.elim⟩ (m1 a)
    · have m1 : (if ([cn].any (isSub c)) = true then _ else _) := m1
      rw [if_neg (by show ¬ (isSub c cn || false) = true; rw [ht]; exact Bool.false_ne_true)] at m1
      exact p.ex c σ1 h1 hc m1 _ _ _ R1 X1 s1
/-! ### the error of a suite -/
theorem call_isET {a D : Addr} {oe : Obj} {pn : List (Addr × Obj)} (C : ExcC X.K D) (hz : Zc (.ref D) none oe) (hf : ∃ vs, oe.data = .fields vs) :
    CallR (X.suite a ((a, oe) :: pn)) (.builtin "isinstance") (fun xs H Q => ∃ (tp : Addr) (cs : List V) (us : List Value) (b : Bool), xs = [.ref a, .ref tp] ∧ H tp = some (.tup cs) ∧ Paired ClsV cs us ∧ PySem.W.kitAny X.K (.ref D) us = some b ∧ Q (.bl b) H) := by
  intro pins s σ H xs us Q I r h
  obtain ⟨tp, cs, ws, b, rfl, hT, k, e, q⟩ := h
  cases r with
  | cons rx rr =>
    cases rr with
    | cons rt rr =>
      cases rr
      cases rx
      cases rt
      obtain ⟨hget, _⟩ := I.pin (a, oe) (List.mem_append.mpr (.inl List.mem_cons_self))
      obtain ⟨vs, hv⟩ := hf
      have J : PySem.W.InstAt s.heap a oe D none := by
        obtain ⟨oc, od, oda, osl⟩ := oe
        obtain ⟨h1, h2⟩ := hz
        simp only at h1 h2 hv
        subst h1 h2 hv
        exact ⟨hget, rfl, rfl, trivial⟩
      obtain ⟨_, its, rv, o, h1, h2, n, h3⟩ := (show ObjOk X.prog X.w H s.heap tp (.tup cs) from I.hok tp _ hT)
      have e3 := ClsV.all k rv
      subst e3
      obtain ⟨oc, od, dt, sl⟩ := o
      simp only at h2 h3
      subst h2 h3
      exact PySem.W.kia_tup (PySem.W.handS_kitx_exc C.hg C.hk C.hs C.hd C.ha C.hn C.ht C.hm) I.kIn J h1 e (fun z => nomatch z) fun tk => ⟨.bl b, H, I.kept (t' := tk) fun _ _ z => z, rfl, q⟩
end
end Mi
end TxMiniT

section TxMiniZ
set_option Elab.async false
set_option linter.all false
set_option autoImplicit false
set_option maxRecDepth 100000
set_option maxHeartbeats 4000000
namespace Mi
open PySem PySem.Spec PyProof.Rows L2
section
variable {T : Tx} {P : Program} {w : World} {mg : Str → Option Value} {base : Heap}
theorem rs_start {ι : IA} {H : Hp} {N : List Str} {nl : Nat} {ms : List MV} {vs : List V} (hn : N.length = nl) (r : RVs T.K ι H ms vs) : RS T ι H (ms.map some ++ List.replicate (nl - ms.length) none) (L2.start N vs) := by
  have e := r.length
  refine ⟨by unfold L2.start; simp [hn, e], fun i m hm => ?_⟩
  by_cases hi : i < ms.length
  · rw [List.getElem?_append_left (by simpa using hi), List.getElem?_map] at hm
    obtain ⟨m', e1, e2⟩ := Option.map_eq_some_iff.mp hm
    cases e2
    obtain ⟨v, e3, e4⟩ := r.get e1
    refine ⟨v, ?_, e4⟩
    unfold L2.start
    rw [List.getElem?_append_left (by rw [List.length_map, ← e]; exact hi), List.getElem?_map, e3]
    rfl
  · rw [List.getElem?_append_right (by simp; omega), List.getElem?_replicate] at hm
    split at hm <;> cases hm
theorem fn_rd {E : XK} {body : WS} {np nl : Nat} {N : List Str} {vs : List V} {H : Hp} {Q : VK} (hn : N.length = nl) (h : spM T (fnM np nl body) vs H Q E) :
    canS T (fun cls d _ H => E cls d H) body { nx := fun _ H' => Q .non H', rt := Q } (L2.start N vs) H := by
  obtain ⟨ι, h, ms, Qm, Em, R, rv, q, x, l, m⟩ := h
  exact ⟨ι, h, _, ⟨fun _ h' => Qm .non h', Qm, fun _ _ => False, fun _ _ => False, fun c _ h' => Em c h'⟩, R, rs_start hn rv, ⟨fun σ h' m' ι' H' σ' R' X' _ => q _ _ m' _ _ _ R' X' .non', q, fun _ _ z => z.elim, fun _ _ z => z.elim, fun c σ h' hc m' ι' H' σ' R' X' _ => x c h' hc m' _ _ R' X'⟩, m⟩
theorem sp_len {E : XK} {body : WS} {np nl : Nat} {vs : List V} {H : Hp} {Q : VK} (h : spM T (fnM np nl body) vs H Q E) : vs.length = np := by
  obtain ⟨ι, h, ms, Qm, Em, R, rv, q, x, l, m⟩ := h
  rw [← rv.length]
  exact l
/-- a def keeps its reading -/
theorem fn_ok {x qual : Str} {params : Arguments} {stmts : List Stmt} {scope : Scope} {f : Addr} {fd : FuncData} {N ps : List Str} {k np nl : Nat} {body : WS} (F : FunD T.K x qual params stmts scope [] [] f fd) (S : FnScope N ps scope) (hp : ps.length = np) (hn : N.length = nl)
    (hb : ∀ (cdv : Value) (A : Around) (outer : List Env) (s : Shared) (H : Hp) (E : XK), Room k (A.deeper (envOfC qual scope s.heap.objs.size f cdv)) →
      PSs (cxOf (L2.CX P w) P w T.K mg base N qual scope f cdv A outer s H E) stmts (canS T (fun cls d _ H => E cls d H) body)) : FnOk P w T.K mg base (L2.CX P w) (k + 1) f fd ps (spM T (fnM np nl body)) :=
  F.ok S (fun vs H Q E h => by rw [hp]; exact sp_len h) fun cdv A outer s H vs Q E hr h => ⟨_, hb cdv A outer s H E hr, fn_rd hn h⟩
theorem fnM_mk {x : String} {params : Arguments} {stmts : List Stmt} {scope : Scope} {N ps : List Str} {k np nl : Nat} {body : WS} (D : ∃ fd, FunD T.K (st x) (st x) params stmts scope [] [] (He.ga T.K (st x)) fd) (at_ : mg (st x) = some (.ref (He.ga T.K (st x)))) (S : FnScope N ps scope) (hp : ps.length = np) (hn : N.length = nl)
    (hbi : ∀ (kV doc pm : Value) (an : Option Addr) (cdv ct : Value) (us : List Value), us.length = ps.length → bindArgs (PySem.W.fnOf (st x) (st x) params stmts scope .none kV doc pm an cdv ct) ⟨us, []⟩ = pure (ps.zip us))
    (hb : ∀ (cdv : Value) (A : Around) (outer : List Env) (s : Shared) (H : Hp) (E : XK), Room k (A.deeper (envOfC (st x) scope s.heap.objs.size (He.ga T.K (st x)) cdv)) →
      PSs (cxOf (L2.CX P w) P w T.K mg base N (st x) scope (He.ga T.K (st x)) cdv A outer s H E) stmts (canS T (fun cls d _ H => E cls d H) body)) : FnM T P w mg base (k + 1) x ps (fnM np nl body) := by
  obtain ⟨fd, F⟩ := D
  exact ⟨⟨fd, fn_ok F S hp hn hb, F.bindsN hbi, let ⟨oc, od, _, _, _, _, _, _, _, osl, _, l, _⟩ := F.ex; ⟨oc, od, osl, l⟩⟩, at_, F.kp⟩
theorem mtM_mk {c m : String} {q : Str} {params : Arguments} {stmts : List Stmt} {scope : Scope} {N ps : List Str} {k np nl : Nat} {body : WS} (D : ∃ fd, FunD T.K (st m) q params stmts scope [] [] (He.ma T.K (clA T.K c) (st m)) fd) (at_ : Meth T.K (clA T.K c) (st m) (He.ma T.K (clA T.K c) (st m))) (S : FnScope N ps scope) (hp : ps.length = np) (hn : N.length = nl)
    (hbi : ∀ (kV doc pm : Value) (an : Option Addr) (cdv ct : Value) (us : List Value), us.length = ps.length → bindArgs (PySem.W.fnOf (st m) q params stmts scope .none kV doc pm an cdv ct) ⟨us, []⟩ = pure (ps.zip us))
    (hb : ∀ (cdv : Value) (A : Around) (outer : List Env) (s : Shared) (H : Hp) (E : XK), Room k (A.deeper (envOfC q scope s.heap.objs.size (He.ma T.K (clA T.K c) (st m)) cdv)) →
      PSs (cxOf (L2.CX P w) P w T.K mg base N q scope (He.ma T.K (clA T.K c) (st m)) cdv A outer s H E) stmts (canS T (fun cls d _ H => E cls d H) body)) : MtM T P w mg base (k + 1) c m ps (fnM np nl body) := by
  obtain ⟨fd, F⟩ := D
  exact ⟨⟨fd, fn_ok F S hp hn hb, F.bindsN hbi⟩, at_⟩
theorem mkM_mk {c : String} {q : Str} {params : Arguments} {stmts : List Stmt} {scope : Scope} {N ps : List Str} {k np nl : Nat} {body : WS} (cl : c ∈ T.Cl) (D : ∃ fd, FunD T.K (st "__init__") q params stmts scope [] [] (He.ma T.K (clA T.K c) (st "__init__")) fd) (mk : Mk T.K (clA T.K c) (He.ma T.K (clA T.K c) (st "__init__"))) (at_ : mg (st c) = some (.ref (clA T.K c))) (S : FnScope N ps scope) (hp : ps.length = np) (hn : N.length = nl)
    (hbi : ∀ (kV doc pm : Value) (an : Option Addr) (cdv ct : Value) (us : List Value), us.length = ps.length → bindArgs (PySem.W.fnOf (st "__init__") q params stmts scope .none kV doc pm an cdv ct) ⟨us, []⟩ = pure (ps.zip us))
    (hb : ∀ (cdv : Value) (A : Around) (outer : List Env) (s : Shared) (H : Hp) (E : XK), Room k (A.deeper (envOfC q scope s.heap.objs.size (He.ma T.K (clA T.K c) (st "__init__")) cdv)) →
      PSs (cxOf (L2.CX P w) P w T.K mg base N q scope (He.ma T.K (clA T.K c) (st "__init__")) cdv A outer s H E) stmts (canS T (fun cls d _ H => E cls d H) body)) : MkM T P w mg base (k + 1) c ps (fnM np nl body) := by
  obtain ⟨fd, F⟩ := D
  exact ⟨cl, ⟨fd, fn_ok F S hp hn hb, F.bindsN hbi⟩, mk, at_⟩
/-! ### the law -/
/-- nothing is let out -/
theorem nox_ok {k : Nat} {f : Addr} {fd : FuncData} {ps : List Str} {sp : Sp} (F : FnOk P w T.K mg base (L2.CX P w) k f fd ps sp) : FnOk P w T.K mg base L2.CX0 k f fd ps fun vs H Q _ => sp vs H Q fun _ _ _ => False :=
  ⟨fun vs H Q E h => F.len _ _ _ _ h, fun A outer s H args us vs Q E hr he hb hv hs => codeAny_mono (F.run A outer s H args us vs Q _ hr he hb hv hs) fun r s' hq => by
    cases r with
    | ok fl => cases fl <;> exact hq
    | error e =>
      obtain ⟨_, _, _, _, _, _, _, _, _, _, _, _, z⟩ := hq
      exact z.elim⟩
def h0 : MH := fun _ => []
theorem law_sp {F : WF} {H : Hp} {a : Addr} {ns : List Int} (hO : Only H) (hS : L2.SqL T.K H a (ns.map V.int)) (h : F [.cst (ns.map .int)] h0 (fun v _ => v = .bl true) fun _ _ => False) : spM T F [.ref a] H (fun v _ => v = .bl true) fun _ _ _ => False := by
  have c : SqC T.K H a (ns.map V.int) := by
    rcases hS with (e | ⟨o, e⟩) | e
    · rcases hO a with z | ⟨o, xs, z⟩
      · rw [z] at e; cases e
      · rw [z] at e; cases e
    · exact .inl ⟨o, e⟩
    · exact .inr e
  have rv : ∀ ns : List Int, RVs T.K (fun _ => []) H (ns.map .int) (ns.map V.int) := fun ns => by
    induction ns with
    | nil => exact RVs.nil
    | cons n ns ih => exact RVs.cons .int' ih
  refine ⟨fun _ => [], h0, _, _, _, ⟨fun _ => rfl, fun r i o p e => by simp [h0] at e, fun r i r' i' p e => by simp at e⟩, RVs.one (v := .ref a) ?_, ?_, fun c h' _ z => z.elim, h⟩
  · unfold RV
    exact ⟨a, _, rfl, c, rv ns⟩
  · intro v h' e ι' H' u R X r
    subst e
    exact r.bl_
end
/-! ### the head's facts, with a look of one's own -/
abbrev AlM : Type := He.AlD × Bool
def obsM (fa : List He.Fa) (fn : List He.DefD) (ex : PySem.W.Frag → Bool) (K : PySem.W.Frag) : AlM := (He.obsD fa fn K, ex K)
def valM (fn : List He.DefD) : AlM := (He.valD fn, true)
def SaysM (fa : List He.Fa) (fn : List He.DefD) (ex : PySem.W.Frag → Bool) (K : PySem.W.Frag) : Prop := obsM fa fn ex K = valM fn
def obsMG (n : Nat) (fa : List He.Fa) (fn : List He.DefD) (ex : PySem.W.Frag → Bool) (g : Addr → Option Obj) : AlM := obsM fa fn ex (He.frG g (cStatics :: He.asD g n))
def hookM (n : Nat) (fa : List He.Fa) (fn : List He.DefD) (ex : PySem.W.Frag → Bool) : PySem.W.Hook where
  α := AlM
  obs := fun s => obsMG n fa fn ex s.heap.get?
  val := fun _ => valM fn
  says := fun _ h => ∃ K : PySem.W.Frag, K.In h ∧ SaysM fa fn ex K
  of := fun _ _ e => ⟨_, He.frG_in, e⟩
  keeps := fun _ _ _ ⟨K, hK, c⟩ k => ⟨K, PySem.W.Frag.In.keeps hK k, c⟩
theorem obsMG_eq {n : Nat} {fa : List He.Fa} {fn : List He.DefD} {ex : PySem.W.Frag → Bool} {g : Addr → Option Obj} {s : Shared} (h : ∀ a, g a = s.heap.get? a) : obsMG n fa fn ex g = (hookM n fa fn ex).obs s := by
  have e : g = s.heap.get? := funext h
  rw [e] <;> rfl
section
variable {fa : List He.Fa} {fn : List He.DefD} {ex : PySem.W.Frag → Bool} {K : PySem.W.Frag}
theorem SaysM.d (c : SaysM fa fn ex K) : He.SaysD fa fn K := congrArg (fun z : AlM => z.1) c
theorem SaysM.x (c : SaysM fa fn ex K) : ex K = true := congrArg (fun z : AlM => z.2) c
theorem SaysM.fact (c : SaysM fa fn ex K) (i : Nat) {f : He.Fa} (h : fa[i]? = some f := by rfl) : f.ok K = true := c.d.fact i h
theorem SaysM.facts (c : SaysM fa fn ex K) {f : He.Fa} (h : f ∈ fa) : f.ok K = true := by
  obtain ⟨i, hi, e⟩ := List.mem_iff_getElem.mp h
  exact c.fact i (f := f) (by rw [List.getElem?_eq_getElem hi, e])
end
end Mi
end TxMiniZ

section TxMiniX
set_option Elab.async false
set_option linter.all false
set_option autoImplicit false
set_option maxRecDepth 100000
set_option maxHeartbeats 4000000
namespace Mi
open PySem PySem.Spec PyProof.Rows L2
/-! ### facts of the text, in bundles -/
/-- an error class that is raised -/
structure ExF (T : Tx) (mg : Str → Option Value) (c : String) : Prop where
  er : c ∈ T.Er
  q : PySem.W.excIn T.K (clA T.K c) He.veBase "ValueError.__new__" = true
  at_ : mg (st c) = some (.ref (clA T.K c))
  kp : PySem.W.keepIn T.K (.ref (clA T.K c)) = true
  sb : PySem.W.subIn T.K (.ref (clA T.K c)) (.type "BaseException") = some true
  ty : PySem.W.typeIn T.K (.ref (clA T.K c)) = some (.type "type")
/-- an error class that is caught -/
structure TrF (T : Tx) (mg : Str → Option Value) (c : String) : Prop where
  at_ : mg (st c) = some (.ref (clA T.K c))
  ex : ∀ d ∈ T.Er, PySem.W.exmOne T.K (.ref (clA T.K d)) (.ref (clA T.K c)) = some (isSub d c)
/-- what isinstance asks of errors -/
structure IsF (T : Tx) (mg : Str → Option Value) (ds : List String) : Prop where
  ec : ∀ c ∈ T.Er, ExcC T.K (clA T.K c)
  kt : ∀ c ∈ T.Er, ∀ d ∈ ds, PySem.W.kitOne T.K (.ref (clA T.K c)) (.ref (clA T.K d)) = some (isSub c d)
  kv : ∀ c ∈ T.Er, PySem.W.kitOne T.K (.ref (clA T.K c)) (.type "ValueError") = some true
  at_ : ∀ d ∈ ds, mg (st d) = some (.ref (clA T.K d))
section
variable {T : Tx} {X : Cx} {W : WX} {pos pos' : Pos}
theorem s_raise' {cn : String} {m : Str} {j : Nat} {p p2 : Pos} (f : ExF T X.mg cn) (hK : X.K = T.K) (hc : X.calm = true) (tk : Takes X W) (hg : Gl X (st cn)) (hdb : (st cn == ("__debug__" : Str)) = false) :
    PS X (.Raise (some (.Call (.Name (st cn) p) [.Constant (.str m) j p2] [] pos')) none pos) (canS T W (sRaise cn)) :=
  s_raise (x := Str.empty) hK hc tk f.er f.q f.at_ f.kp f.sb f.ty hg hdb
theorem TrF.names {cn : String} (f : TrF T X.mg cn) (hg : Gl X (st cn)) (hdb : (st cn == ("__debug__" : Str)) = false) : Names X (st cn) (.ref (clA T.K cn)) := ⟨hg, hdb, .inl f.at_⟩
theorem e_gint {x : String} {i : Int} (hm : ∃ t, X.mg (st x) = some (.int i t)) (hg : Gl X (st x)) (hdb : (st x == ("__debug__" : Str)) = false) : PE X (.Name (st x) pos) (canE T W (wC (.int i))) := by
  obtain ⟨t, hm⟩ := hm
  exact e_con (pe_glob (v := .int i) hg hm ⟨t, rfl⟩ hdb) fun _ _ => .int'
theorem e_gtup {x : String} {ms : List MV} {vs : List V} (hm : X.mg (st x) = some (.ref (He.ga T.K (st x)))) (hS : ∀ H, L2.SqT T.K H (He.ga T.K (st x)) vs) (hr : ∀ ι H, RVs T.K ι H ms vs) (hg : Gl X (st x)) (hdb : (st x == ("__debug__" : Str)) = false) :
    PE X (.Name (st x) pos) (canE T W (wC (.tup ms))) :=
  e_con (pe_glob (v := .ref _) hg hm rfl hdb) fun ι H => by unfold RV; exact ⟨_, vs, rfl, hS H, hr ι H⟩
/-! isinstance(e, ..) -/
variable {a : Addr} {oe : Obj} {pn : List (Addr × Obj)} {c : String} {ds : List String} {i : Nat} {n : Str} {p p2 p3 : Pos}
theorem is_slot {Q : VK} {σ : L2.St} {H : Hp} {b : Bool} (r : canE T W0 (wIsE i a b) σ H Q) : σ[i]? = some (some (.ref a)) ∧ ∃ ι h Qm, Rel T ι h H ∧ PQ T ι H Qm Q ∧ Qm (.bl b) h := by
  obtain ⟨ι, h, σm, Qm, Em, R, s, q, x, m1, m2⟩ := r
  obtain ⟨v, e1, e2⟩ := s.2 i _ m1
  have e2 : v = .ref a := by unfold RV at e2; exact e2
  subst e2
  exact ⟨e1, ι, h, Qm, R, q, m2⟩
theorem e_isE {d : String} (hK : X.K = T.K) (f : IsF T X.mg ds) (hc : c ∈ T.Er) (hd : d ∈ ds) (hz : Zc (.ref (clA T.K c)) none oe) (hv : ∃ vs, oe.data = .fields vs) (hg : Gl X "isinstance") (hm : X.mg "isinstance" = none) (he : PE (X.suite a ((a, oe) :: pn)) (.Name n p2) (L2.tVar i))
    (hgd : Gl X (st d)) (hdb : (st d == ("__debug__" : Str)) = false)
    (hs : starEach [.Name n p2, .Name (st d) p3] X.env = (false, eval (.Name n p2) X.env) :: starEach [.Name (st d) p3] X.env := by rfl) (hpl : (backTo pos (starEach [.Name (st d) p3] X.env)).any (·.1) = false := by rfl) :
    PE (X.suite a ((a, oe) :: pn)) (.Call (.Name "isinstance" p) [.Name n p2, .Name (st d) p3] [] pos) (canE T W0 (wIsE i a (isSub c d))) := by
  have ec := f.ec c hc
  have kt := f.kt c hc d hd
  rw [← hK] at ec kt hz
  refine PE.le (pe_callB (X := X.suite a ((a, oe) :: pn)) (call_isE ec hz hv) hg hm (by decide +kernel) (pa_cons he (pa_cons (pe_glob (X := X.suite a ((a, oe) :: pn)) (v := .ref (clA T.K d)) hgd (f.at_ d hd) rfl hdb) pa_nil) hs) (by decide) (by decide) hs hpl) fun σ H Q r => ?_
  obtain ⟨e1, ι, h, Qm, R, q, m⟩ := is_slot r
  exact ⟨_, e1, .ref (clA T.K d), .ref (clA T.K d), isSub c d, rfl, fun u r => r, by rw [hK] at kt ⊢; exact kt, q.here R m .bl'⟩
theorem e_isV (hK : X.K = T.K) (f : IsF T X.mg ds) (hc : c ∈ T.Er) (hz : Zc (.ref (clA T.K c)) none oe) (hv : ∃ vs, oe.data = .fields vs) (hg : Gl X "isinstance") (hm : X.mg "isinstance" = none) (he : PE (X.suite a ((a, oe) :: pn)) (.Name n p2) (L2.tVar i))
    (hgd : Gl X "ValueError") (hmd : X.mg "ValueError" = none)
    (hs : starEach [.Name n p2, .Name "ValueError" p3] X.env = (false, eval (.Name n p2) X.env) :: starEach [.Name "ValueError" p3] X.env := by rfl) (hpl : (backTo pos (starEach [.Name "ValueError" p3] X.env)).any (·.1) = false := by rfl) :
    PE (X.suite a ((a, oe) :: pn)) (.Call (.Name "isinstance" p) [.Name n p2, .Name "ValueError" p3] [] pos) (canE T W0 (wIsE i a true)) := by
  have ec := f.ec c hc
  have kt := f.kv c hc
  rw [← hK] at ec kt hz
  refine PE.le (pe_callB (X := X.suite a ((a, oe) :: pn)) (call_isE ec hz hv) hg hm (by decide +kernel) (pa_cons he (pa_cons (pe_bltn (X := X.suite a ((a, oe) :: pn)) (v := .ty "ValueError") hgd hmd (by decide +kernel) rfl) pa_nil) hs) (by decide) (by decide) hs hpl) fun σ H Q r => ?_
  obtain ⟨e1, ι, h, Qm, R, q, m⟩ := is_slot r
  exact ⟨_, e1, .ty "ValueError", .type "ValueError", true, rfl, fun u r => r, by rw [hK] at kt ⊢; exact kt, q.here R m .bl'⟩
theorem kitAny_of {K : PySem.W.Frag} {t : Value} {f : String → Bool} {g : String → Value} : ∀ {es : List String}, (∀ d ∈ es, PySem.W.kitOne K t (g d) = some (f d)) → PySem.W.kitAny K t (es.map g) = some (es.any f)
  | [], _ => rfl
  | d :: es, h => by
    have h1 := h d List.mem_cons_self
    have h2 := kitAny_of (fun d hd => h d (List.mem_cons_of_mem _ hd))
    show PySem.W.kitAny K t (g d :: es.map g) = _
    unfold PySem.W.kitAny
    rw [h1, List.any_cons]
    cases f d with
    | true => rfl
    | false => rw [Bool.false_or]; exact h2
theorem paired_cls {K : PySem.W.Frag} : ∀ es : List String, Paired ClsV (es.map fun d => V.ref (clA K d)) (es.map fun d => Value.ref (clA K d))
  | [] => .nil
  | d :: es => .cons (.own _) (paired_cls es)
theorem e_isET {es : List String} {xs : List Expr} {t : TA} {k : Nat} {p4 : Pos} (hK : X.K = T.K) (f : IsF T X.mg ds) (hc : c ∈ T.Er) (hd : ∀ d ∈ es, d ∈ ds) (hl : es.length ≤ 100) (hz : Zc (.ref (clA T.K c)) none oe) (hv : ∃ vs, oe.data = .fields vs) (hg : Gl X "isinstance") (hm : X.mg "isinstance" = none) (he : PE (X.suite a ((a, oe) :: pn)) (.Name n p2) (L2.tVar i))
    (ha : PA (X.suite a ((a, oe) :: pn)) xs t) (ht : ∀ σ H Q, Q (es.map fun d => V.ref (clA T.K d)) H → t σ H Q)
    (hs : starEach [.Name n p2, .Tuple xs k p4] X.env = (false, eval (.Name n p2) X.env) :: starEach [.Tuple xs k p4] X.env := by rfl) (hpl : (backTo pos (starEach [.Tuple xs k p4] X.env)).any (·.1) = false := by rfl)
    (hs2 : starEach [.Tuple xs k p4] X.env = (false, eval (.Tuple xs k p4) X.env) :: starEach [] X.env := by rfl) :
    PE (X.suite a ((a, oe) :: pn)) (.Call (.Name "isinstance" p) [.Name n p2, .Tuple xs k p4] [] pos) (canE T W0 (wIsE i a (es.any (isSub c)))) := by
  have ec := f.ec c hc
  have kt := kitAny_of (K := T.K) (g := fun d => Value.ref (clA T.K d)) (fun d h => f.kt c hc d (hd d h))
  rw [← hK] at ec kt hz
  refine PE.le (pe_callB (X := X.suite a ((a, oe) :: pn)) (call_isET ec hz hv) hg hm (by decide +kernel) (pa_cons he (pa_cons (pe_tup ha) pa_nil hs2) hs) (by decide) (by decide) hs hpl) fun σ H Q r => ?_
  obtain ⟨e1, ι, h, Qm, R, q, m⟩ := is_slot r
  refine ⟨_, e1, ht _ _ _ ⟨?_, fun tp htp => ?_⟩⟩
  · rw [List.length_map, sizeLine_eq]; omega
  · obtain ⟨R2, X2⟩ := aside (O := .tup (es.map fun d => V.ref (clA T.K d))) R htp
    refine ⟨tp, _, _, es.any (isSub c), rfl, upd_same, paired_cls es, ?_, q _ _ m _ _ _ R2 X2 .bl'⟩
    rw [hK] at kt ⊢
    exact kt
end
end Mi
namespace Mi
open PySem PySem.Spec PyProof.Rows L2
/-- the classes of instances -/
abbrev ClsF (T : Tx) : Prop := ∀ c ∈ T.Cl, Cls T.K (clA T.K c)
/-- a field's name, no attribute of a class -/
structure NoF (T : Tx) (f : String) : Prop where
  na : ∀ c ∈ T.Cl, NoAttr T.K (clA T.K c) (st f)
  mem : f ∈ T.Fl
theorem kit_int (K : PySem.W.Frag) : ∀ t ∈ tyNames, PySem.W.kitOne K (.type t) (.type "int") = some (tySub t "int") := fun t ht => kit_ty (by revert t; decide +kernel)
theorem kit_bool (K : PySem.W.Frag) : ∀ t ∈ tyNames, PySem.W.kitOne K (.type t) (.type "bool") = some (tySub t "bool") := fun t ht => kit_ty (by revert t; decide +kernel)
theorem kit_str (K : PySem.W.Frag) : ∀ t ∈ tyNames, PySem.W.kitOne K (.type t) (.type "str") = some (tySub t "str") := fun t ht => kit_ty (by revert t; decide +kernel)
theorem kit_list (K : PySem.W.Frag) : ∀ t ∈ tyNames, PySem.W.kitOne K (.type t) (.type "list") = some (tySub t "list") := fun t ht => kit_ty (by revert t; decide +kernel)
theorem kit_tuple (K : PySem.W.Frag) : ∀ t ∈ tyNames, PySem.W.kitOne K (.type t) (.type "tuple") = some (tySub t "tuple") := fun t ht => kit_ty (by revert t; decide +kernel)
end Mi
namespace Mi
open PySem PySem.Spec PyProof.Rows L2
/-! looks at what the top has made -/
def excCB (K : PySem.W.Frag) (D : Addr) : Bool :=
  He.eqO (PySem.W.findIn K (.ref D) "__getattribute__") (some (some (.builtin "BaseException.__getattribute__"))) && (He.eqO (PySem.W.findIn K (.ref D) "__getattr__") (some none) &&
  (decide (PySem.W.subIn K (.ref D) (.type "BaseException") = some true) && (PySem.W.hasDictIn K D && (He.eqO (PySem.W.findIn K (.ref D) "__class__") (some (some (.builtin "object.__class__"))) &&
  (He.eqO (PySem.W.specialIn K (.builtin "object.__class__") "__get__") (some (some (.builtin "getset_descriptor.__get__"))) && (decide (PySem.W.takesIn K (.builtin "object.__class__") = some true) && decide (PySem.W.mroIn K D (.type "object") = some true)))))))
theorem excC_of {K : PySem.W.Frag} {D : Addr} (h : excCB K D = true) : ExcC K D := by
  obtain ⟨h1, h⟩ := He.ba h
  obtain ⟨h2, h⟩ := He.ba h
  obtain ⟨h3, h⟩ := He.ba h
  obtain ⟨h4, h⟩ := He.ba h
  obtain ⟨h5, h⟩ := He.ba h
  obtain ⟨h6, h⟩ := He.ba h
  obtain ⟨h7, h8⟩ := He.ba h
  exact ⟨He.eqO_ok h1, He.eqO_ok h2, of_decide_eq_true h3, h4, He.eqO_ok h5, He.eqO_ok h6, of_decide_eq_true h7, of_decide_eq_true h8⟩
def isChk (er ds : List String) (K : PySem.W.Frag) : Bool := er.all fun c => excCB K (clA K c) && (decide (PySem.W.kitOne K (.ref (clA K c)) (.type "ValueError") = some true) && ds.all fun d => decide (PySem.W.kitOne K (.ref (clA K c)) (.ref (clA K d)) = some (isSub c d)))
theorem isF_of {T : Tx} {mg : Str → Option Value} {ds : List String} (h : isChk T.Er ds T.K = true) (g : ∀ d ∈ ds, mg (st d) = some (.ref (clA T.K d))) : IsF T mg ds := by
  have k := List.all_eq_true.mp h
  refine ⟨fun c hc => excC_of (He.ba (k c hc)).1, fun c hc d hd => ?_, fun c hc => of_decide_eq_true (He.ba (He.ba (k c hc)).2).1, g⟩
  exact of_decide_eq_true (List.all_eq_true.mp (He.ba (He.ba (k c hc)).2).2 d hd)
def trChk (er : List String) (c : String) (K : PySem.W.Frag) : Bool := er.all fun d => decide (PySem.W.exmOne K (.ref (clA K d)) (.ref (clA K c)) = some (isSub d c))
theorem trF_of {T : Tx} {mg : Str → Option Value} {c : String} (h : trChk T.Er c T.K = true) (g : mg (st c) = some (.ref (clA T.K c))) : TrF T mg c :=
  ⟨g, fun d hd => of_decide_eq_true (List.all_eq_true.mp h d hd)⟩
theorem exF_of {T : Tx} {mg : Str → Option Value} {c : String} (er : c ∈ T.Er) (h : (He.Fa.exc (st c)).ok T.K = true) (g : mg (st c) = some (.ref (clA T.K c))) : ExF T mg c :=
  let ⟨a, b, d, e⟩ := He.exc_ok h
  ⟨er, a, g, b, d, e⟩
end Mi
end TxMiniX

section TxMiniI
set_option Elab.async false
set_option linter.all false
set_option autoImplicit false
set_option maxRecDepth 100000
set_option maxHeartbeats 4000000
namespace Mi
open PySem PySem.Spec PyProof.Rows L2
section
variable {T : Tx} {X : Cx}
/-! ### xs.index(x) -/
theorem eqs_of {ι : IA} {H : Hp} {m : MV} {v : V} (r : RV T.K ι H m v) (f : Mi.flat m = true) : ∀ {ms : List MV} {vs : List V}, RVs T.K ι H ms vs → ms.all Mi.flat = true → vs.all flatV = true ∧ vs.map (fun y => eqV y v) = ms.map fun y => eqF y m
  | [], vs, rs, _ => by
    unfold RVs at rs; subst rs
    exact ⟨rfl, rfl⟩
  | m1 :: ms, vs, rs, h => by
    cases vs with
    | nil => exact absurd rs.length (by simp)
    | cons v1 vs =>
      unfold RVs at rs
      obtain ⟨_, _, ez, r1, r2⟩ := rs
      cases ez
      simp only [List.all_cons, Bool.and_eq_true] at h
      obtain ⟨a, b⟩ := flat_of r1 h.1
      obtain ⟨c, d⟩ := eqs_of r f r2 h.2
      refine ⟨by simp [a, c], ?_⟩
      rw [List.map_cons, List.map_cons, d, b m v r f]
theorem items_eq {A : Around} {s : Shared} {x : V} {w : Value} : ∀ {vs : List V} {its : List Value}, Vals vs its → L2.RelV x w → vs.all flatV = true → flatV x = true →
    ∀ (j : Nat) (h1 : j < its.length) (h2 : j < (vs.map fun y => eqV y x).length), SeqAt.EqAt A s its[j] w (decide ((vs.map fun y => eqV y x)[j] = true))
  | [], _, e, _, _, _, j, h1, h2 => absurd h2 (Nat.not_lt_zero j)
  | y :: vs, _, .cons (b := u) a e, r, h, hx, j, h1, h2 => by
    simp only [List.all_cons, Bool.and_eq_true] at h
    cases j with
    | zero => simpa using eqAt_V (A := A) (s := s) a r h.1 hx
    | succ j => exact items_eq e r h.2 hx j (Nat.lt_of_succ_lt_succ h1) (Nat.lt_of_succ_lt_succ h2)
theorem m_index (hK : X.K = T.K) : MtR X "list.index" (canM T mIndex) := by
  intro pins s σ H x xs v us Q I rx rv c
  obtain ⟨ι, h, mx, ms, Qm, R, r1, rs, q, m⟩ := c
  unfold mIndex at m
  split at m
  rotate_left
  · exact m.elim
  · rename_i x1 y h1 Q1
    obtain ⟨u, rfl, r2⟩ := rs.one_
    obtain ⟨w, rfl, rw_⟩ : ∃ w, us = [w] ∧ L2.RelV u w := by
      cases rv with
      | cons a b => cases b with
        | nil => exact ⟨_, rfl, a⟩
    split at m
    rotate_left
    · exact m.elim
    · rename_i ys ea
      obtain ⟨m1, m2, m3, m4, m5⟩ := m
      have lay : ∃ p vs, x = .ref p ∧ L2.SqL X.K H p vs ∧ RVs T.K ι H ys vs := by
        cases mx with
        | cst zs =>
          cases ea
          obtain ⟨p, vs, rfl, e1, e2⟩ := r1.cst_
          exact ⟨p, vs, rfl, by rw [hK]; exact e1.l, e2⟩
        | ref r i =>
          have ea : (match rd h r i with
            | some (.lst xs) => some xs
            | _ => none) = some ys := ea
          split at ea
          · rename_i zs eb
            cases ea
            obtain ⟨p, vs, rfl, e0, e1, e2⟩ := R.lst_ r1 eb
            exact ⟨p, vs, rfl, SqL.of e1, e2⟩
          · cases ea
        | _ => cases ea
      obtain ⟨p, vs, rfl, e1, e2⟩ := lay
      obtain ⟨f1, f2⟩ := eqs_of r2 m1 e2 m2
      obtain ⟨fx, _⟩ := flat_of r2 m1
      obtain rfl : v = Value.ref p := rx
      obtain ⟨its, e4, e5, e6⟩ := I.list e1
      refine SeqAt.call_list_index (α := Bool) (vs := its) (ks := vs.map fun y => eqV y u) (k := true) e5.isList ⟨?_, ?_⟩ ?_ ?_ ?_
      · rw [List.length_map, e4.length]
      · exact items_eq e4 rw_ f1 fx
      · rw [List.length_map]; exact e6
      · rw [f2]; exact m3
      · refine ⟨.int ((List.idxOf true (vs.map fun y => eqV y u) : Nat) : Int), H, I.tok _, ?_, ?_⟩
        · exact ⟨_, rfl⟩
        · rw [f2]
          exact q _ _ m5 _ _ _ R Ext.refl .int'
/-! ### is, of truths -/
theorem isSame_bl (a b : Bool) : isSame (.bool a) (.bool b) = pure (a == b) := by cases a <;> cases b <;> rfl
theorem o_isB : OpR X (compareOp .Is) (canR T oIsB) := by
  intro pins s σ H x y v u Q I rx ry c
  obtain ⟨ι, h, mx, my, Qm, R, r1, r2, q, m⟩ := c
  unfold oIsB at m
  split at m
  · rename_i a b
    cases r1.bl_; cases r2.bl_
    have e1 : v = .bool a := rx
    have e2 : u = .bool b := ry
    subst e1 e2
    show wpAny _ _ (isSame (.bool a) (.bool b) >>= fun z => pure (Value.bool z)) _ _ _
    rw [isSame_bl]
    exact wpAny_bind (wpAny_pure (wpAny_pure ⟨.bl _, H, I, rfl, q.here R m .bl'⟩))
  · exact m.elim
theorem o_notB : OpR X (compareOp .IsNot) (canR T oNotB) := by
  intro pins s σ H x y v u Q I rx ry c
  obtain ⟨ι, h, mx, my, Qm, R, r1, r2, q, m⟩ := c
  unfold oNotB at m
  split at m
  · rename_i a b
    cases r1.bl_; cases r2.bl_
    have e1 : v = .bool a := rx
    have e2 : u = .bool b := ry
    subst e1 e2
    show wpAny _ _ (isSame (.bool a) (.bool b) >>= fun z => pure (Value.bool !z)) _ _ _
    rw [isSame_bl]
    exact wpAny_bind (wpAny_pure (wpAny_pure ⟨.bl _, H, I, rfl, q.here R m .bl'⟩))
  · exact m.elim
variable {W : WX} {pos : Pos}
/-! ### zip, enumerate -/
theorem lst_of {ι : IA} {h : MH} {H : Hp} {m : MV} {v : V} {ys : List MV} (R : Rel T ι h H) (r : RV T.K ι H m v) (e : lstOf h m = some ys) : ∃ p vs, v = .ref p ∧ L2.SqL T.K H p vs ∧ RVs T.K ι H ys vs := by
  cases m with
  | cst zs =>
    cases e
    obtain ⟨p, vs, rfl, e1, e2⟩ := r.cst_
    exact ⟨p, vs, rfl, e1.l, e2⟩
  | ref q i =>
    have e : (match rd h q i with
      | some (.lst xs) => some xs
      | _ => none) = some ys := e
    split at e
    · rename_i zs eb
      cases e
      obtain ⟨p, vs, rfl, e0, e1, e2⟩ := R.lst_ r eb
      exact ⟨p, vs, rfl, SqL.of e1, e2⟩
    · cases e
  | _ => cases e
/-! ### targets of several names -/
def canGm (T : Tx) (W : WX) (gs : WGs) : L2.TGs := fun vs σ H Q => ∃ ι h σm ms Qm Em, Rel T ι h H ∧ RS T ι H σm σ ∧ RVs T.K ι H ms vs ∧ PP T ι H Qm Q ∧ PX T ι H Em (L2.WE W σ) ∧ gs ms σm h Qm Em
theorem PGs.le {ts : List Expr} {t t' : L2.TGs} (h : PGs X ts t) (le : ∀ vs σ H Q, t' vs σ H Q → t vs σ H Q) : PGs X ts t' := ⟨fun pins s σ H vs us Q I r q => h.run pins s σ H vs us Q I r (le _ _ _ _ q)⟩
theorem gs_nil : PGs X [] (canGm T W Mi.gNil) := PGs.le pgs_nil fun vs σ H Q ⟨ι, h, σm, ms, Qm, Em, R, s, r, q, x, m⟩ => by
  unfold Mi.gNil at m
  split at m
  · unfold RVs at r
    exact ⟨r, q _ _ m _ _ _ R Ext.refl s⟩
  · exact m.elim
theorem gs_cons {e : Expr} {es : List Expr} {g : WG} {gs : WGs} (he : PG X e (canG T W g)) (hs : PGs X es (canGm T W gs))
    (h1 : (assignEach (e :: es) X.env).map (·.2) = assign e X.env :: (assignEach es X.env).map (·.2) := by rfl) : PGs X (e :: es) (canGm T W (Mi.gCons g gs)) :=
  PGs.le (pgs_cons he hs h1) fun vs σ H Q ⟨ι, h, σm, ms, Qm, Em, R, s, r, q, x, m⟩ => by
    unfold Mi.gCons at m
    split at m
    rotate_left
    · exact m.elim
    · rename_i v0 ms1
      unfold RVs at r
      obtain ⟨u, r0, rfl, e1, e2⟩ := r
      refine ⟨u, r0, rfl, ι, h, σm, v0, _, Em, R, s, e1, ?_, x, m⟩
      intro σ1 h1 m1 ι1 H1 σ2 R1 X1 s1
      exact ⟨ι1, h1, σ1, ms1, Qm, fun _ _ => False, R1, s1, RVs.ext R X1 _ _ e2, q.ext R1 X1, fun _ _ _ z => z.elim, m1⟩
theorem g_tup {es : List Expr} {k n : Nat} {gs : WGs} (hK : X.K = T.K) (hc : X.calm = true) (h : PGs X es (canGm T W gs)) (hn : (assignEach es X.env).length = n := by rfl) (hf : (assignEach es X.env).findIdx? (fun x => x.1) = none := by rfl) :
    PG X (.Tuple es k pos) (canG T W (Mi.gTup n gs)) := PG.le (pg_tup hc h hn hf) fun v σ H Q ⟨ι, h, σm, mv, Qm, Em, R, s, r, q, x, m⟩ => by
  unfold Mi.gTup at m
  split at m
  · obtain ⟨p, vs, rfl, e1, e2⟩ := r.tup_
    exact ⟨p, vs, rfl, by rw [hK]; exact e1, by rw [← e2.length]; exact m.1, ι, h, σm, _, Qm, Em, R, s, e2, q, x, m.2⟩
  · exact m.elim
theorem srcR_zip {ι : IA} {h : MH} {H : Hp} {m1 m2 : MV} {p1 p2 : Addr} {xs ys : List MV} (R0 : Rel T ι h H) (r1 : RV T.K ι H m1 (.ref p1)) (r2 : RV T.K ι H m2 (.ref p2)) :
    SrcR T ι H ⟨(xs.zip ys).map fun p => .tup [p.1, p.2], fun h' => lstOf h' m1 = some xs ∧ lstOf h' m2 = some ys⟩ (Itz T.K p1 p2) where
  go := fun j ι' h' H' R X c hj => by
    obtain ⟨q1, vs, e1, e2, e3⟩ := lst_of R (RV.ext R0 X _ _ r1) c.1
    obtain ⟨q2, us, e4, e5, e6⟩ := lst_of R (RV.ext R0 X _ _ r2) c.2
    cases e1; cases e4
    have hj : j < ((xs.zip ys).map fun p => MV.tup [p.1, p.2]).length := hj
    rw [List.length_map, List.length_zip, e3.length, e6.length] at hj
    exact ⟨vs, us, _, _, e2, e5, List.getElem?_eq_getElem (by omega), List.getElem?_eq_getElem (by omega)⟩
  yld := fun j ι' h' H' m x H'' R X c hm y => by
    obtain ⟨q1, vs, e1, e2, e3⟩ := lst_of R (RV.ext R0 X _ _ r1) c.1
    obtain ⟨q2, us, e4, e5, e6⟩ := lst_of R (RV.ext R0 X _ _ r2) c.2
    cases e1; cases e4
    obtain ⟨t, x1, x2, rfl, hn, rfl, y1, y2⟩ := y
    have hm : ((xs.zip ys).map fun p => MV.tup [p.1, p.2])[j]? = some m := hm
    rw [List.getElem?_map] at hm
    obtain ⟨⟨a, b⟩, z1, rfl⟩ := Option.map_eq_some_iff.mp hm
    rw [List.getElem?_zip_eq_some] at z1
    obtain ⟨v, w1, w2⟩ := e3.get z1.1
    obtain ⟨u, w3, w4⟩ := e6.get z1.2
    have := y1 vs e2; rw [w1] at this; cases this
    have := y2 us e5; rw [w3] at this; cases this
    exact tup_at R hn (RVs.cons w2 (RVs.one w4))
  stop := fun ι' h' H' R X c => by
    obtain ⟨q1, vs, e1, e2, e3⟩ := lst_of R (RV.ext R0 X _ _ r1) c.1
    obtain ⟨q2, us, e4, e5, e6⟩ := lst_of R (RV.ext R0 X _ _ r2) c.2
    cases e1; cases e4
    refine ⟨vs, us, e2, e5, ?_⟩
    show vs.length ≤ ((xs.zip ys).map fun p => MV.tup [p.1, p.2]).length ∨ us.length ≤ ((xs.zip ys).map fun p => MV.tup [p.1, p.2]).length
    rw [List.length_map, List.length_zip, e3.length, e6.length]
    omega
theorem srcR_enum {ι : IA} {h : MH} {H : Hp} {m1 : MV} {p1 : Addr} {xs : List MV} (R0 : Rel T ι h H) (r1 : RV T.K ι H m1 (.ref p1)) :
    SrcR T ι H ⟨enumF 0 xs, fun h' => lstOf h' m1 = some xs⟩ (Ite T.K p1) where
  go := fun j ι' h' H' R X c hj => by
    obtain ⟨q1, vs, e1, e2, e3⟩ := lst_of R (RV.ext R0 X _ _ r1) c
    cases e1
    have hj : j < (enumF 0 xs).length := hj
    rw [enumF_len, e3.length] at hj
    exact ⟨vs, _, e2, List.getElem?_eq_getElem hj⟩
  yld := fun j ι' h' H' m x H'' R X c hm y => by
    obtain ⟨q1, vs, e1, e2, e3⟩ := lst_of R (RV.ext R0 X _ _ r1) c
    cases e1
    obtain ⟨t, x1, rfl, hn, rfl, y1⟩ := y
    have hm : (enumF 0 xs)[j]? = some m := hm
    rw [enumF_at] at hm
    obtain ⟨a, z1, rfl⟩ := Option.map_eq_some_iff.mp hm
    obtain ⟨v, w1, w2⟩ := e3.get z1
    have := y1 vs e2; rw [w1] at this; cases this
    exact tup_at R hn (RVs.cons (by rw [Nat.zero_add]; exact .int') (RVs.one w2))
  stop := fun ι' h' H' R X c => by
    obtain ⟨q1, vs, e1, e2, e3⟩ := lst_of R (RV.ext R0 X _ _ r1) c
    cases e1
    refine ⟨vs, e2, ?_⟩
    show vs.length ≤ (enumF 0 xs).length
    rw [enumF_len, e3.length]
    exact Nat.le_refl _
theorem i_zip {a b : Expr} {ma mb : WE} {p tpos : Pos} {elts : List Expr} {kk : Nat} (hK : X.K = T.K) (hg : Gl X "zip") (hm : X.mg "zip" = none) (ha : PE X a (canE T W ma)) (hb : PE X b (canE T W mb))
    (hs : starEach [a, b] X.env = (false, eval a X.env) :: starEach [b] X.env := by rfl) (hs2 : starEach [b] X.env = [(false, eval b X.env)] := by rfl) (hpl : ((backTo pos (starEach [b] X.env)).any fun x => x.1) = false := by rfl) :
    PI X (.Tuple elts kk tpos) (.Call (.Name "zip" p) [a, b] [] pos) (canI T W (Mi.iZip ma mb)) := PI.le (pi_zip hg hm (pa_cons ha (pa_cons hb pa_nil (by rw [hs2]; rfl)) hs) hs hpl) fun σ H Rr ⟨ι, h, σm, Rm, Em, R, s, x, q, m⟩ => by
  refine canE_mk R s x m fun v h1 m1 ι1 H1 u R1 X1 s1 x1 r1 => ?_
  refine canE_mk R1 s1 x1 m1 fun v2 h2 m2 ι2 H2 u2 R2 X2 s2 x2 r2 => ?_
  have r1 := RV.ext R1 X2 _ _ r1
  split at m2
  · rename_i xs ys ea eb
    obtain ⟨p1, vs, rfl, e1, e2⟩ := lst_of R2 r1 ea
    obtain ⟨p2, us, rfl, e3, e4⟩ := lst_of R2 r2 eb
    exact ⟨p1, p2, vs, us, rfl, by rw [hK]; exact e1, by rw [hK]; exact e3, by rw [hK]; exact q _ _ m2 _ _ _ R2 (Ext.trans R1 X1 X2) (srcR_zip R2 r1 r2)⟩
  · exact m2.elim
theorem i_enum {a : Expr} {ma : WE} {p tpos : Pos} {elts : List Expr} {kk : Nat} (hK : X.K = T.K) (hg : Gl X "enumerate") (hm : X.mg "enumerate" = none) (ha : PE X a (canE T W ma))
    (hs : starEach [a] X.env = [(false, eval a X.env)] := by rfl) :
    PI X (.Tuple elts kk tpos) (.Call (.Name "enumerate" p) [a] [] pos) (canI T W (Mi.iEnum ma)) := PI.le (pi_enum hg hm (pa_cons ha pa_nil (by rw [hs]; rfl)) hs) fun σ H Rr ⟨ι, h, σm, Rm, Em, R, s, x, q, m⟩ => by
  refine canE_mk R s x m fun v h1 m1 ι1 H1 u R1 X1 s1 x1 r1 => ?_
  split at m1
  · rename_i xs ea
    obtain ⟨p1, vs, rfl, e1, e2⟩ := lst_of R1 r1 ea
    exact ⟨p1, vs, rfl, by rw [hK]; exact e1, by rw [hK]; exact q _ _ m1 _ _ _ R1 X1 (srcR_enum R1 r1)⟩
  · exact m1.elim
end
end Mi
end TxMiniI

section TxMiniJ
set_option Elab.async false
set_option linter.all false
set_option autoImplicit false
set_option maxRecDepth 100000
set_option maxHeartbeats 4000000
namespace Mi
open PySem PySem.Spec PyProof.Rows L2
/-! ### an error handed to a def, within the suite that holds it -/
/-- a def's promise where the object p stands aside -/
structure FnP (P : Program) (w : World) (K : PySem.W.Frag) (mg : Str → Option Value) (base : Heap) (k : Nat) (f : Addr) (fd : FuncData) (ps : List Str) (p : Addr × Obj) (sp : Sp) : Prop where
  len : ∀ vs H Q E, sp vs H Q E → vs.length = ps.length
  run : ∀ (A : Around) (fr : List Env) (s : Shared) (H : Hp) (gs : Args) (us : List Value) (vs : List V) (Q : VK) (E : XK), L2H.RoomH k A → L2H.PinOk fr H s p → Env0 P w K mg base A fr s H → BindsTo s fd gs (ps.zip us) → Vals vs us → sp vs H Q E → codeAny (model P w) A (.call (.ref f) gs) (CR (L2.CX P w) fr P w H s Q E) s
section
variable {T : Tx} {P : Program} {w : World} {mg : Str → Option Value} {base : Heap}
theorem fnP_of {x qual : Str} {params : Arguments} {stmts : List Stmt} {scope : Scope} {f : Addr} {fd : FuncData} {N ps : List Str} {k : Nat} {sp : Sp} {p : Addr × Obj} (F : FunD T.K x qual params stmts scope [] [] f fd) (S : FnScope N ps scope)
    (len : ∀ vs H Q E, sp vs H Q E → vs.length = ps.length)
    (hb : ∀ (cdv : Value) (A : Around) (fr : List Env) (s : Shared) (H : Hp) (vs : List V) (Q : VK) (E : XK), L2H.RoomH k (A.deeper (envOfC qual scope s.heap.objs.size f cdv)) → sp vs H Q E →
      ∃ t, PSs (L2H.cxH (L2.CX P w) P w T.K mg base N qual scope f cdv A fr s H E p) stmts t ∧ t { nx := fun _ H' => Q .non H', rt := Q } (start N vs) H) : FnP P w T.K mg base (k + 1) f fd ps p sp := by
  obtain ⟨o1, o2, dV, kV, doc, pm, an, cdv, ct, o3, rfl, lk, hcd, _, _⟩ := F.ex
  constructor
  · exact len
  intro A fr s H gs us vs Q E room pin env bto vals want
  have kin := env.mod.kin.keeps (fun b o e => (env.bs b o e).1 : ∀ b o, base.get? b = some o → s.heap.get? b = some o)
  have nol := env.mod.nolimit.keeps (fun b o e => (env.bs b o e).1 : ∀ b o, base.get? b = some o → s.heap.get? b = some o)
  have kinds : ∀ y ∈ ps.zip us, scope.names.lookup y.1 = some .local ∨ (scope.names.lookup y.1 = some .cell ∧ ((cellsFrom (s.heap.objs.size + 1) scope.names []).lookup y.1).isSome = true) := by
    intro y hy
    obtain ⟨n, v⟩ := y
    have m := (List.of_mem_zip hy).1
    exact (S.par n m).elim Or.inl fun q => Or.inr ⟨q, PySem.W.cellsFrom_some _ _ _ (Or.inl q)⟩
  refine codeAny_call_function room.depth (kin _ _ lk) rfl S.co S.gen rfl (PySem.W.codeRec_of kin hcd) (bto _ _ _ _ (wpAny_newFunctionEnv_cells S.kind kinds fun env' he s1 ic => ?_))
  subst he
  refine ⟨nol.keeps ic.toInCall.keep, codeAny_func ?_⟩
  obtain ⟨t, ht, hq⟩ := hb cdv A fr s H vs Q E (room.deeper _) want
  have I := L2H.inv_startH (CX := L2.CX P w) (E := E) S pin env (len _ _ _ _ want) vals ic
  have fin : ∀ {σ2 : L2.St} {H2 : Hp} {v : V} {u : Value} {s2 : Shared}, Inv (L2H.cxH (L2.CX P w) P w T.K mg base N qual scope f cdv A fr s H E p) [] σ2 H2 s2 → RelV v u → Q v H2 → CE fr P w H s Q u s2 := fun J rv q => ⟨_, _, J.os, J.bare, J.base, J.hok, rv, q⟩
  refine wpAny_mono (ht.run [] s1 _ H _ I hq) (fun fl s2 hs => ?_) (fun _ _ z => z)
  match fl, hs with
  | .ret u, ⟨v, σ2, H2, J, rv, q⟩ => exact fin J rv q
  | .next, ⟨σ2, H2, J, q⟩ => exact fin (v := V.non) (u := Value.none) J rfl q
  | .brk, ⟨_, _, _, q⟩ => exact q.elim
  | .cont, ⟨_, _, _, q⟩ => exact q.elim
/-- a def that is handed an error of class c at address a -/
structure FnE (T : Tx) (P : Program) (w : World) (mg : Str → Option Value) (base : Heap) (k : Nat) (x : String) (ps : List Str) (G : String → Nat → WF) : Prop where
  ok : ∃ fd, (∀ (c : String) (p : Addr × Obj), c ∈ T.Er → Zc (.ref (clA T.K c)) none p.2 → (∃ vs, p.2.data = .fields vs) → FnP P w T.K mg base k (He.ga T.K (st x)) fd ps p (spM T (G c p.1))) ∧ Binds T.K fd ps []
  at_ : mg (st x) = some (.ref (He.ga T.K (st x)))
  kp : PySem.W.keepIn T.K (.ref (He.ga T.K (st x))) = true
theorem fnE_mk {x : String} {params : Arguments} {stmts : List Stmt} {scope : Scope} {N ps : List Str} {k np nl : Nat} {body : String → Nat → WS} (D : ∃ fd, FunD T.K (st x) (st x) params stmts scope [] [] (He.ga T.K (st x)) fd) (at_ : mg (st x) = some (.ref (He.ga T.K (st x)))) (S : FnScope N ps scope) (hp : ps.length = np) (hn : N.length = nl)
    (hbi : ∀ (kV doc pm : Value) (an : Option Addr) (cdv ct : Value) (us : List Value), us.length = ps.length → bindArgs (PySem.W.fnOf (st x) (st x) params stmts scope .none kV doc pm an cdv ct) ⟨us, []⟩ = pure (ps.zip us))
    (hb : ∀ (c : String) (p : Addr × Obj), c ∈ T.Er → Zc (.ref (clA T.K c)) none p.2 → (∃ vs, p.2.data = .fields vs) → ∀ (cdv : Value) (A : Around) (fr : List Env) (s : Shared) (H : Hp) (E : XK), L2H.RoomH k (A.deeper (envOfC (st x) scope s.heap.objs.size (He.ga T.K (st x)) cdv)) →
      PSs (L2H.cxH (L2.CX P w) P w T.K mg base N (st x) scope (He.ga T.K (st x)) cdv A fr s H E p) stmts (canS T (fun cls d _ H => E cls d H) (body c p.1))) : FnE T P w mg base (k + 1) x ps (fun c a => fnM np nl (body c a)) := by
  obtain ⟨fd, F⟩ := D
  refine ⟨⟨fd, fun c p hc hz hv => fnP_of F S (fun vs H Q E h => by rw [hp]; exact sp_len h) fun cdv A fr s H vs Q E hr h => ⟨_, hb c p hc hz hv cdv A fr s H E hr, fn_rd hn h⟩, F.bindsN hbi⟩, at_, F.kp⟩
end
section
variable {T : Tx} {X : Cx} {W : WX} {pos pos' : Pos} {k j : Nat} {x c : String} {ps : List Str} {G : String → Nat → WF} {es : List Expr} {as : WA} {a : Addr} {oe : Obj}
/-- the call within the suite -/
theorem e_callX {e : Expr} {p : Pos} (hK : X.K = T.K) (tk : Takes X W) (hp : (a, oe) ∈ X.pn) (hc : c ∈ T.Er) (hz : Zc (.ref (clA T.K c)) none oe) (hv : ∃ vs, oe.data = .fields vs) (f : FnE T X.prog X.w X.mg X.base j x ps G) (hj : j ≤ k) (hr : L2H.RoomH k X.A) (hg : Gl X (st x)) (ha : PA X (e :: es) (canA T W as)) (hdb : (st x == ("__debug__" : Str)) = false)
    (he : starEach (e :: es) X.env = (false, eval e X.env) :: starEach es X.env := by rfl) (hpl : (backTo pos (starEach es X.env)).any (·.1) = false := by rfl) :
    PE X (.Call (.Name (st x) p) (e :: es) [] pos) (canE T W (wCall (G c a) as)) := by
  obtain ⟨fd, g, b⟩ := f.ok
  have g := g c (a, oe) hc hz hv
  have kp := f.kp
  have at_ := f.at_
  rw [← hK] at g b kp at_
  refine ⟨fun pins s σ H Q I h => ?_⟩
  have h := show canA T W as σ H (fun vs H1 => spM T (G c a) vs H1 Q (L2.WE W σ)) from by
    obtain ⟨ι, h, σm, Qm, Em, R, sr, q, x, m⟩ := h
    exact canA_mk R sr x m fun ms h1 m1 ι1 H1 vs R1 X1 s1 x1 r1 => sp_of R1 r1 (q.ext R1 X1) x1 m1
  refine wpAny_Call_Name_kw (ld_glob I hg at_ ?_ hdb)
  refine PySem.W.callWith_K (h₀ := X.base) I.ok.mod.kin kp (thn (ha.run pos pins s σ H _ I h) fun us s1 ⟨vs, H1, I1, r, q⟩ => ⟨I1.kIn, ?_⟩) he hpl
  have pin := I1.pin (a, oe) (List.mem_append.mpr (Or.inl hp))
  have ok : L2H.PinOk X.stack H1 s1 (a, oe) := ⟨pin.1, pin.2.1, fun hm => by
    rcases List.mem_cons.mp (I1.stkSub a hm) with z | z
    · exact pin.2.2.1 z
    · exact pin.2.2.2.1 z, pin.2.2.2.2⟩
  have hl : us.length = ps.length := r.length.symm.trans (g.len _ _ _ _ q)
  have bt := b s1 us I1.kIn (by rw [List.append_nil]; exact hl)
  rw [List.append_nil] at bt
  refine wpAny_call (codeAny_mono (g.run X.A X.stack s1 H1 ⟨us, []⟩ us vs Q (L2.WE W σ) (hr.mono hj) ok I1.env0 bt r q) fun o s2 hq => ?_)
  match o, hq with
  | .error e, hq => exact passAt tk σ pins H1 s1 e s2 I1 hq
  | .ok (.ret u), hq => exact I1.after hq
  | .ok .next, hq => exact False.elim hq
  | .ok .brk, hq => exact False.elim hq
  | .ok .cont, hq => exact False.elim hq
/-! isinstance of the error that stands aside -/
theorem call_isP {D : Addr} (hp : (a, oe) ∈ X.pn) (C : ExcC X.K D) (hz : Zc (.ref D) none oe) (hf : ∃ vs, oe.data = .fields vs) : CallR X (.builtin "isinstance") (rIsE X.K D a) := by
  intro pins s σ H xs us Q I r h
  obtain ⟨cv, val, b, rfl, same, e, q⟩ := h
  match r with
  | .cons rx (.cons rt .nil) =>
    have e1 := same _ rt
    subst e1
    cases rx
    have get := (I.pin (a, oe) (List.mem_append.mpr (Or.inl hp))).1
    have J : PySem.W.InstAt s.heap a oe D none := by
      obtain ⟨o1, o2, o3, o4⟩ := oe
      obtain ⟨y1, y2⟩ := hz
      obtain ⟨fs, y3⟩ := hf
      dsimp only at y1 y2 y3
      subst y1 y2 y3
      exact ⟨get, rfl, rfl, trivial⟩
    have kx := PySem.W.handS_kitx_exc (x := a) (ox := oe) C.hg C.hk C.hs C.hd C.ha C.hn C.ht C.hm
    exact PySem.W.kia_one kx I.kIn J e (fun z => by cases z) fun tk => ⟨.bl b, H, I.kept (t' := tk) (fun _ _ z => z), rfl, q⟩
variable {ds : List String} {i : Nat} {n : Str} {p p2 p3 : Pos}
theorem is_slotW {Q : VK} {σ : L2.St} {H : Hp} {b : Bool} (r : canE T W (wIsE i a b) σ H Q) : σ[i]? = some (some (.ref a)) ∧ ∃ ι h Qm, Rel T ι h H ∧ PQ T ι H Qm Q ∧ Qm (.bl b) h := by
  obtain ⟨ι, h, σm, Qm, Em, R, sr, q, x, m1, m2⟩ := r
  obtain ⟨v, y1, y2⟩ := sr.2 i _ m1
  have y2 : v = .ref a := by unfold RV at y2; exact y2
  rw [y2] at y1
  exact ⟨y1, ι, h, Qm, R, q, m2⟩
theorem e_isPE {d : String} (hK : X.K = T.K) (f : IsF T X.mg ds) (hp : (a, oe) ∈ X.pn) (hc : c ∈ T.Er) (hd : d ∈ ds) (hz : Zc (.ref (clA T.K c)) none oe) (hv : ∃ vs, oe.data = .fields vs) (hg : Gl X "isinstance") (hm : X.mg "isinstance" = none) (he : PE X (.Name n p2) (L2.tVar i))
    (hgd : Gl X (st d)) (hdb : (st d == ("__debug__" : Str)) = false)
    (hs : starEach [.Name n p2, .Name (st d) p3] X.env = (false, eval (.Name n p2) X.env) :: starEach [.Name (st d) p3] X.env := by rfl) (hpl : (backTo pos (starEach [.Name (st d) p3] X.env)).any (·.1) = false := by rfl) :
    PE X (.Call (.Name "isinstance" p) [.Name n p2, .Name (st d) p3] [] pos) (canE T W (wIsE i a (isSub c d))) := by
  have y1 := f.ec c hc
  have y2 := f.kt c hc d hd
  rw [← hK] at y1 y2 hz
  refine PE.le (pe_callB (call_isP hp y1 hz hv) hg hm (by decide +kernel) (pa_cons he (pa_cons (pe_glob (v := .ref (clA T.K d)) hgd (f.at_ d hd) rfl hdb) pa_nil) hs) (by decide) (by decide) hs hpl) fun σ H Q r => ?_
  obtain ⟨z, ι, h, Qm, R, q, m⟩ := is_slotW r
  refine ⟨_, z, .ref (clA T.K d), .ref (clA T.K d), isSub c d, rfl, fun u r => r, ?_, q.here R m .bl'⟩
  rw [hK] at y2 ⊢
  exact y2
theorem e_isPV (hK : X.K = T.K) (f : IsF T X.mg ds) (hp : (a, oe) ∈ X.pn) (hc : c ∈ T.Er) (hz : Zc (.ref (clA T.K c)) none oe) (hv : ∃ vs, oe.data = .fields vs) (hg : Gl X "isinstance") (hm : X.mg "isinstance" = none) (he : PE X (.Name n p2) (L2.tVar i))
    (hgd : Gl X "ValueError") (hmd : X.mg "ValueError" = none)
    (hs : starEach [.Name n p2, .Name "ValueError" p3] X.env = (false, eval (.Name n p2) X.env) :: starEach [.Name "ValueError" p3] X.env := by rfl) (hpl : (backTo pos (starEach [.Name "ValueError" p3] X.env)).any (·.1) = false := by rfl) :
    PE X (.Call (.Name "isinstance" p) [.Name n p2, .Name "ValueError" p3] [] pos) (canE T W (wIsE i a true)) := by
  have y1 := f.ec c hc
  have y2 := f.kv c hc
  rw [← hK] at y1 y2 hz
  refine PE.le (pe_callB (call_isP hp y1 hz hv) hg hm (by decide +kernel) (pa_cons he (pa_cons (pe_bltn (v := .ty "ValueError") hgd hmd (by decide +kernel) rfl) pa_nil) hs) (by decide) (by decide) hs hpl) fun σ H Q r => ?_
  obtain ⟨z, ι, h, Qm, R, q, m⟩ := is_slotW r
  refine ⟨_, z, .ty "ValueError", .type "ValueError", true, rfl, fun u r => r, ?_, q.here R m .bl'⟩
  rw [hK] at y2 ⊢
  exact y2
theorem call_isPT {D : Addr} (hp : (a, oe) ∈ X.pn) (C : ExcC X.K D) (hz : Zc (.ref D) none oe) (hf : ∃ vs, oe.data = .fields vs) :
    CallR X (.builtin "isinstance") (fun xs H Q => ∃ (tp : Addr) (cs : List V) (us : List Value) (b : Bool), xs = [.ref a, .ref tp] ∧ H tp = some (.tup cs) ∧ Paired ClsV cs us ∧ PySem.W.kitAny X.K (.ref D) us = some b ∧ Q (.bl b) H) := by
  intro pins s σ H xs us Q I r h
  obtain ⟨tp, cs, ws, b, rfl, hT, pr, e, q⟩ := h
  match r with
  | .cons rx (.cons rt .nil) =>
    cases rx
    cases rt
    have get := (I.pin (a, oe) (List.mem_append.mpr (Or.inl hp))).1
    have J : PySem.W.InstAt s.heap a oe D none := by
      obtain ⟨o1, o2, o3, o4⟩ := oe
      obtain ⟨y1, y2⟩ := hz
      obtain ⟨fs, y3⟩ := hf
      dsimp only at y1 y2 y3
      subst y1 y2 y3
      exact ⟨get, rfl, rfl, trivial⟩
    obtain ⟨_, its, rv, ot, w1, w2, n, w3⟩ := (show ObjOk X.prog X.w H s.heap tp (.tup cs) from I.hok tp _ hT)
    have w4 := ClsV.all pr rv
    subst w4
    obtain ⟨t1, t2, t3, t4⟩ := ot
    dsimp only at w2 w3
    subst w2 w3
    have kx := PySem.W.handS_kitx_exc (x := a) (ox := oe) C.hg C.hk C.hs C.hd C.ha C.hn C.ht C.hm
    exact PySem.W.kia_tup kx I.kIn J w1 e (fun z => by cases z) fun tk => ⟨.bl b, H, I.kept (t' := tk) (fun _ _ z => z), rfl, q⟩
theorem e_isPT {es : List String} {xs : List Expr} {t : TA} {k : Nat} {p4 : Pos} (hK : X.K = T.K) (f : IsF T X.mg ds) (hp : (a, oe) ∈ X.pn) (hc : c ∈ T.Er) (hd : ∀ d ∈ es, d ∈ ds) (hl : es.length ≤ 100) (hz : Zc (.ref (clA T.K c)) none oe) (hv : ∃ vs, oe.data = .fields vs) (hg : Gl X "isinstance") (hm : X.mg "isinstance" = none) (he : PE X (.Name n p2) (L2.tVar i))
    (ha : PA X xs t) (ht : ∀ σ H Q, Q (es.map fun d => V.ref (clA T.K d)) H → t σ H Q)
    (hs : starEach [.Name n p2, .Tuple xs k p4] X.env = (false, eval (.Name n p2) X.env) :: starEach [.Tuple xs k p4] X.env := by rfl) (hpl : (backTo pos (starEach [.Tuple xs k p4] X.env)).any (·.1) = false := by rfl)
    (hs2 : starEach [.Tuple xs k p4] X.env = (false, eval (.Tuple xs k p4) X.env) :: starEach [] X.env := by rfl) :
    PE X (.Call (.Name "isinstance" p) [.Name n p2, .Tuple xs k p4] [] pos) (canE T W (wIsE i a (es.any (isSub c)))) := by
  have y1 := f.ec c hc
  have y2 := kitAny_of (K := T.K) (g := fun d => Value.ref (clA T.K d)) (fun d h => f.kt c hc d (hd d h))
  rw [← hK] at y1 hz
  refine PE.le (pe_callB (call_isPT hp y1 hz hv) hg hm (by decide +kernel) (pa_cons he (pa_cons (pe_tup ha) pa_nil hs2) hs) (by decide) (by decide) hs hpl) fun σ H Q r => ?_
  obtain ⟨z, ι, h, Qm, R, q, m⟩ := is_slotW r
  refine ⟨_, z, ht _ _ _ ⟨by rw [List.length_map, sizeLine_eq]; omega, fun tp htp => ?_⟩⟩
  obtain ⟨R2, X2⟩ := aside (O := .tup (es.map fun d => V.ref (clA T.K d))) R htp
  refine ⟨tp, _, _, es.any (isSub c), rfl, upd_same, paired_cls es, ?_, q _ _ m _ _ _ R2 X2 .bl'⟩
  rw [hK]
  exact y2
end
theorem roomH_u {k : Nat} {A : Around} (r : L2H.RoomH k A) : A.units + 64 < cLine := by have := r.un; omega
theorem roomS {k : Nat} {A : Around} {v : Option Value} (r : Room k A) : L2H.RoomH k (A.mark v) := ⟨r.dp, r.un⟩
end Mi
end TxMiniJ

section TxMiniK
set_option Elab.async false
set_option linter.all false
set_option autoImplicit false
set_option maxRecDepth 100000
set_option maxHeartbeats 4000000
namespace Mi
open PySem PySem.Spec PyProof.Rows L2
/-! ### constant tuples of texts -/
structure TupF (T : Tx) (mg : Str → Option Value) (x : String) (ss : List String) : Prop where
  at_ : mg (st x) = some (.ref (He.ga T.K (st x)))
  sq : ∀ H, L2.SqT T.K H (He.ga T.K (st x)) (ss.map fun s => V.str (st s))
  ob : ∃ o, T.K.lookup (He.ga T.K (st x)) = some o ∧ o.cls = .type "tuple" ∧ o.dict = none
theorem RVs.strs {K : PySem.W.Frag} {ι : IA} {H : Hp} : ∀ ss : List String, RVs K ι H (ss.map .str) (ss.map fun s => V.str (st s))
  | [] => RVs.nil
  | s :: ss => RVs.cons (by unfold RV; rfl) (RVs.strs ss)
def tupChk (x : String) (ss : List String) (K : PySem.W.Frag) : Bool := He.tupB K (st x) (ss.map fun s => .str (st s)) && (match K.lookup (He.ga K (st x)) with
  | some ⟨.type c, none, _, _⟩ => decide (c = "tuple")
  | _ => false)
theorem tupF_of {T : Tx} {mg : Str → Option Value} {x : String} {ss : List String} (h : tupChk x ss T.K = true) (g : mg (st x) = some (.ref (He.ga T.K (st x)))) : TupF T mg x ss := by
  unfold tupChk at h
  obtain ⟨h1, h2⟩ := He.ba h
  refine ⟨g, fun H => ?_, ?_⟩
  · have := He.tupB_ok h1 H
    rw [List.map_map] at this
    exact this
  · cases q : T.K.lookup (He.ga T.K (st x)) with
    | none => rw [q] at h2; cases h2
    | some o =>
      rw [q] at h2
      obtain ⟨oc, od, dt, sl⟩ := o
      cases oc with
      | type c =>
        cases od with
        | none => exact ⟨_, rfl, by rw [of_decide_eq_true h2], rfl⟩
        | some _ => cases h2
      | _ => cases h2
section
variable {T : Tx} {X : Cx} {W : WX} {pos : Pos} {x : String} {ss : List String} {e : Expr} {me : WE}
theorem e_gstrs (f : TupF T X.mg x ss) (hg : Gl X (st x)) (hdb : (st x == ("__debug__" : Str)) = false) : PE X (.Name (st x) pos) (canE T W (wC (.tup (ss.map .str)))) :=
  e_gtup f.at_ f.sq (fun ι H => RVs.strs ss) hg hdb
theorem find_first_is {ss : List String} {s : String} {n : Nat} (h : ss.findIdx? (fun t => decide (t = s)) = some n) : (ss.map st)[n]? = some (st s) ∧ ∀ m, m < n → (ss.map st)[m]? ≠ some (st s) := by
  obtain ⟨hn, h1, h2⟩ := List.findIdx?_eq_some_iff_getElem.mp h
  refine ⟨?_, fun m hm z => ?_⟩
  · rw [List.getElem?_map, List.getElem?_eq_getElem hn]
    have := of_decide_eq_true h1
    rw [this]; rfl
  · rw [List.getElem?_map, List.getElem?_eq_getElem (Nat.lt_trans hm hn)] at z
    have e1 : st (ss[m]'(Nat.lt_trans hm hn)) = st s := Option.some.inj z
    have e2 : (ss[m]'(Nat.lt_trans hm hn)) = s := by
      have b := st_beq (ss[m]'(Nat.lt_trans hm hn)) s
      rw [e1, beq_self_eq_true] at b
      exact beq_iff_eq.mp b.symm
    exact h2 m hm (decide_eq_true e2)
theorem e_gidx {p apos : Pos} (hK : X.K = T.K) (f : TupF T X.mg x ss) (hg : Gl X (st x)) (hdb : (st x == ("__debug__" : Str)) = false) (he : PE X e (canE T W me))
    (hbase : attributeBase (.Name (st x) p) "index" X.env (eval (.Name (st x) p) X.env) = eval (.Name (st x) p) X.env := by rfl)
    (hfew : ((backTo pos (starEach [e] X.env)).all (fun x => !x.1) && (backToKw pos (keywordEach [] X.env)).all (fun x => x.1.isSome)
      && decide (([e] : List Expr).length + ([] : List Keyword).length + (if ([] : List Keyword).isEmpty then 0 else 1) < 30)) = true := by rfl)
    (hline : (apos.endLine == pos.line) = true := by rfl) (hs : starEach [e] X.env = (false, eval e X.env) :: starEach [] X.env := by rfl) (hpl : (backTo pos (starEach [] X.env)).any (·.1) = false := by rfl) :
    PE X (.Call (.Attribute (.Name (st x) p) "index" apos) [e] [] pos) (canE T W (wTupIx ss me)) := by
  refine PE.le (pe_bm (T := "tuple") PySem.F.plainAttrs_tuple PySem.F.slot_tuple_index PySem.F.type_tuple_index mt_tup_index (pe_glob (v := .ref (He.ga T.K (st x))) hg f.at_ rfl hdb) (pa_cons he pa_nil hs) hbase hfew hline hs hpl) fun σ H Q r => ?_
  obtain ⟨ι, h, σm, Qm, Em, R, s, q, xx, m⟩ := r
  refine ⟨.inr (.inl ⟨rfl, by rw [hK]; exact f.ob⟩), ?_⟩
  refine canE_mk R s xx m fun v h1 m1 ι1 H1 u R1 X1 s1 x1 r1 => ?_
  cases v with
  | str z =>
    have m1 : (match ss.findIdx? fun t => decide (t = z) with
      | some n => Qm (.int n) h1
      | none => False) := m1
    cases hz : ss.findIdx? (fun t => decide (t = z)) with
    | none => rw [hz] at m1; exact m1.elim
    | some n =>
      rw [hz] at m1
      obtain ⟨a1, a2⟩ := find_first_is hz
      cases r1.str_
      refine ⟨_, ss.map st, st z, n, rfl, rfl, ?_, a1, a2, q _ _ m1 _ _ _ R1 X1 .int'⟩
      rw [List.map_map, hK]
      exact f.sq _
  | _ => exact m1.elim
end
end Mi
end TxMiniK

section TxMiniL
set_option Elab.async false
set_option linter.all false
set_option autoImplicit false
set_option maxRecDepth 100000
set_option maxHeartbeats 4000000
namespace Mi
open PySem PySem.Spec PyProof.Rows L2
/-! ### C.m(self, ..): a def of an own class called by the class's name -/
structure SupF (T : Tx) (mg : Str → Option Value) (c m : String) : Prop where
  at_ : mg (st c) = some (.ref (clA T.K c))
  rd : ClX.CRead T.K (clA T.K c) (.type "type")
  val : PySem.W.findCls T.K (.ref (clA T.K c)) (.type "type") (st m) = some (.val (.ref (He.ma T.K (clA T.K c) (st m))))
def supChk (c m : String) (K : PySem.W.Frag) : Bool := PySem.W.readsIn K (clA K c) (.type "type") && (He.eqO (PySem.W.specialIn K (.ref (clA K c)) "__getattribute__") (some (some (.builtin "type.__getattribute__"))) &&
  (match PySem.W.findCls K (.ref (clA K c)) (.type "type") (st m) with
  | some (.val u) => decide (u = .ref (He.ma K (clA K c) (st m)))
  | _ => false))
theorem supF_of {T : Tx} {mg : Str → Option Value} {c m : String} (h : supChk c m T.K = true) (g : mg (st c) = some (.ref (clA T.K c))) : SupF T mg c m := by
  unfold supChk at h
  obtain ⟨h1, h⟩ := He.ba h
  obtain ⟨h2, h3⟩ := He.ba h
  refine ⟨g, ⟨h1, He.eqO_ok h2⟩, ?_⟩
  split at h3
  · rename_i u e
    rw [e, of_decide_eq_true h3]
  · cases h3
section
variable {T : Tx} {X : Cx} {W : WX} {pos : Pos} {k j : Nat} {c m : String} {ps : List Str} {F : WF} {e : Expr} {es : List Expr} {as : WA}
theorem e_super {p apos : Pos} {pl : Sem Bool} (hK : X.K = T.K) (tk : Takes X W) (s : SupF T X.mg c m) (f : MtM T X.prog X.w X.mg X.base j c m ps F) (hj : j ≤ k) (hr : Room k X.A) (hg : Gl X (st c)) (ha : PA X (e :: es) (canA T W as)) (hdb : (st c == ("__debug__" : Str)) = false)
    (hst : starEach (e :: es) X.env = (false, eval e X.env) :: starEach es X.env := by rfl) (hpl : (backTo pos (starEach es X.env)).any (·.1) = false := by rfl)
    (ht : eval (.Call (.Attribute (.Name (st c) p) (st m) apos) (e :: es) [] pos) X.env = (do
      let ov ← eval (.Name (st c) p) X.env
      standAt apos.atName
      let (f, first) ← holding [ov] (getMethod ov (st m) pl)
      callWith pos f first (backTo pos (starEach (e :: es) X.env)) (backToKw pos (keywordEach [] X.env))) := by rfl) :
    PE X (.Call (.Attribute (.Name (st c) p) (st m) apos) (e :: es) [] pos) (canE T W (wCall F as)) := by
  obtain ⟨fd, g, b⟩ := f.ok
  have at_ := f.at_
  have s1 := s.at_
  have s2 := s.rd
  have s3 := s.val
  rw [← hK] at g b at_ s1 s2 s3
  refine ⟨fun pins st0 σ H Q I h => ?_⟩
  have h1 : canA T W as σ H (fun vs H1 => spM T F vs H1 Q (L2.WE W σ)) := by
    obtain ⟨ι, hh, σm, Qm, Em, R, sr, q, x, mm⟩ := h
    exact canA_mk R sr x mm fun ms h1 m1 ι1 H1 vs R1 X1 s1 x1 r1 => sp_of R1 r1 (q.ext R1 X1) x1 m1
  refine PySem.W.methodCall_KW (pl := pl) (ld_glob I hg s1 ?_ hdb) ht
  refine PySem.W.method_cls I.kIn s2.ga (ClX.getcval_ok (u := .ref (He.ma X.K (clA X.K c) (st m))) (v := .ref (He.ma X.K (clA X.K c) (st m))) I s2 ⟨s3, rfl⟩ fun st1 I1 => ?_)
  refine PySem.W.callWith_K (first := []) (h₀ := X.base) I.ok.mod.kin at_.kp (thn (ha.run pos pins st1 σ H _ I1 h1) fun us st2 ⟨vs, H2, I2, r, q2⟩ => ⟨I2.kIn, ?_⟩) hst hpl
  exact run_fnS (E := L2.WE W) (us := us) (vs := vs) g (hr.mono hj) b (passAt tk σ) I2 r q2
end
end Mi
end TxMiniL

section TxMiniM
set_option Elab.async false
set_option linter.all false
set_option autoImplicit false
set_option maxRecDepth 100000
set_option maxHeartbeats 4000000
namespace Mi
open PySem PySem.Spec PyProof.Rows L2
section
variable {T : Tx} {X : Cx} {W : WX} {pos : Pos} {a b e o : Expr} {ma mb me mo : WE}
/-! ### never reached -/
theorem e_bad : PE X e (canE T W wBad) := ⟨fun _ _ _ _ _ _ ⟨_, _, _, _, _, _, _, _, _, m⟩ => m.elim⟩
theorem s_bad {c : Stmt} : PS X c (canS T W sBad) := ⟨fun _ _ _ _ _ _ ⟨_, _, _, _, _, _, _, m⟩ => m.elim⟩
theorem ss_bad {c : List Stmt} : PSs X c (canS T W sBad) := ⟨fun _ _ _ _ _ _ ⟨_, _, _, _, _, _, _, m⟩ => m.elim⟩
/-! ### every k-th item -/
theorem RVs.filterMap_at {ι : IA} {H : Hp} {ms : List MV} {vs : List V} (r : RVs T.K ι H ms vs) : ∀ js : List Nat, RVs T.K ι H (js.filterMap fun j => ms[j]?) (js.filterMap fun j => vs[j]?)
  | [] => RVs.nil
  | j :: js => by
    have ih := RVs.filterMap_at r js
    cases e : ms[j]? with
    | none =>
      have e2 : vs[j]? = none := by
        rw [List.getElem?_eq_none_iff] at e ⊢
        rw [← r.length]; exact e
      rw [List.filterMap_cons_none e, List.filterMap_cons_none e2]; exact ih
    | some m =>
      obtain ⟨v, e2, rv⟩ := r.get e
      rw [List.filterMap_cons_some e, List.filterMap_cons_some e2]
      exact RVs.cons rv ih
theorem fm_congr {α β : Type} {f g : α → Option β} : ∀ (l : List α), (∀ a ∈ l, f a = g a) → l.filterMap f = l.filterMap g
  | [], _ => rfl
  | a :: l, h => by
    have ih := fm_congr l fun b hb => h b (List.mem_cons_of_mem _ hb)
    rw [List.filterMap_cons, List.filterMap_cons, h a List.mem_cons_self, ih]
theorem RVs.everyK {ι : IA} {H : Hp} {ms : List MV} {vs : List V} (r : RVs T.K ι H ms vs) (k : Nat) : RVs T.K ι H (Mi.everyK k ms) (Mi.everyK k vs) := by
  have h := r.filterMap_at ((List.range ((ms.length + k - 1) / k)).map fun j => k * j)
  rw [List.filterMap_map, List.filterMap_map] at h
  unfold Mi.everyK
  rw [← r.length]
  exact h
theorem pick_every (its : List Value) (i : Int) (k : Nat) (hi : 0 ≤ i) (hk : 0 < k) : slicePick its.toArray none (some i) (some (k : Int)) = (Mi.everyK k (its.take i.toNat)).toArray := by
  have hk0 : (k : Int) > 0 := by omega
  have hk1 : ¬ (k : Int) < 0 := by omega
  obtain ⟨n, rfl⟩ := Int.eq_ofNat_of_zero_le hi
  have bnd : sliceBounds none (some (n : Int)) (some (k : Int)) its.toArray.size = ((0 : Int), ((min n its.length : Nat) : Int), (k : Int)) := by
    simp only [sliceBounds, Option.getD_some, List.size_toArray]
    have h2 : ¬ ((n : Int) < 0) := by omega
    simp only [h2, if_false, hk0, if_true]
    congr 2
    omega
  unfold slicePick
  rw [bnd]
  have rg : sliceRange (0 : Int) ((min n its.length : Nat) : Int) (k : Int) = (List.range ((min n its.length + k - 1) / k)).map fun j => k * j := by
    unfold sliceRange
    simp only [hk0, if_true]
    have cnt : ((if (0 : Int) < ((min n its.length : Nat) : Int) then (((min n its.length : Nat) : Int) - 0 + (k : Int) - 1) / (k : Int) else 0) : Int).toNat = (min n its.length + k - 1) / k := by
      by_cases c : (0 : Int) < ((min n its.length : Nat) : Int)
      · rw [if_pos c]
        have : (((min n its.length : Nat) : Int) - 0 + (k : Int) - 1) = ((min n its.length + k - 1 : Nat) : Int) := by omega
        rw [this, ← Int.natCast_ediv, Int.toNat_natCast]
      · rw [if_neg c]
        have e0 : min n its.length = 0 := by omega
        rw [e0, Nat.div_eq_of_lt (by omega)]; rfl
    rw [cnt]
    apply List.map_congr_left
    intro j _
    have : (0 : Int) + (k : Int) * (j : Int) = ((k * j : Nat) : Int) := by push_cast; omega
    rw [this, Int.toNat_natCast]
  show ((sliceRange (0 : Int) ((min n its.length : Nat) : Int) (k : Int)).filterMap (its.toArray[·]?)).toArray = _
  rw [rg, List.filterMap_map]
  unfold Mi.everyK
  rw [Int.toNat_natCast, List.length_take]
  congr 1
  refine fm_congr _ fun j hj => ?_
  have hj := List.mem_range.mp hj
  show its.toArray[k * j]? = (its.take n)[k * j]?
  have lt : k * j < min n its.length := by
    have h1 : j + 1 ≤ (min n its.length + k - 1) / k := hj
    have h2 := (Nat.le_div_iff_mul_le hk).mp h1
    have h3 : (j + 1) * k = k * j + k := by rw [Nat.add_mul, Nat.one_mul, Nat.mul_comm]
    omega
  rw [List.getElem?_take_of_lt (by omega)]
  simp
theorem everyK_le {α : Type} (k : Nat) (xs : List α) : (Mi.everyK k xs).length ≤ xs.length := by
  unfold Mi.everyK
  refine Nat.le_trans (List.length_filterMap_le _ _) ?_
  rw [List.length_range]
  by_cases hk : k = 0
  · subst hk; rw [Nat.div_zero]; omega
  · by_cases h0 : xs.length = 0
    · rw [h0, Nat.div_eq_of_lt (by omega)]; omega
    · apply Nat.div_le_of_le_mul
      have : k + xs.length ≤ k * xs.length + 1 := by
        have h1 : 1 ≤ k := by omega
        have h2 : 1 ≤ xs.length := by omega
        have := Nat.mul_le_mul (Nat.sub_le_sub_right h1 1) h2
        obtain ⟨k', rfl⟩ : ∃ k', k = k' + 1 := ⟨k - 1, by omega⟩
        obtain ⟨n', e⟩ : ∃ n', xs.length = n' + 1 := ⟨xs.length - 1, by omega⟩
        rw [e, Nat.add_mul, Nat.mul_add]
        omega
      omega
theorem vals_filter_at {vs : List V} {us : List Value} (r : Vals vs us) : ∀ js : List Nat, Vals (js.filterMap fun j => vs[j]?) (js.filterMap fun j => us[j]?)
  | [] => .nil
  | j :: js => by
    have ih := vals_filter_at r js
    have hl := r.length
    cases e : vs[j]? with
    | none =>
      have e2 : us[j]? = none := by
        rw [List.getElem?_eq_none_iff] at e ⊢
        omega
      rw [List.filterMap_cons_none e, List.filterMap_cons_none e2]; exact ih
    | some m =>
      obtain ⟨v, e2, rv⟩ := r.get e
      rw [List.filterMap_cons_some e, List.filterMap_cons_some e2]
      exact .cons rv ih
theorem vals_every {vs : List V} {us : List Value} (r : Vals vs us) (k : Nat) : Vals (Mi.everyK k vs) (Mi.everyK k us) := by
  have h := vals_filter_at r ((List.range ((vs.length + k - 1) / k)).map fun j => k * j)
  rw [List.filterMap_map, List.filterMap_map] at h
  unfold Mi.everyK
  rw [← r.length]
  exact h
theorem e_ev {r k : Nat} {hi : Option Expr} {mh : WO} {kk : Nat} {p1 p2 : Pos} (hK : X.K = T.K) (ha : PE X a (canE T W ma)) (hh : PO X hi (canO T W mh)) (hk : 0 < k := by decide) :
    PE X (.Subscript a (.Slice none hi (some (.Constant (.int (k : Int)) kk p1)) p2) pos) (canE T W (wEv r k ma mh)) := by
  refine ⟨fun pins s σ H Q I c => ?_⟩
  obtain ⟨ι, h, σm, Qm, Em, R, sr, q, x, m⟩ := c
  have c1 : canE T W ma σ H fun u H1 => ∃ ι1 h1 mx, Rel T ι1 h1 H1 ∧ Ext ι H ι1 H1 ∧ RS T ι1 H1 σm σ ∧ PX T ι1 H1 Em (L2.WE W σ) ∧ RV T.K ι1 H1 mx u ∧ mh σm h1 (fun u h2 => evP r k Qm mx u h2) Em := canE_mk R sr x m fun v h1 m1 ι1 H1 u R1 X1 s1 x1 r1 => ⟨ι1, h1, v, R1, X1, s1, x1, r1, m1⟩
  refine Subscript_ (thn (ha.run pins s σ H _ I c1) fun v s1 ⟨u, H1, I1, rv, ι1, h1, mx, R1, X1, sr1, x1, r1, m1⟩ => ?_)
  refine wpAny_Slice (thn (po_none.run pins s1 σ H1 (fun o H2 => o = none ∧ H2 = H1) I1 ⟨rfl, rfl⟩) fun vl s2 ⟨l, H2, I2, pl, el, e2⟩ => ?_)
  subst el e2
  have c2 : canO T W mh σ H2 fun o H3 => ∃ ι3 h3, Rel T ι3 h3 H3 ∧ Ext ι1 H2 ι3 H3 ∧ evP r k Qm mx o h3 := ⟨ι1, h1, σm, _, Em, R1, sr1, fun o h3 m3 ι3 H3 R3 X3 => ⟨ι3, h3, R3, X3, m3⟩, x1, m1⟩
  refine thn (hh.run pins s2 σ H2 _ I2 c2) fun vu s3 ⟨o, H3, I3, pu, ι3, h3, R3, X3, m3⟩ => ?_
  have hst : PO X (some (.Constant (.int (k : Int)) kk p1)) (tPart (tC (.int (k : Int)))) := po_some pe_int
  refine thn (hst.run pins s3 σ H3 (fun o H4 => o = some (k : Int) ∧ H4 = H3) I3 ⟨k, rfl, rfl, rfl⟩) fun vs s4 ⟨oo, H4, I4, ps, eo, e4⟩ => ?_
  subst eo e4
  have I5 : Inv X pins σ H4 { s4 with heap := s4.heap.push { cls := .type "slice", data := .fields #[vl, vu, vs] } } := I4.kept (t' := s4.toks) fun b ob q => Heap.get?_push_of_some _ q
  have r3 := RV.ext R1 X3 _ _ r1
  have q3 := (q.ext R1 X1).ext R3 X3
  cases mx with
  | ref qq j =>
    unfold evP at m3
    dsimp only at m3
    split at m3
    · rename_i xs ea
      cases o with
      | none => exact m3.elim
      | some i =>
        obtain ⟨hi0, m4⟩ := m3
        obtain ⟨p, us, rfl, _, e1, e2⟩ := R3.lst_ r3 ea
        cases rv
        obtain ⟨its, rr, ht, hz⟩ := I5.list (SqL.of e1)
        have hlen := rr.length
        show wpAny (model X.prog X.w) X.A (subscriptTail a (.Slice none hi (some (.Constant (.int (k : Int)) kk p1)) p2) (.ref p) (.ref s4.heap.objs.size)) (EP X pins σ Q) X.xe { s4 with heap := s4.heap.push { cls := .type "slice", data := .fields #[vl, vu, vs] } }
        refine tail_any (ops := [.ref p, .ref s4.heap.objs.size]) ht.isList.typeIs (PySem.slot_list_getitem.lookup) ?_ (by with_unfolding_all rfl)
        refine wpAny_getItem_list_slice ht.isList (Heap.IsSliceOf.new _ vl vu vs) pl pu ps (by simp; omega) ?_ (by rw [List.size_toArray]; omega)
        rw [pick_every its i k hi0 hk]
        have re := ((e2.take i.toNat).everyK k)
        refine ⟨.ref _, _, I5.laid (t' := s4.toks) (o := .lst (Mi.everyK k (us.take i.toNat))) (fun b ob q => Heap.get?_push_of_some _ q) (Nat.le_refl _) ?_, rfl, q3.lst R3 m4 (I5.hok.fresh (Nat.le_refl _)) re⟩
        refine ⟨?_, _, 0, vals_every (rr.take i.toNat) k, Heap.get?_push_size _ rfl⟩
        refine Nat.le_trans (everyK_le k _) ?_
        rw [List.length_take]
        omega
    · exact m3.elim
  | _ => exact m3.elim
theorem part_int {v : Value} {i : Int} (h : IsPart v (some i)) : L2.RelV (.int i) v := by
  cases h with
  | int _ t => exact ⟨t, rfl⟩
theorem rvs_ints {K : PySem.W.Frag} {ι : IA} {H : Hp} : ∀ ns : List Int, RVs K ι H (ns.map .int) (ns.map V.int)
  | [] => RVs.nil
  | n :: ns => RVs.cons .int' (rvs_ints ns)
theorem rvs_erase {K : PySem.W.Frag} {ι : IA} {H : Hp} : ∀ {ms : List MV} {vs : List V} (r : RVs K ι H ms vs) (n : Nat), RVs K ι H (ms.eraseIdx n) (vs.eraseIdx n)
  | [], _, r, n => by unfold RVs at r; subst r; exact RVs.nil
  | m :: ms, _, r, 0 => by
    unfold RVs at r
    obtain ⟨v, us, rfl, r1, r2⟩ := r
    exact r2
  | m :: ms, _, r, n + 1 => by
    unfold RVs at r
    obtain ⟨v, us, rfl, r1, r2⟩ := r
    exact RVs.cons r1 (rvs_erase r2 n)
theorem seq_ix {n k : Nat} {i : Int} (h : Mi.ixN n i = some k) : seqIndex? i n = some k := by
  rw [← h]
  unfold seqIndex?
  unfold Mi.ixN at h ⊢
  by_cases c : 0 ≤ i
  · have c2 : ¬ i < 0 := by omega
    simp only [c, c2, if_true, if_false] at h ⊢
    by_cases d : i < n <;> simp [d]
  · have c2 : i < 0 := by omega
    simp only [c, c2, if_true, if_false] at h ⊢
    by_cases d : -(n : Int) ≤ i
    · have d1 : 0 ≤ i + n := by omega
      have d2 : i + n < n := by omega
      simp [d, d1, d2]
    · have d1 : ¬ 0 ≤ i + n := by omega
      simp [d, d1]
/-! ### a slice stored -/
theorem g_sl {lo hi : Option Expr} {ml mh : WO} {p2 : Pos} (ho : PE X o (canE T W mo)) (hl : PO X lo (canO T W ml)) (hh : PO X hi (canO T W mh))
    (hA : ∀ v, assign (.Subscript o (.Slice lo hi none p2) pos) X.env v = (do
      let ov ← holding [v] (eval o X.env)
      let iv ← holding [v, ov] (eval (.Slice lo hi none p2) X.env)
      standAt pos
      holding [v, ov, iv] (setItem ov iv v)
      release [v, ov, iv] []) := by intro _; rfl) : PG X (.Subscript o (.Slice lo hi none p2) pos) (canG T W (gSl mo ml mh)) := by
  refine ⟨fun pins s σ H v u Q I rv c => ?_⟩
  obtain ⟨ι, h, σm, mv, Qm, Em, R, sr, r0, q, x, m⟩ := c
  rw [hA]
  have c1 : canE T W mo σ H fun ov H1 => ∃ ι1 h1 mx, Rel T ι1 h1 H1 ∧ Ext ι H ι1 H1 ∧ RS T ι1 H1 σm σ ∧ PX T ι1 H1 Em (L2.WE W σ) ∧ RV T.K ι1 H1 mx ov ∧ ml σm h1 (fun a h2 => mh σm h2 (fun b h3 => slP (Qm σm) mx mv a b h3) Em) Em := canE_mk R sr x m fun v h1 m1 ι1 H1 u R1 X1 s1 x1 r1 => ⟨ι1, h1, v, R1, X1, s1, x1, r1, m1⟩
  refine wpAny_bind (wpAny_holding (thn (ho.run pins s σ H _ I c1) fun ov s1 ⟨uo, H1, I1, ro, ι1, h1, mx, R1, X1, sr1, x1, r1, m1⟩ => ?_))
  have c2 : canO T W ml σ H1 fun a H2 => ∃ ι2 h2, Rel T ι2 h2 H2 ∧ Ext ι1 H1 ι2 H2 ∧ mh σm h2 (fun b h3 => slP (Qm σm) mx mv a b h3) Em := ⟨ι1, h1, σm, _, Em, R1, sr1, fun a h2 m2 ι2 H2 R2 X2 => ⟨ι2, h2, R2, X2, m2⟩, x1, m1⟩
  refine wpAny_bind (wpAny_holding (wpAny_Slice (thn (hl.run pins s1 σ H1 _ I1 c2) fun vl s2 ⟨a, H2, I2, pl, ι2, h2, R2, X2, m2⟩ => ?_)))
  have c3 : canO T W mh σ H2 fun b H3 => ∃ ι3 h3, Rel T ι3 h3 H3 ∧ Ext ι2 H2 ι3 H3 ∧ slP (Qm σm) mx mv a b h3 := ⟨ι2, h2, σm, _, Em, R2, sr1.ext R1 X2, fun a h2 m2 ι2 H2 R2 X2 => ⟨ι2, h2, R2, X2, m2⟩, x1.ext R2 X2, m2⟩
  refine thn (hh.run pins s2 σ H2 _ I2 c3) fun vu s3 ⟨b, H3, I3, pu, ι3, h3, R3, X3, m3⟩ => ?_
  refine thn (po_none.run pins s3 σ H3 (fun o H4 => o = none ∧ H4 = H3) I3 ⟨rfl, rfl⟩) fun vs s4 ⟨oo, H4, I4, ps, eo, e4⟩ => ?_
  subst eo e4
  have I5 : Inv X pins σ H4 { s4 with heap := s4.heap.push { cls := .type "slice", data := .fields #[vl, vu, vs] } } := I4.kept (t' := s4.toks) fun b ob q => Heap.get?_push_of_some _ q
  have r3 := RV.ext R2 X3 _ _ (RV.ext R1 X2 _ _ r1)
  have rv3 := RV.ext R2 X3 _ _ (RV.ext R1 X2 _ _ (RV.ext R X1 _ _ r0))
  have X03 := Ext.trans R2 (Ext.trans R1 X1 X2) X3
  cases ps
  unfold slP at m3
  split at m3
  · rename_i r i qq j
    split at m3
    · rename_i xs ys ea eb
      cases a with
      | none => exact m3.elim
      | some a =>
        cases b with
        | none => exact m3.elim
        | some b =>
          obtain ⟨ne, a0, ab, bl, hz, m4⟩ := m3
          obtain ⟨p, us, rfl, e0, e1, e2⟩ := R3.lst_ r3 ea
          obtain ⟨p2, ws, rfl, f0, f1, f2⟩ := R3.lst_ rv3 eb
          cases ro
          cases rv
          have hne : p ≠ p2 := fun z => by
            subst z
            obtain ⟨z1, z2⟩ := R3.inj _ _ _ _ _ e0 f0
            rcases ne with n | n
            · exact n z1
            · exact n z2
          refine wpAny_bind (wpAny_standAt (wpAny_bind (wpAny_holding (set_slice I5 e1 f1 hne (Heap.IsSliceOf.new _ vl vu .none) (part_int pl) (part_int pu) a0 ab (by rw [← e2.length]; exact bl) (by rw [← e2.length, ← f2.length]; exact le_line hz) fun s5 I6 => ?_))))
          obtain ⟨R6, X6⟩ := wr_lst (r := _) R3 e0 (((e2.take a.toNat).append f2).append (e2.drop b.toNat))
          exact wpAny_release ⟨σ, _, I6, q σm _ m4 _ _ _ R6 (Ext.trans R3 X03 X6) ((sr.ext R X03).ext R3 X6)⟩
    · exact m3.elim
  · exact m3.elim
/-! ### dicts displayed -/
structure DP (T : Tx) (X : Cx) (W : WX) (pos : Pos) (keys : List (Option Expr)) (vals : List Expr) (ks : List String) (as : WA) : Prop where
  ok : ∃ trs, PPs X pos keys vals trs ∧ ∀ σ H (Q : List (V × V) → Hp → Prop), canA T W as σ H (fun vs H1 => vs.length = ks.length → Q ((ks.map fun k => V.str (st k)).zip vs) H1) → tPairs trs σ H Q
theorem d_nil : DP T X W pos [] [] [] aNil := ⟨[], pps_nil, fun σ H Q ⟨ι, h, σm, Qm, Em, R, s, q, x, m⟩ => q [] h m ι H [] R Ext.refl RVs.nil rfl⟩
theorem d_cons {k : String} {j : Nat} {p : Pos} {v : Expr} {mv : WE} {keys : List (Option Expr)} {vals : List Expr} {ks : List String} {as : WA} (hv : PE X v (canE T W mv)) (hr : DP T X W pos keys vals ks as) :
    DP T X W pos (some (.Constant (.str (st k)) j p) :: keys) (v :: vals) (k :: ks) (aCons mv as) := by
  obtain ⟨trs, h1, h2⟩ := hr
  refine ⟨_, pps_cons pe_str hv h1, fun σ H Q c => ?_⟩
  obtain ⟨ι, h, σm, Qm, Em, R, s, q, x, m⟩ := c
  refine canE_mk R s x m fun u h1 m1 ι1 H1 w R1 X1 s1 x1 r1 => ?_
  refine h2 σ H1 _ (canA_mk R1 s1 x1 m1 fun ms h2 m2 ι2 H2 vs R2 X2 s2 x2 r2 hl => ?_)
  exact q _ _ m2 _ _ _ R2 (Ext.trans R1 X1 X2) (RVs.cons (RV.ext R1 X2 _ _ r1) r2) (by rw [List.length_cons, List.length_cons, hl])
theorem Rel.offD {ι : IA} {h : MH} {H H' : Hp} (R : Rel T ι h H) {D : Addr} {kvs : List (Key × V)} (hd : H D = some (.dK kvs)) (nd : ∀ (r i : Nat), (ι r)[i]? ≠ some D) (e : ∀ b, b ≠ D → H' b = H b) : Rel T ι h H' ∧ Keeps H H' := by
  have k : Keeps H H' := fun p u hu hp => by
    rw [e]
    · exact hp
    · intro z
      subst z
      rw [hd] at hp
      rcases hu with ⟨_, rfl⟩ | ⟨_, _, rfl⟩ <;> cases hp
  refine ⟨⟨R.len, fun r i o p e1 e2 => (R.obj r i o p e1 e2).keep k (e p fun z => ?_), R.inj⟩, k⟩
  subst z
  exact nd r i e2
theorem merge_app : ∀ (more acc : List (Key × V)), (more.map (·.1)).Nodup → (∀ k ∈ more.map (·.1), k ∉ acc.map (·.1)) → mergeK acc more = acc ++ more
  | [], acc, _, _ => by simp [mergeK]
  | kv :: more, acc, nd, na => by
    rw [List.map_cons, List.nodup_cons] at nd
    have e : putK acc kv.1 kv.2 = acc ++ [kv] := by
      unfold putK
      rw [if_neg]
      intro z
      obtain ⟨y, hy, e⟩ := List.any_eq_true.mp z
      have := na kv.1 (by simp)
      exact this (List.mem_map.mpr ⟨y, hy, of_decide_eq_true e⟩)
    have ih := merge_app more (acc ++ [kv]) nd.2 fun k hk z => by
      rw [List.map_append, List.mem_append] at z
      rcases z with z | z
      · exact na k (by simp at hk ⊢; exact Or.inr hk) z
      · simp at z; subst z; exact nd.1 hk
    unfold mergeK at ih ⊢
    rw [List.foldl_cons, e, ih, List.append_assoc]
    rfl
theorem kvr_zip {ι : IA} {H : Hp} : ∀ {ks : List String} {ms : List MV} {vs : List V}, RVs T.K ι H ms vs → KVR T ι H ((ks.map MV.str).zip ms) ((ks.map fun k => (Sum.inr (st k) : Key)).zip vs)
  | [], _, _, _ => .nil
  | k :: ks, [], vs, r => by
    unfold RVs at r
    subst r
    exact .nil
  | k :: ks, m :: ms, vs, r => by
    unfold RVs at r
    obtain ⟨v, us, rfl, r1, r2⟩ := r
    exact .cons ⟨.str k, r1⟩ (kvr_zip r2)
theorem zip_keys : ∀ {α β : Type} (ks : List α) (vs : List β), vs.length = ks.length → (ks.zip vs).map (·.1) = ks
  | _, _, [], _, _ => rfl
  | _, _, k :: ks, [], h => by simp at h
  | _, _, k :: ks, v :: vs, h => by simp [zip_keys ks vs (by simpa using h)]
theorem zip_kv : ∀ (ks : List String) (vs : List V), (ks.map fun k => V.str (st k)).zip vs = ((ks.map fun k => (Sum.inr (st k) : Key)).zip vs).map fun kv => (kV kv.1, kv.2)
  | [], _ => rfl
  | _ :: _, [] => rfl
  | k :: ks, v :: vs => by
    simp only [List.map_cons, List.zip_cons_cons]
    rw [zip_kv ks vs]; rfl
theorem nodup_st : ∀ {ks : List String}, ks.Nodup → (ks.map fun k => (Sum.inr (st k) : Key)).Nodup
  | [], _ => List.nodup_nil
  | k :: ks, h => by
    rw [List.nodup_cons] at h
    rw [List.map_cons, List.nodup_cons]
    refine ⟨fun z => ?_, nodup_st h.2⟩
    obtain ⟨k', hk, e⟩ := List.mem_map.mp z
    exact h.1 (st_inj (Sum.inr.inj e) ▸ hk)
theorem e_dic {r : Nat} {keys : List (Option Expr)} {vals : List Expr} {ks : List String} {as : WA} (d : DP T X W pos keys vals ks as) (nd : ks.Nodup := by decide) (hl15 : ks.length ≤ 15 := by decide) (hall : keys.all (·.isSome) = true := by rfl)
    (hl : keys.length = vals.length := by rfl) (h0 : keys ≠ [] := by (intro z; cases z)) (h15 : keys.length ≤ 15 := by decide) : PE X (.Dict keys vals pos) (canE T W (wDic r ks as)) := by
  obtain ⟨trs, hp, ht⟩ := d
  refine PE.le (pe_disp hp hall hl h0 h15) fun σ H Q ⟨ι, h, σm, Qm, Em, R, s, q, x, m⟩ p hpn => ?_
  obtain ⟨R1, X1⟩ := aside (O := .dK []) R hpn
  refine ht σ _ _ (canA_mk R1 (s.ext R X1) (x.ext R1 X1) m fun ms h2 m2 ι2 H2 vs R2 X2 s2 x2 r2 hlen => ?_)
  have n1 := R.fresh hpn
  have d2 : H2 p = some (.dK []) := X2.oth p _ upd_same n1
  have n2 : ∀ (r i : Nat), (ι2 r)[i]? ≠ some p := fun r' i' z => by
    obtain ⟨more, e1, e2⟩ := X2.pre r'
    rw [e1] at z
    rcases List.mem_append.mp (List.mem_of_getElem? z) with z | z
    · obtain ⟨j, hj⟩ := List.mem_iff_getElem?.mp z
      exact n1 r' j hj
    · have := e2 p z
      rw [upd_same] at this; cases this
  refine ⟨d2, (ks.map fun k => (Sum.inr (st k) : Key)).zip vs, ?_, by rw [List.length_zip, List.length_map]; omega, ?_⟩
  · exact zip_kv ks vs
  · have hmm : mergeK [] ((ks.map fun k => (Sum.inr (st k) : Key)).zip vs) = (ks.map fun k => (Sum.inr (st k) : Key)).zip vs := by
      rw [merge_app _ [] ?_ (fun _ _ z => nomatch z)]
      · rfl
      · rw [zip_keys _ _ (by rw [List.length_map]; exact hlen)]
        exact nodup_st nd
    rw [hmm]
    let H0 : Hp := fun b => if b = p then none else H2 b
    have e0 : H0 p = none := if_pos rfl
    obtain ⟨R5, k5⟩ := R2.offD (H' := H0) d2 n2 fun b hb => if_neg hb
    have eu : ∀ O : HO, upd H0 p O = upd H2 p O := fun O => by
      funext b
      unfold upd
      by_cases c : b = p
      · rw [if_pos c, if_pos c]
      · rw [if_neg c, if_neg c]; exact if_neg c
    have kz := kvr_zip (ks := ks) (RVs.keep k5 _ _ r2)
    obtain ⟨R6, X6, r6⟩ := new_at (r := r) (O := .dK ((ks.map fun k => (Sum.inr (st k) : Key)).zip vs)) (o := .dic ((ks.map MV.str).zip ms)) R5 e0 fun X => ⟨_, upd_same, KVR.ext R5 X kz⟩
    rw [eu] at R6 X6 r6
    refine q _ _ m2 _ _ _ R6 ⟨fun r' => ?_, fun a o e n => ?_⟩ r6
    · obtain ⟨m1', a1, a2⟩ := X2.pre r'
      have a2 : ∀ b ∈ m1', H b = none := fun b hb => by
        have := a2 b hb
        by_cases c : b = p
        · rw [c]; exact hpn
        · rw [upd_ne c] at this; exact this
      by_cases c : r' = r
      · subst c
        refine ⟨m1' ++ [p], by rw [ia_same, a1, List.append_assoc], fun b hb => ?_⟩
        rcases List.mem_append.mp hb with z | z
        · exact a2 b z
        · rw [List.mem_singleton.mp z]; exact hpn
      · exact ⟨m1', by rw [ia_ne _ _ c, a1], a2⟩
    · have ne := ne_of_none e hpn
      rw [upd_ne ne]
      exact X2.oth a o (by rw [upd_ne ne]; exact e) n
theorem e_dic0 {r : Nat} : PE X (.Dict [] [] pos) (canE T W (wDic r [] aNil)) := PE.le pe_dnewK fun σ H Q ⟨ι, h, σm, Qm, Em, R, s, q, x, m⟩ p hp => by
  obtain ⟨R6, X6, r6⟩ := new_at (r := r) (O := .dK []) (o := .dic []) R hp fun X => ⟨_, upd_same, .nil⟩
  exact q _ _ m _ _ _ R6 X6 r6
/-! ### sorted, list(range(..)), pop(i), insert -/
theorem b_sorted {r : Nat} (hK : X.K = T.K) : CallR X (.builtin "sorted") (canB T (bSorted r)) := by
  intro pins s σ H xs us Q I ru c
  obtain ⟨ι, h, ms, Qm, R, rv, q, m⟩ := c
  unfold bSorted at m
  split at m
  rotate_left
  · exact m.elim
  · obtain ⟨v, rfl, r1⟩ := rv.one_
    split at m
    · rename_i ns eb
      obtain ⟨ys, e1, e2⟩ := Option.bind_eq_some_iff.mp eb
      obtain ⟨p, vs, rfl, e3, e4⟩ := lstOf_ok R r1 e1
      rw [allI_ok e4 e2] at e3
      refine cr_sortedI pins s σ H _ us Q I ru ⟨p, ns, rfl, by rw [hK]; exact e3, fun ns' p' hp hs hn => q.lst R (m ns' hp hs) hn ?_⟩
      exact rvs_ints ns'
    · exact m.elim
theorem e_lrng {r : Nat} {p p2 pos2 : Pos} (hc : X.calm = true) (hgr : Gl X "range") (hmr : X.mg "range" = none) (hg : Gl X "list") (hm : X.mg "list" = none) (ha : PE X a (canE T W ma)) (na : starEach [a] X.env = (false, eval a X.env) :: starEach [] X.env := by rfl)
    (na2 : starEach [.Call (.Name "range" p) [a] [] pos2] X.env = (false, eval (.Call (.Name "range" p) [a] [] pos2) X.env) :: starEach [] X.env := by rfl) :
    PE X (.Call (.Name "list" p2) [.Call (.Name "range" p) [a] [] pos2] [] pos) (canE T W (wLRng r ma)) :=
  PE.le (pe_listRg hc hg hm (prg_1 hgr hmr ha na) na2) fun σ H Q ⟨ι, h, σm, Qm, Em, R, s, q, x, m⟩ => by
    refine canE_mk R s x m fun v h1 m1 ι1 H1 u R1 X1 s1 x1 r1 => ?_
    cases v with
    | int n =>
      obtain ⟨n0, n1, m2⟩ := m1
      have hlim : (lim : Int) = 1000000 := rfl
      refine ⟨n, r1.int_, ⟨by omega, by omega, by omega, by omega, by omega⟩, fun p hp => ?_⟩
      refine (q.ext R1 X1).lst R1 m2 hp ?_
      have e1 : rgV 0 n = ((List.range n.toNat).map fun (k : Nat) => ((0 : Int) + k)).map V.int := by
        unfold rgV
        rw [List.map_map, Int.sub_zero]; rfl
      have e2 : rng 0 n.toNat = ((List.range n.toNat).map fun (k : Nat) => ((0 : Int) + k)).map MV.int := by
        unfold rng
        rw [List.map_map]; rfl
      rw [e1, e2]
      exact rvs_ints _
    | _ => exact m1.elim
theorem m_popAt : MtR X "list.pop" (canM T mPopAt) := by
  intro pins s σ H x xs v us Q I rx rv c
  obtain ⟨ι, h, mx, ms, Qm, R, r1, rs, q, m⟩ := c
  unfold mPopAt at m
  split at m
  rotate_left
  · exact m.elim
  · obtain ⟨u, rfl, r2⟩ := rs.one_
    split at m
    · rename_i ys ea
      obtain ⟨hs, m⟩ := m
      obtain ⟨p, vs, rfl, e0, e1, e2⟩ := R.lst_ r1 ea
      split at m
      · rename_i n y en ey
        cases r2.int_
        have ey2 : ys[n]? = some y := by
          unfold Mi.atI at ey
          rw [en] at ey
          exact ey
        obtain ⟨w, ew, rw_⟩ := e2.get ey2
        obtain ⟨R2, X2⟩ := wr_lst (r := _) R e0 (rvs_erase e2 n)
        exact mt_popAt pins s σ H _ _ v us Q I rx rv ⟨p, vs, _, n, w, rfl, rfl, e1, by unfold small at hs; omega, by unfold small at hs; omega, by rw [← e2.length]; exact seq_ix en, ew, q _ _ m _ _ _ R2 X2 (RV.ext R X2 _ _ rw_)⟩
      · exact m.elim
    · exact m.elim
theorem m_insert : MtR X "list.insert" (canM T mInsert) := by
  intro pins s σ H x xs v us Q I rx rv c
  obtain ⟨ι, h, mx, ms, Qm, R, r1, rs, q, m⟩ := c
  unfold mInsert at m
  split at m
  rotate_left
  · exact m.elim
  · obtain ⟨u, w, rfl, r2, r3⟩ := rs.two_
    split at m
    · rename_i ys ea
      obtain ⟨hl, j0, hs, m⟩ := m
      obtain ⟨p, vs, rfl, e0, e1, e2⟩ := R.lst_ r1 ea
      cases r2.int_
      exact mt_insert pins s σ H _ _ v us Q I rx rv ⟨p, vs, _, w, rfl, rfl, e1, by rw [← e2.length]; exact lt_line hl, j0, by unfold small at hs; omega, q.wr R e0 (((e2.take _).append (RVs.one r3)).append (e2.drop _)) m⟩
    · exact m.elim
/-! ### except (A, B): -/
theorem fly_on {B h h' : Heap} {l : List Env} {a : Addr} {Z : Obj → Prop} (f : HandSPX.FlyingZ B l a Z h) (k : ∀ q o, h.get? q = some o → h'.get? q = some o) : HandSPX.FlyingZ B l a Z h' := by
  obtain ⟨f1, f2, f3, oe, us, t, ot, ts, z1, z2, z3, z4, z5, z6, z7, z8, z9⟩ := f
  exact ⟨fun q o z => k q o (f1 q o z), f2, f3.of_keeps fun q o z _ => ⟨o, k q o z, rfl⟩, oe, us, t, ot, ts, k _ _ z1, z2, z3, z4, z5, z6, k _ _ z7, z8, z9⟩
def wTwo (K : PySem.W.Frag) (c1 c2 : Value) (ts : Addr → Value → Option Addr → TS) (Wo : WX) (D : Ends) : WX := fun cls d σ H =>
  ∃ b, PySem.W.exmAny K cls [c1, c2] = some b ∧ (b = true → ∀ a, H a = none → ts a cls d D σ H) ∧ (b = false → Wo cls d σ H)
theorem ps_two {x1 x2 : Str} {c1 c2 : Value} {body suite : List Stmt} {b0 : Stmt} {p1 p2 tp pos' : Pos} {kk : Nat} {tb : WX → TS} {ts : Addr → Value → Option Addr → TS} {Wo : WX} (hs : X.stack = X.env :: X.outer) (hf : X.env.frame = some X.env.locals) (n1 : Names X x1 c1) (n2 : Names X x2 c2) (tk : Takes X Wo)
    (hb : ∀ (W : WX) (pn : List (Addr × Obj)) (xe : Value → Shared → Prop), Takes (X.tr pn xe) W → PassesOwn (model X.prog X.w) X.A X.env xe → PSs (X.tr pn xe) body (tb W))
    (hsu : ∀ (a : Addr) (oe : Obj) (cls : Value) (d : Option Addr) (pn : List (Addr × Obj)), Zc cls d oe → (∃ vs, oe.data = .fields vs) → PSs (X.suite a ((a, oe) :: pn)) (b0 :: suite) (ts a cls d)) :
    PS X (.Try body [.ExceptHandler (some (.Tuple [.Name x1 p1, .Name x2 p2] kk tp)) none (b0 :: suite) pos'] [] [] pos) (fun D σ H => tb (wTwo X.K c1 c2 ts Wo D) D σ H) := by
  constructor
  intro pins s σ H D I h
  have ok := I.ok
  have hA : X.A.frames = some (X.env :: X.outer) := by rw [ok.frames, hs]
  apply wpAny_Try_except
  let cl : List ExceptHandler := [.ExceptHandler (some (.Tuple [.Name x1 p1, .Name x2 p2] kk tp)) none (b0 :: suite) pos']
  refine wpAny_mono ((hb (wTwo X.K c1 c2 ts Wo D) (X.pn ++ pins) (fun e s1 => wpAny (model X.prog X.w) X.A (noteFrame e X.env) (fun _ s2 => wpAny (model X.prog X.w) X.A (setFlight e none)
    (fun _ s3 => wpAny (model X.prog X.w) X.A (handleBy e X.env cl) (SP X pins D) X.xe s3) X.xe s2) X.xe s1) (fun u s' y => ?_) PassesOwn.looking).run [] s σ H D (I.toTry _) h) (fun f s1 q => ?_) fun _ _ z => z
  · obtain ⟨a, B, sI, pins', σ1, H1, cls, d, rfl, J0, nb, up, sky, na, os, ag, b, hb1, yes, no⟩ := y
    have J : Inv X pins σ1 H1 sI := J0.ofTry ok
    have sky1 : Sky B (X.env :: X.outer) a (Zc cls d) X.env.locals s'.heap := by rw [← hs]; exact sky
    show wpAny (model X.prog X.w) X.A (noteFrame (.ref a) X.env) _ _ _
    refine Sky.land Zc.steady hA hf sky1 fun h3 fl3 up3 => ?_
    have J3 : Inv X pins σ1 H1 { s' with heap := h3 } := J.landed nb fl3.1 (up.trans up3) os ag
    have away : ∀ {h : Heap}, HandSPX.FlyingZ B (X.env :: X.outer) a (Zc cls d) h → ∀ {o : Obj} {vs : Array Value}, h.get? a = some o → o.data = .fields vs → a ≠ X.env.locals ∧ a ∉ X.fs := fun {h} fl {o vs} e dd => by
      have nfr : a ∉ frs (X.env :: X.outer) := fun hm => by
        obtain ⟨_, o2, e2, hn⟩ := fl.2.2.1.mem hm
        rw [e] at e2; cases e2
        exact hn _ dd
      refine ⟨fun z => nfr (List.mem_filterMap.mpr ⟨X.env, List.mem_cons_self, by rw [hf, z]⟩), fun hm => ?_⟩
      obtain ⟨g, hg, q⟩ := List.mem_filterMap.mp hm
      exact nfr (List.mem_filterMap.mpr ⟨g, List.mem_cons_of_mem _ hg, q⟩)
    obtain ⟨oe3, vs3, he3, hz3, hd3⟩ := fl3.there
    obtain ⟨nL, nF⟩ := away fl3 he3 hd3
    have S3 := J3.suite he3 hd3 na nL nF
    refine wpAny_handleBy_cons (codeAny_handlers_test ?_) (by intro q; cases q)
    have nm : ∀ {x : Str} {c : Value} {p : Pos} (n : Names X x c) {Q : Value → Shared → Prop} {E : Value → Shared → Prop}, Q c { s' with heap := h3 } → wpAny (model X.prog X.w) (X.A.mark (some (.ref a))) (eval (.Name x p) X.env) Q E { s' with heap := h3 } := fun {x c p} n {Q E} q => by
      obtain ⟨hg, hdbg, hm | ⟨hm, hv, hnn⟩⟩ := n
      · exact ld_glob (X := X.suite a ((a, oe3) :: (X.pn ++ pins))) S3 hg hm q hdbg
      · exact ld_blt (X := X.suite a ((a, oe3) :: (X.pn ++ pins))) S3 hg hm hv q hnn hdbg
    refine wpAny_Tuple (wpAny_items_cons (nm n1 (wpAny_items_cons (nm n2 (wpAny_items_nil ⟨by size_fits, ?_⟩)))))
    have kp : ∀ q o, h3.get? q = some o → (h3.push { cls := .type "tuple", data := .seq [c1, c2].toArray }).get? q = some o := fun _ _ z => Heap.get?_push_of_some _ z
    have fl5 := fly_on fl3 kp
    have up5 := up3.trans (Heap.UpToSlots.of_keeps kp)
    have J5 : Inv X pins σ1 H1 { s' with heap := h3.push { cls := .type "tuple", data := .seq [c1, c2].toArray } } := J.landed nb fl5.1 (up.trans up5) os ag
    obtain ⟨oe5, vs5, he5, hz5, hd5⟩ := fl5.there
    have LT : PySem.W.Looks (model X.prog X.w) (h3.push { cls := .type "tuple", data := .seq [c1, c2].toArray }) (typeOf (.ref a)) cls := fun A Q E s k q => wpAny_typeOf_ref (k _ _ he5) (by rw [hz5.1]; exact q)
    refine (PySem.W.exm_tup2 (M := model X.prog X.w) J5.kIn LT (Heap.get?_push_size h3 rfl) hb1).here ?_
    cases b with
    | true =>
      refine codeAny_handlers_suite (HandSPX.lands_againZ fl5 fun h4 fl4 up4 => ?_)
      have J4 : Inv X pins σ1 H1 { s' with heap := h4 } := J.landed nb fl4.1 ((up.trans up5).trans up4) os ag
      obtain ⟨oe4, vs4, he4, hz4, hd4⟩ := fl4.there
      obtain ⟨mL, mF⟩ := away fl4 he4 hd4
      have S4 := J4.suite he4 hd4 na mL mF
      refine wpAny_mono ((hsu a oe4 cls d (X.pn ++ pins) hz4 ⟨_, hd4⟩).run [] _ _ H1 _ S4 (yes rfl a na)) (fun f s6 q => ?_) fun _ _ z => z.elim
      cases f with
      | ret u => obtain ⟨v6, σ6, H6, S6, r6, q6⟩ := q; exact ⟨_, _, _, S6.unsuite ok, r6, q6⟩
      | _ => obtain ⟨σ6, H6, S6, q6⟩ := q; exact ⟨_, _, S6.unsuite ok, q6⟩
    | false =>
      show wpAny _ X.A (handleBy (.ref a) X.env []) _ _ _
      refine wpAny_handleBy_nil ?_
      obtain ⟨_, _, _, oe, vs, t, ot, us, he, hz, hd, h1, _⟩ := id fl5
      unfold PySem.passOn
      refine wpAny_bind (wpAny_field he hd h1 ?_)
      rw [if_neg (show ¬ ((Value.ref t == Value.none) = true) by simp)]
      have fin : wpAny (model X.prog X.w) X.A (setFlight (.ref a) X.env.frame) (fun _ s4 => wpAny (model X.prog X.w) X.A (throw (.ref a) : Sem Flow) (SP X pins D) X.xe s4) X.xe { s' with heap := h3.push { cls := .type "tuple", data := .seq [c1, c2].toArray } } := by
        rw [hf]
        refine HandSPX.setFlight_upZ fl5 fun h4 hh4 up4 => wpAny_throw (tk _ _ ?_)
        exact ⟨a, B, sI, pins, σ1, H1, cls, d, rfl, J, nb, (up.trans up5).trans up4, .inr (.inr (by rw [hs]; exact hh4)), na, os, ag, no rfl⟩
      first
        | exact wpAny_bind fin
        | exact wpAny_bind (wpAny_pure (wpAny_bind fin))
  · cases f with
    | next => obtain ⟨σ1, H1, J, z⟩ := q; exact wpAny_execs_nil ⟨σ1, H1, J.ofTry ok, z⟩
    | ret u => obtain ⟨v, σ1, H1, J, r, z⟩ := q; exact ⟨v, σ1, H1, J.ofTry ok, r, z⟩
    | _ => obtain ⟨σ1, H1, J, z⟩ := q; exact ⟨σ1, H1, J.ofTry ok, z⟩
variable {body suite : List Stmt} {b0 : Stmt} {pos' : Pos} {b : WS} {su : String → Nat → WS} {e1 e2 : String}
theorem s_try2 {p1 p2 tp : Pos} {kk : Nat} (hs : X.stack = X.env :: X.outer) (hf : X.env.frame = some X.env.locals) (hK : X.K = T.K) (n1 : Names X (st e1) (.ref (clA T.K e1))) (n2 : Names X (st e2) (.ref (clA T.K e2))) (tk : Takes X W)
    (hx1 : ∀ c ∈ T.Er, PySem.W.exmOne T.K (.ref (clA T.K c)) (.ref (clA T.K e1)) = some (isSub c e1)) (hx2 : ∀ c ∈ T.Er, PySem.W.exmOne T.K (.ref (clA T.K c)) (.ref (clA T.K e2)) = some (isSub c e2))
    (hb : ∀ (W' : WX) (pn : List (Addr × Obj)) (xe : Value → Shared → Prop), Takes (X.tr pn xe) W' → PassesOwn (model X.prog X.w) X.A X.env xe → PSs (X.tr pn xe) body (canS T W' b))
    (hsu : ∀ c ∈ T.Er, ∀ (a : Addr) (oe : Obj) (pn : List (Addr × Obj)), Zc (.ref (clA T.K c)) none oe → (∃ vs, oe.data = .fields vs) → PSs (X.suite a ((a, oe) :: pn)) (b0 :: suite) (canS T W0 (su c a))) :
    PS X (.Try body [.ExceptHandler (some (.Tuple [.Name (st e1) p1, .Name (st e2) p2] kk tp)) none (b0 :: suite) pos'] [] [] pos) (canS T W (sTry b [e1, e2] none su)) := by
  refine PS.le (ps_two (tb := fun W' => canS T W' b) (ts := fun a cls d D σ H => ∃ c, c ∈ T.Er ∧ cls = .ref (clA T.K c) ∧ d = none ∧ canS T W0 (su c a) D σ H) hs hf n1 n2 tk hb (fun a oe cls d pn hz hv => ?_)) fun D σ H ⟨ι, h, σm, Dm, R, s, p, m⟩ => ?_
  · refine ⟨fun pins s σ H D I ⟨c, hc, z1, z2, can⟩ => ?_⟩
    subst z1 z2
    exact (hsu c hc a oe pn hz hv).run pins s σ H D I can
  · refine canS_mk R s (Dm := tryEn [e1, e2] none su Dm) ⟨p.nx, p.rt, p.bk, p.ct, fun c σ1 h1 hc m1 ι1 H1 σ2 R1 X1 s1 => ?_⟩ m
    have m1 : if ([e1, e2].any (isSub c)) = true then ∀ a : Nat, su c a (suEn none Dm) (bindE none a σ1) h1 else Dm.ex c σ1 h1 := m1
    refine ⟨[e1, e2].any (isSub c), ?_, fun ht a ha => ?_, fun ht => ?_⟩
    · rw [hK]
      unfold PySem.W.exmAny
      unfold PySem.W.exmAny
      unfold PySem.W.exmAny
      rw [hx1 c hc, hx2 c hc]
      rfl
    · refine ⟨c, hc, rfl, rfl, ?_⟩
      rw [if_pos ht] at m1
      have pp := p.ext R1 X1
      exact canS_mk (Dm := suEn none Dm) (σm := bindE none a σ1) R1 s1 ⟨pp.nx, pp.rt, pp.bk, pp.ct, fun _ _ _ _ z => z.elim⟩ (m1 a)
    · rw [if_neg (by rw [ht]; exact Bool.false_ne_true)] at m1
      exact p.ex c σ1 h1 hc m1 _ _ _ R1 X1 s1
end
end Mi
end TxMiniM

section TxMiniR
set_option Elab.async false
set_option linter.all false
set_option autoImplicit false
set_option maxRecDepth 100000
set_option maxHeartbeats 4000000
namespace Mi
open PySem PySem.Spec PyProof.Rows L2
/-! ### the head's facts, over given addresses -/
def obsRG (as : List Addr) (fa : List He.Fa) (fn : List He.DefD) (ex : PySem.W.Frag → Bool) (g : Addr → Option Obj) : AlM := obsM fa fn ex (He.frG g (cStatics :: as))
def hookR (as : List Addr) (fa : List He.Fa) (fn : List He.DefD) (ex : PySem.W.Frag → Bool) : PySem.W.Hook where
  α := AlM
  obs := fun s => obsRG as fa fn ex s.heap.get?
  val := fun _ => valM fn
  says := fun _ h => ∃ K : PySem.W.Frag, K.In h ∧ SaysM fa fn ex K
  of := fun _ _ e => ⟨_, He.frG_in, e⟩
  keeps := fun _ _ _ ⟨K, hK, c⟩ k => ⟨K, PySem.W.Frag.In.keeps hK k, c⟩
theorem obsRG_eq {as : List Addr} {fa : List He.Fa} {fn : List He.DefD} {ex : PySem.W.Frag → Bool} {g : Addr → Option Obj} {s : Shared} (h : ∀ a, g a = s.heap.get? a) : obsRG as fa fn ex g = (hookR as fa fn ex).obs s := by
  have e : g = s.heap.get? := funext h
  rw [e]
  rfl
end Mi
end TxMiniR

section TxDefs
set_option autoImplicit false
set_option linter.all false
set_option maxRecDepth 100000
namespace Mi
/-! mini terms, printed by gen.py -/
theorem O_law_well : ∃ f : WF, f = fnM 2 5 (sSeq (sAsg (wC (.int 0)) (gN 2)) (sSeq (sIf (tV (wOp oLt (wV 1) (wB bLen (aCons (wV 0) aNil)))) (sAsg (wOp oIx (wV 0) (wV 1)) (gN 2)) sNx) (sSeq (sAsg (wLst 100 (aCons (wC (.int 2147483647)) (aCons (wC (.int 2147483629)) (aCons (wC (.int 2147483587)) (aCons (wC (.int 2147483579)) (aCons (wC (.int 2147483563)) (aCons (wC (.int 2147483549)) (aCons (wC (.int 2147483543)) (aCons (wC (.int 2147483497)) aNil))))))))) (gN 3)) (sSeq (sAsg (wOp oMod (wOp (oMul 0) (wOp (oAdd 0) (wOp oMod (wV 2) (wC (.int 2147483489))) (wC (.int 1))) (wOp (oAdd 0) (wC (.int 48271)) (wOp (oMul 0) (wC (.int 2)) (wV 1)))) (wC (.int 2147483489))) (gN 4)) (sSeq (sAsg (wOp (oAdd 0) (wOp (oAdd 0) (wOp oMod (wOp (oMul 0) (wV 4) (wV 4)) (wC (.int 2147483477))) (wV 1)) (wC (.int 1))) (gN 4)) (sSeq (sIf (tV (wOp oGe (wV 2) (wOp oPow (wC (.int 10)) (wC (.int 18))))) (sRet (wLst 1 (aCons (wV 2) (aCons (wV 4) (aCons (wOp oIx (wV 3) (wOp oMod (wV 1) (wC (.int 8)))) aNil))))) sNx) (sRet (wLst 1 (aCons (wC (.int 0)) (aCons (wV 4) (aCons (wOp oIx (wV 3) (wOp oMod (wV 1) (wC (.int 8)))) aNil))))))))))) := ⟨_, rfl⟩
noncomputable def F_law_well : WF := Classical.choose O_law_well
theorem F_law_well_eq : F_law_well = fnM 2 5 (sSeq (sAsg (wC (.int 0)) (gN 2)) (sSeq (sIf (tV (wOp oLt (wV 1) (wB bLen (aCons (wV 0) aNil)))) (sAsg (wOp oIx (wV 0) (wV 1)) (gN 2)) sNx) (sSeq (sAsg (wLst 100 (aCons (wC (.int 2147483647)) (aCons (wC (.int 2147483629)) (aCons (wC (.int 2147483587)) (aCons (wC (.int 2147483579)) (aCons (wC (.int 2147483563)) (aCons (wC (.int 2147483549)) (aCons (wC (.int 2147483543)) (aCons (wC (.int 2147483497)) aNil))))))))) (gN 3)) (sSeq (sAsg (wOp oMod (wOp (oMul 0) (wOp (oAdd 0) (wOp oMod (wV 2) (wC (.int 2147483489))) (wC (.int 1))) (wOp (oAdd 0) (wC (.int 48271)) (wOp (oMul 0) (wC (.int 2)) (wV 1)))) (wC (.int 2147483489))) (gN 4)) (sSeq (sAsg (wOp (oAdd 0) (wOp (oAdd 0) (wOp oMod (wOp (oMul 0) (wV 4) (wV 4)) (wC (.int 2147483477))) (wV 1)) (wC (.int 1))) (gN 4)) (sSeq (sIf (tV (wOp oGe (wV 2) (wOp oPow (wC (.int 10)) (wC (.int 18))))) (sRet (wLst 1 (aCons (wV 2) (aCons (wV 4) (aCons (wOp oIx (wV 3) (wOp oMod (wV 1) (wC (.int 8)))) aNil))))) sNx) (sRet (wLst 1 (aCons (wC (.int 0)) (aCons (wV 4) (aCons (wOp oIx (wV 3) (wOp oMod (wV 1) (wC (.int 8)))) aNil))))))))))) := Classical.choose_spec O_law_well
theorem O_law_take : ∃ f : WF, f = fnM 2 3 (sSeq (sIf (tV (wOp oGt (wOp oIx (wV 0) (wC (.int 0))) (wC (.int 0)))) (sSeq (sAsg (wOp oMod (wOp oIx (wV 0) (wC (.int 0))) (wV 1)) (gN 2)) (sSeq (sAsg (wOp oDiv (wOp oIx (wV 0) (wC (.int 0))) (wV 1)) (gIx (wV 0) (wC (.int 0)))) (sRet (wV 2)))) sNx) (sSeq (sAsg (wOp (oAdd 0) (wOp oMod (wOp (oMul 0) (wOp oIx (wV 0) (wC (.int 1))) (wC (.int 48271))) (wOp oIx (wV 0) (wC (.int 2)))) (wC (.int 1))) (gIx (wV 0) (wC (.int 1)))) (sRet (wOp oMod (wOp oDiv (wOp oMod (wOp (oMul 0) (wOp oIx (wV 0) (wC (.int 1))) (wOp oIx (wV 0) (wC (.int 1)))) (wC (.int 2147483423))) (wC (.int 7))) (wV 1))))) := ⟨_, rfl⟩
noncomputable def F_law_take : WF := Classical.choose O_law_take
theorem F_law_take_eq : F_law_take = fnM 2 3 (sSeq (sIf (tV (wOp oGt (wOp oIx (wV 0) (wC (.int 0))) (wC (.int 0)))) (sSeq (sAsg (wOp oMod (wOp oIx (wV 0) (wC (.int 0))) (wV 1)) (gN 2)) (sSeq (sAsg (wOp oDiv (wOp oIx (wV 0) (wC (.int 0))) (wV 1)) (gIx (wV 0) (wC (.int 0)))) (sRet (wV 2)))) sNx) (sSeq (sAsg (wOp (oAdd 0) (wOp oMod (wOp (oMul 0) (wOp oIx (wV 0) (wC (.int 1))) (wC (.int 48271))) (wOp oIx (wV 0) (wC (.int 2)))) (wC (.int 1))) (gIx (wV 0) (wC (.int 1)))) (sRet (wOp oMod (wOp oDiv (wOp oMod (wOp (oMul 0) (wOp oIx (wV 0) (wC (.int 1))) (wOp oIx (wV 0) (wC (.int 1)))) (wC (.int 2147483423))) (wC (.int 7))) (wV 1))))) := Classical.choose_spec O_law_take
theorem O_law_far : ∃ f : WF, f = fnM 1 1 (sRet (wOp oIx (wLst 101 (aCons (wOp (oAdd 0) (wC (.int 1)) (wCall F_law_take (aCons (wV 0) (aCons (wC (.int 3)) aNil)))) (aCons (wOp (oAdd 0) (wC (.int 1)) (wCall F_law_take (aCons (wV 0) (aCons (wOp oPow (wC (.int 10)) (wC (.int 58))) aNil)))) aNil))) (wCall F_law_take (aCons (wV 0) (aCons (wC (.int 2)) aNil))))) := ⟨_, rfl⟩
noncomputable def F_law_far : WF := Classical.choose O_law_far
theorem F_law_far_eq : F_law_far = fnM 1 1 (sRet (wOp oIx (wLst 101 (aCons (wOp (oAdd 0) (wC (.int 1)) (wCall F_law_take (aCons (wV 0) (aCons (wC (.int 3)) aNil)))) (aCons (wOp (oAdd 0) (wC (.int 1)) (wCall F_law_take (aCons (wV 0) (aCons (wOp oPow (wC (.int 10)) (wC (.int 58))) aNil)))) aNil))) (wCall F_law_take (aCons (wV 0) (aCons (wC (.int 2)) aNil))))) := Classical.choose_spec O_law_far
theorem O_look_at_size : ∃ f : WF, f = fnM 1 1 (sIf (tOr (tV (wOp oLt (wV 0) (wC (.int 2)))) (tV (wOp oGt (wV 0) (wC (.int 8))))) (sRaise "BadSize") sNx) := ⟨_, rfl⟩
noncomputable def F_look_at_size : WF := Classical.choose O_look_at_size
theorem F_look_at_size_eq : F_look_at_size = fnM 1 1 (sIf (tOr (tV (wOp oLt (wV 0) (wC (.int 2)))) (tV (wOp oGt (wV 0) (wC (.int 8))))) (sRaise "BadSize") sNx) := Classical.choose_spec O_look_at_size
theorem O_look_at_turn : ∃ f : WF, f = fnM 2 2 (sSeq (sEx (wCall F_look_at_size (aCons (wV 0) aNil))) (sIf (tOr (tV (wOp oLt (wV 1) (wC (.int 0)))) (tV (wOp oGe (wV 1) (wOp (oMul 0) (wC (.int 2)) (wV 0))))) (sRaise "NoTurn") sNx)) := ⟨_, rfl⟩
noncomputable def F_look_at_turn : WF := Classical.choose O_look_at_turn
theorem F_look_at_turn_eq : F_look_at_turn = fnM 2 2 (sSeq (sEx (wCall F_look_at_size (aCons (wV 0) aNil))) (sIf (tOr (tV (wOp oLt (wV 1) (wC (.int 0)))) (tV (wOp oGe (wV 1) (wOp (oMul 0) (wC (.int 2)) (wV 0))))) (sRaise "NoTurn") sNx)) := Classical.choose_spec O_look_at_turn
theorem O_distance : ∃ f : WF, f = fnM 3 3 (sSeq (sEx (wCall F_look_at_turn (aCons (wV 0) (aCons (wV 1) aNil)))) (sSeq (sEx (wCall F_look_at_turn (aCons (wV 0) (aCons (wV 2) aNil)))) (sRet (wOp oMod (wOp oSub (wV 2) (wV 1)) (wOp (oMul 0) (wC (.int 2)) (wV 0)))))) := ⟨_, rfl⟩
noncomputable def F_distance : WF := Classical.choose O_distance
theorem F_distance_eq : F_distance = fnM 3 3 (sSeq (sEx (wCall F_look_at_turn (aCons (wV 0) (aCons (wV 1) aNil)))) (sSeq (sEx (wCall F_look_at_turn (aCons (wV 0) (aCons (wV 2) aNil)))) (sRet (wOp oMod (wOp oSub (wV 2) (wV 1)) (wOp (oMul 0) (wC (.int 2)) (wV 0)))))) := Classical.choose_spec O_distance
theorem O_onward : ∃ f : WF, f = fnM 3 3 (sSeq (sEx (wCall F_look_at_turn (aCons (wV 0) (aCons (wV 1) aNil)))) (sRet (wOp oMod (wOp (oAdd 0) (wV 1) (wV 2)) (wOp (oMul 0) (wC (.int 2)) (wV 0))))) := ⟨_, rfl⟩
noncomputable def F_onward : WF := Classical.choose O_onward
theorem F_onward_eq : F_onward = fnM 3 3 (sSeq (sEx (wCall F_look_at_turn (aCons (wV 0) (aCons (wV 1) aNil)))) (sRet (wOp oMod (wOp (oAdd 0) (wV 1) (wV 2)) (wOp (oMul 0) (wC (.int 2)) (wV 0))))) := Classical.choose_spec O_onward
theorem O_lap_of : ∃ f : WF, f = fnM 2 2 (sSeq (sEx (wCall F_look_at_turn (aCons (wV 0) (aCons (wV 1) aNil)))) (sRet (wOp oDiv (wV 1) (wV 0)))) := ⟨_, rfl⟩
noncomputable def F_lap_of : WF := Classical.choose O_lap_of
theorem F_lap_of_eq : F_lap_of = fnM 2 2 (sSeq (sEx (wCall F_look_at_turn (aCons (wV 0) (aCons (wV 1) aNil)))) (sRet (wOp oDiv (wV 1) (wV 0)))) := Classical.choose_spec O_lap_of
theorem O_place_of : ∃ f : WF, f = fnM 2 2 (sSeq (sEx (wCall F_look_at_turn (aCons (wV 0) (aCons (wV 1) aNil)))) (sRet (wOp oMod (wV 1) (wV 0)))) := ⟨_, rfl⟩
noncomputable def F_place_of : WF := Classical.choose O_place_of
theorem F_place_of_eq : F_place_of = fnM 2 2 (sSeq (sEx (wCall F_look_at_turn (aCons (wV 0) (aCons (wV 1) aNil)))) (sRet (wOp oMod (wV 1) (wV 0)))) := Classical.choose_spec O_place_of
theorem O_law_whole : ∃ f : WF, f = fnM 1 1 (sRet (wAndV (bIsi ["int"] (wV 0)) (wNot (tTru (bIsi ["bool"] (wV 0)))))) := ⟨_, rfl⟩
noncomputable def F_law_whole : WF := Classical.choose O_law_whole
theorem F_law_whole_eq : F_law_whole = fnM 1 1 (sRet (wAndV (bIsi ["int"] (wV 0)) (wNot (tTru (bIsi ["bool"] (wV 0)))))) := Classical.choose_spec O_law_whole
theorem O_free_mark : ∃ f : WF, f = fnM 2 2 (sRet (wOp (oMul 0) (wC (.int 2)) (wCall F_lap_of (aCons (wV 0) (aCons (wV 1) aNil))))) := ⟨_, rfl⟩
noncomputable def F_free_mark : WF := Classical.choose O_free_mark
theorem F_free_mark_eq : F_free_mark = fnM 2 2 (sRet (wOp (oMul 0) (wC (.int 2)) (wCall F_lap_of (aCons (wV 0) (aCons (wV 1) aNil))))) := Classical.choose_spec O_free_mark
theorem O_full_mark : ∃ f : WF, f = fnM 2 2 (sRet (wOp (oAdd 0) (wOp (oMul 0) (wC (.int 2)) (wCall F_lap_of (aCons (wV 0) (aCons (wV 1) aNil)))) (wC (.int 1)))) := ⟨_, rfl⟩
noncomputable def F_full_mark : WF := Classical.choose O_full_mark
theorem F_full_mark_eq : F_full_mark = fnM 2 2 (sRet (wOp (oAdd 0) (wOp (oMul 0) (wC (.int 2)) (wCall F_lap_of (aCons (wV 0) (aCons (wV 1) aNil)))) (wC (.int 1)))) := Classical.choose_spec O_full_mark
theorem O_look_at_mark : ∃ f : WF, f = fnM 1 1 (sIf (tOr (tV (wOp oLt (wV 0) (wC (.int 0)))) (tV (wOp oGt (wV 0) (wC (.int 3))))) (sRaise "BadMark") sNx) := ⟨_, rfl⟩
noncomputable def F_look_at_mark : WF := Classical.choose O_look_at_mark
theorem F_look_at_mark_eq : F_look_at_mark = fnM 1 1 (sIf (tOr (tV (wOp oLt (wV 0) (wC (.int 0)))) (tV (wOp oGt (wV 0) (wC (.int 3))))) (sRaise "BadMark") sNx) := Classical.choose_spec O_look_at_mark
theorem O_may_take : ∃ f : WF, f = fnM 3 4 (sSeq (sAsg (wCall F_lap_of (aCons (wV 0) (aCons (wV 1) aNil))) (gN 3)) (sSeq (sEx (wCall F_look_at_mark (aCons (wV 2) aNil))) (sRet (wOp oEq (wV 2) (wOp (oAdd 0) (wOp (oMul 0) (wC (.int 2)) (wV 3)) (wC (.int 1))))))) := ⟨_, rfl⟩
noncomputable def F_may_take : WF := Classical.choose O_may_take
theorem F_may_take_eq : F_may_take = fnM 3 4 (sSeq (sAsg (wCall F_lap_of (aCons (wV 0) (aCons (wV 1) aNil))) (gN 3)) (sSeq (sEx (wCall F_look_at_mark (aCons (wV 2) aNil))) (sRet (wOp oEq (wV 2) (wOp (oAdd 0) (wOp (oMul 0) (wC (.int 2)) (wV 3)) (wC (.int 1))))))) := Classical.choose_spec O_may_take
theorem O_may_give : ∃ f : WF, f = fnM 3 4 (sSeq (sAsg (wCall F_lap_of (aCons (wV 0) (aCons (wV 1) aNil))) (gN 3)) (sSeq (sEx (wCall F_look_at_mark (aCons (wV 2) aNil))) (sRet (wOp oEq (wV 2) (wOp (oMul 0) (wC (.int 2)) (wOp oSub (wC (.int 1)) (wV 3))))))) := ⟨_, rfl⟩
noncomputable def F_may_give : WF := Classical.choose O_may_give
theorem F_may_give_eq : F_may_give = fnM 3 4 (sSeq (sAsg (wCall F_lap_of (aCons (wV 0) (aCons (wV 1) aNil))) (gN 3)) (sSeq (sEx (wCall F_look_at_mark (aCons (wV 2) aNil))) (sRet (wOp oEq (wV 2) (wOp (oMul 0) (wC (.int 2)) (wOp oSub (wC (.int 1)) (wV 3))))))) := Classical.choose_spec O_may_give
theorem O_law_front : ∃ f : WF, f = fnM 1 6 (sSeq (sAsg (wB bLen (aCons (wV 0) aNil)) (gN 1)) (sSeq (sFor (iRng1 (wOp (oMul 0) (wC (.int 2)) (wV 1))) (gN 2) (sSeq (sAsg (wOp oDiv (wV 2) (wV 1)) (gN 3)) (sSeq (sAsg (wOp oMod (wV 2) (wV 1)) (gN 4)) (sSeq (sAsg (wOp (oAdd 0) (wOp (oMul 0) (wLst 133 (aCons (wV 3) aNil)) (wV 4)) (wOp (oMul 0) (wLst 134 (aCons (wOp oSub (wC (.int 1)) (wV 3)) aNil)) (wOp oSub (wV 1) (wV 4)))) (gN 5)) (sIf (tV (wOp oEq (wV 0) (wV 5))) (sRet (wV 2)) sNx))))) (sRet (wC .non)))) := ⟨_, rfl⟩
noncomputable def F_law_front : WF := Classical.choose O_law_front
theorem F_law_front_eq : F_law_front = fnM 1 6 (sSeq (sAsg (wB bLen (aCons (wV 0) aNil)) (gN 1)) (sSeq (sFor (iRng1 (wOp (oMul 0) (wC (.int 2)) (wV 1))) (gN 2) (sSeq (sAsg (wOp oDiv (wV 2) (wV 1)) (gN 3)) (sSeq (sAsg (wOp oMod (wV 2) (wV 1)) (gN 4)) (sSeq (sAsg (wOp (oAdd 0) (wOp (oMul 0) (wLst 133 (aCons (wV 3) aNil)) (wV 4)) (wOp (oMul 0) (wLst 134 (aCons (wOp oSub (wC (.int 1)) (wV 3)) aNil)) (wOp oSub (wV 1) (wV 4)))) (gN 5)) (sIf (tV (wOp oEq (wV 0) (wV 5))) (sRet (wV 2)) sNx))))) (sRet (wC .non)))) := Classical.choose_spec O_law_front
theorem O_front : ∃ f : WF, f = fnM 1 4 (sSeq (sEx (wCall F_look_at_size (aCons (wB bLen (aCons (wV 0) aNil)) aNil))) (sSeq (sFor (iSeq (wV 0)) (gN 1) (sIf (tOr (tV (wOp oLt (wV 1) (wC (.int 0)))) (tV (wOp oGt (wV 1) (wC (.int 1))))) (sRaise "BadMark") sNx)) (sSeq (sAsg (wOp oIx (wV 0) (wC (.int 0))) (gN 2)) (sSeq (sAsg (wC (.int 0)) (gN 3)) (sSeq (sWhile (tAnd (tV (wOp oLt (wV 3) (wB bLen (aCons (wV 0) aNil)))) (tV (wOp oEq (wOp oIx (wV 0) (wV 3)) (wV 2)))) (sAsg (wOp (oAdd 0) (wV 3) (wC (.int 1))) (gN 3))) (sSeq (sIf (tV (wOp oEq (wV 3) (wB bLen (aCons (wV 0) aNil)))) (sRet (wOp (oMul 0) (wB bLen (aCons (wV 0) aNil)) (wOp oSub (wC (.int 1)) (wV 2)))) sNx) (sSeq (sIf (tV (wOp oIn (wV 2) (wSl 136 (wV 0) (pSome (wV 3)) pNone))) (sRaise "Crooked") sNx) (sRet (wOp (oAdd 0) (wOp (oMul 0) (wB bLen (aCons (wV 0) aNil)) (wV 2)) (wV 3)))))))))) := ⟨_, rfl⟩
noncomputable def F_front : WF := Classical.choose O_front
theorem F_front_eq : F_front = fnM 1 4 (sSeq (sEx (wCall F_look_at_size (aCons (wB bLen (aCons (wV 0) aNil)) aNil))) (sSeq (sFor (iSeq (wV 0)) (gN 1) (sIf (tOr (tV (wOp oLt (wV 1) (wC (.int 0)))) (tV (wOp oGt (wV 1) (wC (.int 1))))) (sRaise "BadMark") sNx)) (sSeq (sAsg (wOp oIx (wV 0) (wC (.int 0))) (gN 2)) (sSeq (sAsg (wC (.int 0)) (gN 3)) (sSeq (sWhile (tAnd (tV (wOp oLt (wV 3) (wB bLen (aCons (wV 0) aNil)))) (tV (wOp oEq (wOp oIx (wV 0) (wV 3)) (wV 2)))) (sAsg (wOp (oAdd 0) (wV 3) (wC (.int 1))) (gN 3))) (sSeq (sIf (tV (wOp oEq (wV 3) (wB bLen (aCons (wV 0) aNil)))) (sRet (wOp (oMul 0) (wB bLen (aCons (wV 0) aNil)) (wOp oSub (wC (.int 1)) (wV 2)))) sNx) (sSeq (sIf (tV (wOp oIn (wV 2) (wSl 136 (wV 0) (pSome (wV 3)) pNone))) (sRaise "Crooked") sNx) (sRet (wOp (oAdd 0) (wOp (oMul 0) (wB bLen (aCons (wV 0) aNil)) (wV 2)) (wV 3)))))))))) := Classical.choose_spec O_front
theorem O_law_marks : ∃ f : WF, f = fnM 3 7 (sSeq (sAsg (wLst 151 aNil) (gN 3)) (sSeq (sFor (iRng1 (wV 0)) (gN 4) (sSeq (sAsg (wOp oDiv (wOp oSub (wOp (oAdd 0) (wOp oSub (wV 2) (wV 4)) (wV 0)) (wC (.int 1))) (wV 0)) (gN 5)) (sSeq (sAsg (wOp (oAdd 0) (wV 4) (wOp (oMul 0) (wV 0) (wOp oSub (wV 5) (wC (.int 1))))) (gN 6)) (sIf (tV (wOp oEq (wV 5) (wC (.int 0)))) (sEx (wBM "list" mAppend (wV 3) (aCons (wC (.int 2)) aNil))) (sEx (wBM "list" mAppend (wV 3) (aCons (wOp (oAdd 0) (wOp (oMul 0) (wC (.int 2)) (wOp oMod (wOp oSub (wV 5) (wC (.int 1))) (wC (.int 2)))) (wB bInt (aCons (wOp oGe (wV 6) (wV 1)) aNil))) aNil))))))) (sRet (wV 3)))) := ⟨_, rfl⟩
noncomputable def F_law_marks : WF := Classical.choose O_law_marks
theorem F_law_marks_eq : F_law_marks = fnM 3 7 (sSeq (sAsg (wLst 151 aNil) (gN 3)) (sSeq (sFor (iRng1 (wV 0)) (gN 4) (sSeq (sAsg (wOp oDiv (wOp oSub (wOp (oAdd 0) (wOp oSub (wV 2) (wV 4)) (wV 0)) (wC (.int 1))) (wV 0)) (gN 5)) (sSeq (sAsg (wOp (oAdd 0) (wV 4) (wOp (oMul 0) (wV 0) (wOp oSub (wV 5) (wC (.int 1))))) (gN 6)) (sIf (tV (wOp oEq (wV 5) (wC (.int 0)))) (sEx (wBM "list" mAppend (wV 3) (aCons (wC (.int 2)) aNil))) (sEx (wBM "list" mAppend (wV 3) (aCons (wOp (oAdd 0) (wOp (oMul 0) (wC (.int 2)) (wOp oMod (wOp oSub (wV 5) (wC (.int 1))) (wC (.int 2)))) (wB bInt (aCons (wOp oGe (wV 6) (wV 1)) aNil))) aNil))))))) (sRet (wV 3)))) := Classical.choose_spec O_law_marks
theorem O_bits_of : ∃ f : WF, f = fnM 2 4 (sSeq (sAsg (wCall F_lap_of (aCons (wV 0) (aCons (wV 1) aNil))) (gN 2)) (sSeq (sAsg (wCall F_place_of (aCons (wV 0) (aCons (wV 1) aNil))) (gN 3)) (sRet (wOp (oAdd 0) (wOp (oMul 0) (wLst 153 (aCons (wV 2) aNil)) (wV 3)) (wOp (oMul 0) (wLst 154 (aCons (wOp oSub (wC (.int 1)) (wV 2)) aNil)) (wOp oSub (wV 0) (wV 3))))))) := ⟨_, rfl⟩
noncomputable def F_bits_of : WF := Classical.choose O_bits_of
theorem F_bits_of_eq : F_bits_of = fnM 2 4 (sSeq (sAsg (wCall F_lap_of (aCons (wV 0) (aCons (wV 1) aNil))) (gN 2)) (sSeq (sAsg (wCall F_place_of (aCons (wV 0) (aCons (wV 1) aNil))) (gN 3)) (sRet (wOp (oAdd 0) (wOp (oMul 0) (wLst 153 (aCons (wV 2) aNil)) (wV 3)) (wOp (oMul 0) (wLst 154 (aCons (wOp oSub (wC (.int 1)) (wV 2)) aNil)) (wOp oSub (wV 0) (wV 3))))))) := Classical.choose_spec O_bits_of
theorem O_marks_of : ∃ f : WF, f = fnM 3 6 (sSeq (sEx (wCall F_look_at_turn (aCons (wV 0) (aCons (wV 1) aNil)))) (sSeq (sEx (wCall F_look_at_turn (aCons (wV 0) (aCons (wV 2) aNil)))) (sSeq (sIf (tV (wOp oGt (wCall F_distance (aCons (wV 0) (aCons (wV 1) (aCons (wV 2) aNil)))) (wV 0))) (sRaise "Crooked") sNx) (sSeq (sAsg (wLst 152 aNil) (gN 3)) (sSeq (sFor (iZip (wCall F_bits_of (aCons (wV 0) (aCons (wV 2) aNil))) (wCall F_bits_of (aCons (wV 0) (aCons (wV 1) aNil)))) (gTup 2 (gCons (gN 4) (gCons (gN 5) gNil))) (sEx (wBM "list" mAppend (wV 3) (aCons (wOp (oAdd 0) (wOp (oMul 0) (wC (.int 2)) (wV 4)) (wOp oMod (wOp (oAdd 0) (wV 4) (wV 5)) (wC (.int 2)))) aNil)))) (sRet (wV 3))))))) := ⟨_, rfl⟩
noncomputable def F_marks_of : WF := Classical.choose O_marks_of
theorem F_marks_of_eq : F_marks_of = fnM 3 6 (sSeq (sEx (wCall F_look_at_turn (aCons (wV 0) (aCons (wV 1) aNil)))) (sSeq (sEx (wCall F_look_at_turn (aCons (wV 0) (aCons (wV 2) aNil)))) (sSeq (sIf (tV (wOp oGt (wCall F_distance (aCons (wV 0) (aCons (wV 1) (aCons (wV 2) aNil)))) (wV 0))) (sRaise "Crooked") sNx) (sSeq (sAsg (wLst 152 aNil) (gN 3)) (sSeq (sFor (iZip (wCall F_bits_of (aCons (wV 0) (aCons (wV 2) aNil))) (wCall F_bits_of (aCons (wV 0) (aCons (wV 1) aNil)))) (gTup 2 (gCons (gN 4) (gCons (gN 5) gNil))) (sEx (wBM "list" mAppend (wV 3) (aCons (wOp (oAdd 0) (wOp (oMul 0) (wC (.int 2)) (wV 4)) (wOp oMod (wOp (oAdd 0) (wV 4) (wV 5)) (wC (.int 2)))) aNil)))) (sRet (wV 3))))))) := Classical.choose_spec O_marks_of
theorem O_look_at_marks : ∃ f : WF, f = fnM 1 2 (sSeq (sEx (wCall F_look_at_size (aCons (wB bLen (aCons (wV 0) aNil)) aNil))) (sFor (iSeq (wV 0)) (gN 1) (sEx (wCall F_look_at_mark (aCons (wV 1) aNil))))) := ⟨_, rfl⟩
noncomputable def F_look_at_marks : WF := Classical.choose O_look_at_marks
theorem F_look_at_marks_eq : F_look_at_marks = fnM 1 2 (sSeq (sEx (wCall F_look_at_size (aCons (wB bLen (aCons (wV 0) aNil)) aNil))) (sFor (iSeq (wV 0)) (gN 1) (sEx (wCall F_look_at_mark (aCons (wV 1) aNil))))) := Classical.choose_spec O_look_at_marks
theorem O_lap_bits : ∃ f : WF, f = fnM 1 2 (sRet (wComp 156 (iSeq (wV 0)) 1 tYes (wOp oDiv (wV 1) (wC (.int 2))))) := ⟨_, rfl⟩
noncomputable def F_lap_bits : WF := Classical.choose O_lap_bits
theorem F_lap_bits_eq : F_lap_bits = fnM 1 2 (sRet (wComp 156 (iSeq (wV 0)) 1 tYes (wOp oDiv (wV 1) (wC (.int 2))))) := Classical.choose_spec O_lap_bits
theorem O_giver_turn : ∃ f : WF, f = fnM 1 1 (sSeq (sEx (wCall F_look_at_marks (aCons (wV 0) aNil))) (sRet (wCall F_front (aCons (wCall F_lap_bits (aCons (wV 0) aNil)) aNil)))) := ⟨_, rfl⟩
noncomputable def F_giver_turn : WF := Classical.choose O_giver_turn
theorem F_giver_turn_eq : F_giver_turn = fnM 1 1 (sSeq (sEx (wCall F_look_at_marks (aCons (wV 0) aNil))) (sRet (wCall F_front (aCons (wCall F_lap_bits (aCons (wV 0) aNil)) aNil)))) := Classical.choose_spec O_giver_turn
theorem O_odd_bits : ∃ f : WF, f = fnM 1 2 (sRet (wComp 157 (iSeq (wV 0)) 1 tYes (wOp oMod (wOp (oAdd 0) (wOp oDiv (wV 1) (wC (.int 2))) (wV 1)) (wC (.int 2))))) := ⟨_, rfl⟩
noncomputable def F_odd_bits : WF := Classical.choose O_odd_bits
theorem F_odd_bits_eq : F_odd_bits = fnM 1 2 (sRet (wComp 157 (iSeq (wV 0)) 1 tYes (wOp oMod (wOp (oAdd 0) (wOp oDiv (wV 1) (wC (.int 2))) (wV 1)) (wC (.int 2))))) := Classical.choose_spec O_odd_bits
theorem O_taker_turn : ∃ f : WF, f = fnM 1 1 (sSeq (sEx (wCall F_look_at_marks (aCons (wV 0) aNil))) (sRet (wCall F_front (aCons (wCall F_odd_bits (aCons (wV 0) aNil)) aNil)))) := ⟨_, rfl⟩
noncomputable def F_taker_turn : WF := Classical.choose O_taker_turn
theorem F_taker_turn_eq : F_taker_turn = fnM 1 1 (sSeq (sEx (wCall F_look_at_marks (aCons (wV 0) aNil))) (sRet (wCall F_front (aCons (wCall F_odd_bits (aCons (wV 0) aNil)) aNil)))) := Classical.choose_spec O_taker_turn
theorem O_sound_marks : ∃ f : WF, f = fnM 1 3 (sSeq (sEx (wCall F_look_at_marks (aCons (wV 0) aNil))) (sSeq (sTry (sSeq (sAsg (wCall F_giver_turn (aCons (wV 0) aNil)) (gN 1)) (sAsg (wCall F_taker_turn (aCons (wV 0) aNil)) (gN 2))) ["Crooked"] none (fun c a => sRet (wC (.bl false)))) (sRet (wOp oLe (wCall F_distance (aCons (wB bLen (aCons (wV 0) aNil)) (aCons (wV 2) (aCons (wV 1) aNil)))) (wB bLen (aCons (wV 0) aNil)))))) := ⟨_, rfl⟩
noncomputable def F_sound_marks : WF := Classical.choose O_sound_marks
theorem F_sound_marks_eq : F_sound_marks = fnM 1 3 (sSeq (sEx (wCall F_look_at_marks (aCons (wV 0) aNil))) (sSeq (sTry (sSeq (sAsg (wCall F_giver_turn (aCons (wV 0) aNil)) (gN 1)) (sAsg (wCall F_taker_turn (aCons (wV 0) aNil)) (gN 2))) ["Crooked"] none (fun c a => sRet (wC (.bl false)))) (sRet (wOp oLe (wCall F_distance (aCons (wB bLen (aCons (wV 0) aNil)) (aCons (wV 2) (aCons (wV 1) aNil)))) (wB bLen (aCons (wV 0) aNil)))))) := Classical.choose_spec O_sound_marks
theorem O_Board___init : ∃ f : WF, f = fnM 2 2 (sSeq (sEx (wCall F_look_at_size (aCons (wV 1) aNil))) (sSeq (sAsg (wV 1) (gFld (wV 0) "size")) (sSeq (sAsg (wOp (oAdd 20) (wOp (oMul 0) (wLst 190 (aCons (wC (.int 2)) (aCons (wUn uNeg (wC (.int 1))) (aCons (wC (.int 0)) (aCons (wC (.int 0)) aNil))))) (wV 1)) (wLst 191 (aCons (wUn uNeg (wC (.int 1))) (aCons (wUn uNeg (wC (.int 1))) (aCons (wC (.int 0)) (aCons (wC (.int 0)) aNil)))))) (gFld (wV 0) "kept")) (sSeq (sAsg (wC (.int 0)) (gFld (wV 0) "counted")) (sAsg (wC .non) (gFld (wV 0) "latest")))))) := ⟨_, rfl⟩
noncomputable def F_Board___init : WF := Classical.choose O_Board___init
theorem F_Board___init_eq : F_Board___init = fnM 2 2 (sSeq (sEx (wCall F_look_at_size (aCons (wV 1) aNil))) (sSeq (sAsg (wV 1) (gFld (wV 0) "size")) (sSeq (sAsg (wOp (oAdd 20) (wOp (oMul 0) (wLst 190 (aCons (wC (.int 2)) (aCons (wUn uNeg (wC (.int 1))) (aCons (wC (.int 0)) (aCons (wC (.int 0)) aNil))))) (wV 1)) (wLst 191 (aCons (wUn uNeg (wC (.int 1))) (aCons (wUn uNeg (wC (.int 1))) (aCons (wC (.int 0)) (aCons (wC (.int 0)) aNil)))))) (gFld (wV 0) "kept")) (sSeq (sAsg (wC (.int 0)) (gFld (wV 0) "counted")) (sAsg (wC .non) (gFld (wV 0) "latest")))))) := Classical.choose_spec O_Board___init
theorem O_Board_look_at_cell : ∃ f : WF, f = fnM 2 2 (sIf (tOr (tV (wOp oLt (wV 1) (wC (.int 0)))) (tV (wOp oGe (wV 1) (wB bLen (aCons (wFld (wV 0) "kept") aNil))))) (sRaise "NoCell") sNx) := ⟨_, rfl⟩
noncomputable def F_Board_look_at_cell : WF := Classical.choose O_Board_look_at_cell
theorem F_Board_look_at_cell_eq : F_Board_look_at_cell = fnM 2 2 (sIf (tOr (tV (wOp oLt (wV 1) (wC (.int 0)))) (tV (wOp oGe (wV 1) (wB bLen (aCons (wFld (wV 0) "kept") aNil))))) (sRaise "NoCell") sNx) := Classical.choose_spec O_Board_look_at_cell
theorem O_Board_touched : ∃ f : WF, f = fnM 3 3 (sSeq (sAsg (wOp (oAdd 0) (wFld (wV 0) "counted") (wC (.int 1))) (gFld (wV 0) "counted")) (sSeq (sAsg (wTup (aCons (wV 1) (aCons (wV 2) (aCons (wOp oIx (wFld (wV 0) "kept") (wV 2)) aNil)))) (gFld (wV 0) "latest")) (sRet (wOp oIx (wFld (wV 0) "kept") (wV 2))))) := ⟨_, rfl⟩
noncomputable def F_Board_touched : WF := Classical.choose O_Board_touched
theorem F_Board_touched_eq : F_Board_touched = fnM 3 3 (sSeq (sAsg (wOp (oAdd 0) (wFld (wV 0) "counted") (wC (.int 1))) (gFld (wV 0) "counted")) (sSeq (sAsg (wTup (aCons (wV 1) (aCons (wV 2) (aCons (wOp oIx (wFld (wV 0) "kept") (wV 2)) aNil)))) (gFld (wV 0) "latest")) (sRet (wOp oIx (wFld (wV 0) "kept") (wV 2))))) := Classical.choose_spec O_Board_touched
theorem O_Board_write : ∃ f : WF, f = fnM 3 3 (sSeq (sEx (wMeth (tb1 "Board" F_Board_look_at_cell) (wV 0) (aCons (wV 1) aNil))) (sSeq (sAsg (wV 2) (gIx (wFld (wV 0) "kept") (wV 1))) (sEx (wMeth (tb1 "Board" F_Board_touched) (wV 0) (aCons (wC (.str "write")) (aCons (wV 1) aNil)))))) := ⟨_, rfl⟩
noncomputable def F_Board_write : WF := Classical.choose O_Board_write
theorem F_Board_write_eq : F_Board_write = fnM 3 3 (sSeq (sEx (wMeth (tb1 "Board" F_Board_look_at_cell) (wV 0) (aCons (wV 1) aNil))) (sSeq (sAsg (wV 2) (gIx (wFld (wV 0) "kept") (wV 1))) (sEx (wMeth (tb1 "Board" F_Board_touched) (wV 0) (aCons (wC (.str "write")) (aCons (wV 1) aNil)))))) := Classical.choose_spec O_Board_write
theorem O_Board_read : ∃ f : WF, f = fnM 2 2 (sSeq (sEx (wMeth (tb1 "Board" F_Board_look_at_cell) (wV 0) (aCons (wV 1) aNil))) (sRet (wMeth (tb1 "Board" F_Board_touched) (wV 0) (aCons (wC (.str "read")) (aCons (wV 1) aNil))))) := ⟨_, rfl⟩
noncomputable def F_Board_read : WF := Classical.choose O_Board_read
theorem F_Board_read_eq : F_Board_read = fnM 2 2 (sSeq (sEx (wMeth (tb1 "Board" F_Board_look_at_cell) (wV 0) (aCons (wV 1) aNil))) (sRet (wMeth (tb1 "Board" F_Board_touched) (wV 0) (aCons (wC (.str "read")) (aCons (wV 1) aNil))))) := Classical.choose_spec O_Board_read
theorem O_Board_all_cells : ∃ f : WF, f = fnM 1 1 (sRet (wB (bList 207) (aCons (wFld (wV 0) "kept") aNil))) := ⟨_, rfl⟩
noncomputable def F_Board_all_cells : WF := Classical.choose O_Board_all_cells
theorem F_Board_all_cells_eq : F_Board_all_cells = fnM 1 1 (sRet (wB (bList 207) (aCons (wFld (wV 0) "kept") aNil))) := Classical.choose_spec O_Board_all_cells
theorem O_Board_touches : ∃ f : WF, f = fnM 1 1 (sRet (wFld (wV 0) "counted")) := ⟨_, rfl⟩
noncomputable def F_Board_touches : WF := Classical.choose O_Board_touches
theorem F_Board_touches_eq : F_Board_touches = fnM 1 1 (sRet (wFld (wV 0) "counted")) := Classical.choose_spec O_Board_touches
theorem O_Board_last_touch : ∃ f : WF, f = fnM 1 1 (sRet (wFld (wV 0) "latest")) := ⟨_, rfl⟩
noncomputable def F_Board_last_touch : WF := Classical.choose O_Board_last_touch
theorem F_Board_last_touch_eq : F_Board_last_touch = fnM 1 1 (sRet (wFld (wV 0) "latest")) := Classical.choose_spec O_Board_last_touch
theorem O_thing_cell : ∃ f : WF, f = fnM 1 1 (sRet (wOp (oAdd 0) (wOp (oMul 0) (wC (.int 4)) (wV 0)) (wC (.int 3)))) := ⟨_, rfl⟩
noncomputable def F_thing_cell : WF := Classical.choose O_thing_cell
theorem F_thing_cell_eq : F_thing_cell = fnM 1 1 (sRet (wOp (oAdd 0) (wOp (oMul 0) (wC (.int 4)) (wV 0)) (wC (.int 3)))) := Classical.choose_spec O_thing_cell
theorem O_left_cell : ∃ f : WF, f = fnM 1 1 (sRet (wOp (oAdd 0) (wOp (oMul 0) (wC (.int 4)) (wV 0)) (wC (.int 2)))) := ⟨_, rfl⟩
noncomputable def F_left_cell : WF := Classical.choose O_left_cell
theorem F_left_cell_eq : F_left_cell = fnM 1 1 (sRet (wOp (oAdd 0) (wOp (oMul 0) (wC (.int 4)) (wV 0)) (wC (.int 2)))) := Classical.choose_spec O_left_cell
theorem O_number_cell : ∃ f : WF, f = fnM 1 1 (sRet (wOp (oAdd 0) (wOp (oMul 0) (wC (.int 4)) (wV 0)) (wC (.int 1)))) := ⟨_, rfl⟩
noncomputable def F_number_cell : WF := Classical.choose O_number_cell
theorem F_number_cell_eq : F_number_cell = fnM 1 1 (sRet (wOp (oAdd 0) (wOp (oMul 0) (wC (.int 4)) (wV 0)) (wC (.int 1)))) := Classical.choose_spec O_number_cell
theorem O_mark_cell : ∃ f : WF, f = fnM 1 1 (sRet (wOp (oMul 0) (wC (.int 4)) (wV 0))) := ⟨_, rfl⟩
noncomputable def F_mark_cell : WF := Classical.choose O_mark_cell
theorem F_mark_cell_eq : F_mark_cell = fnM 1 1 (sRet (wOp (oMul 0) (wC (.int 4)) (wV 0))) := Classical.choose_spec O_mark_cell
theorem O_look_at_hand : ∃ f : WF, f = fnM 1 1 (sIf (tV (wOp oNotIn (wV 0) (wC (.tup [.str "giver", .str "taker"])))) (sRaise "NoHand") sNx) := ⟨_, rfl⟩
noncomputable def F_look_at_hand : WF := Classical.choose O_look_at_hand
theorem F_look_at_hand_eq : F_look_at_hand = fnM 1 1 (sIf (tV (wOp oNotIn (wV 0) (wC (.tup [.str "giver", .str "taker"])))) (sRaise "NoHand") sNx) := Classical.choose_spec O_look_at_hand
theorem O_bell_cell : ∃ f : WF, f = fnM 2 2 (sSeq (sEx (wCall F_look_at_size (aCons (wV 0) aNil))) (sSeq (sEx (wCall F_look_at_hand (aCons (wV 1) aNil))) (sRet (wOp (oAdd 0) (wOp (oAdd 0) (wOp (oMul 0) (wC (.int 4)) (wV 0)) (wC (.int 2))) (wTupIx ["giver", "taker"] (wV 1)))))) := ⟨_, rfl⟩
noncomputable def F_bell_cell : WF := Classical.choose O_bell_cell
theorem F_bell_cell_eq : F_bell_cell = fnM 2 2 (sSeq (sEx (wCall F_look_at_size (aCons (wV 0) aNil))) (sSeq (sEx (wCall F_look_at_hand (aCons (wV 1) aNil))) (sRet (wOp (oAdd 0) (wOp (oAdd 0) (wOp (oMul 0) (wC (.int 4)) (wV 0)) (wC (.int 2))) (wTupIx ["giver", "taker"] (wV 1)))))) := Classical.choose_spec O_bell_cell
theorem O_card_cell : ∃ f : WF, f = fnM 2 2 (sSeq (sEx (wCall F_look_at_size (aCons (wV 0) aNil))) (sSeq (sEx (wCall F_look_at_hand (aCons (wV 1) aNil))) (sRet (wOp (oAdd 0) (wOp (oMul 0) (wC (.int 4)) (wV 0)) (wTupIx ["giver", "taker"] (wV 1)))))) := ⟨_, rfl⟩
noncomputable def F_card_cell : WF := Classical.choose O_card_cell
theorem F_card_cell_eq : F_card_cell = fnM 2 2 (sSeq (sEx (wCall F_look_at_size (aCons (wV 0) aNil))) (sSeq (sEx (wCall F_look_at_hand (aCons (wV 1) aNil))) (sRet (wOp (oAdd 0) (wOp (oMul 0) (wC (.int 4)) (wV 0)) (wTupIx ["giver", "taker"] (wV 1)))))) := Classical.choose_spec O_card_cell
theorem O_look_at_order : ∃ f : WF, f = fnM 2 2 (sIf (tOr (tV (wOp oLt (wB bLen (aCons (wV 1) aNil)) (wC (.int 1)))) (tV (wOp oGt (wB bLen (aCons (wV 1) aNil)) (wV 0)))) (sRaise "BadOrder") sNx) := ⟨_, rfl⟩
noncomputable def F_look_at_order : WF := Classical.choose O_look_at_order
theorem F_look_at_order_eq : F_look_at_order = fnM 2 2 (sIf (tOr (tV (wOp oLt (wB bLen (aCons (wV 1) aNil)) (wC (.int 1)))) (tV (wOp oGt (wB bLen (aCons (wV 1) aNil)) (wV 0)))) (sRaise "BadOrder") sNx) := Classical.choose_spec O_look_at_order
theorem O_Hand___init : ∃ f : WF, f = fnM 4 4 (sSeq (sAsg (wV 1) (gFld (wV 0) "board")) (sSeq (sAsg (wV 2) (gFld (wV 0) "name")) (sSeq (sAsg (wV 3) (gFld (wV 0) "other")) (sSeq (sAsg (wC (.str "rouse")) (gFld (wV 0) "here")) (sSeq (sAsg (wC .non) (gFld (wV 0) "spot")) (sAsg (wLst 22 aNil) (gFld (wV 0) "seen"))))))) := ⟨_, rfl⟩
noncomputable def F_Hand___init : WF := Classical.choose O_Hand___init
theorem F_Hand___init_eq : F_Hand___init = fnM 4 4 (sSeq (sAsg (wV 1) (gFld (wV 0) "board")) (sSeq (sAsg (wV 2) (gFld (wV 0) "name")) (sSeq (sAsg (wV 3) (gFld (wV 0) "other")) (sSeq (sAsg (wC (.str "rouse")) (gFld (wV 0) "here")) (sSeq (sAsg (wC .non) (gFld (wV 0) "spot")) (sAsg (wLst 22 aNil) (gFld (wV 0) "seen"))))))) := Classical.choose_spec O_Hand___init
theorem O_Giver___init : ∃ f : WF, f = fnM 3 4 (sSeq (sFor (iSeq (wV 2)) (gN 3) (sEx (wCall F_look_at_order (aCons (wFld (wV 1) "size") (aCons (wV 3) aNil))))) (sSeq (sEx (wCall F_Hand___init (aCons (wV 0) (aCons (wV 1) (aCons (wC (.str "giver")) (aCons (wC (.str "taker")) aNil)))))) (sSeq (sAsg (wComp 21 (iSeq (wV 2)) 3 tYes (wB (bList 26) (aCons (wV 3) aNil))) (gFld (wV 0) "wares")) (sSeq (sAsg (wC (.int 0)) (gFld (wV 0) "at")) (sAsg (wC (.int 0)) (gFld (wV 0) "part")))))) := ⟨_, rfl⟩
noncomputable def F_Giver___init : WF := Classical.choose O_Giver___init
theorem F_Giver___init_eq : F_Giver___init = fnM 3 4 (sSeq (sFor (iSeq (wV 2)) (gN 3) (sEx (wCall F_look_at_order (aCons (wFld (wV 1) "size") (aCons (wV 3) aNil))))) (sSeq (sEx (wCall F_Hand___init (aCons (wV 0) (aCons (wV 1) (aCons (wC (.str "giver")) (aCons (wC (.str "taker")) aNil)))))) (sSeq (sAsg (wComp 21 (iSeq (wV 2)) 3 tYes (wB (bList 26) (aCons (wV 3) aNil))) (gFld (wV 0) "wares")) (sSeq (sAsg (wC (.int 0)) (gFld (wV 0) "at")) (sAsg (wC (.int 0)) (gFld (wV 0) "part")))))) := Classical.choose_spec O_Giver___init
theorem O_Taker___init : ∃ f : WF, f = fnM 3 4 (sSeq (sFor (iSeq (wV 2)) (gN 3) (sEx (wCall F_look_at_order (aCons (wFld (wV 1) "size") (aCons (wV 3) aNil))))) (sSeq (sEx (wCall F_Hand___init (aCons (wV 0) (aCons (wV 1) (aCons (wC (.str "taker")) (aCons (wC (.str "giver")) aNil)))))) (sSeq (sAsg (wComp 23 (iSeq (wV 2)) 3 tYes (wB (bList 26) (aCons (wV 3) aNil))) (gFld (wV 0) "taken")) (sSeq (sAsg (wC .non) (gFld (wV 0) "early")) (sSeq (sAsg (wC (.int 0)) (gFld (wV 0) "number")) (sSeq (sAsg (wC (.int 0)) (gFld (wV 0) "left")) (sAsg (wLst 24 aNil) (gFld (wV 0) "parts")))))))) := ⟨_, rfl⟩
noncomputable def F_Taker___init : WF := Classical.choose O_Taker___init
theorem F_Taker___init_eq : F_Taker___init = fnM 3 4 (sSeq (sFor (iSeq (wV 2)) (gN 3) (sEx (wCall F_look_at_order (aCons (wFld (wV 1) "size") (aCons (wV 3) aNil))))) (sSeq (sEx (wCall F_Hand___init (aCons (wV 0) (aCons (wV 1) (aCons (wC (.str "taker")) (aCons (wC (.str "giver")) aNil)))))) (sSeq (sAsg (wComp 23 (iSeq (wV 2)) 3 tYes (wB (bList 26) (aCons (wV 3) aNil))) (gFld (wV 0) "taken")) (sSeq (sAsg (wC .non) (gFld (wV 0) "early")) (sSeq (sAsg (wC (.int 0)) (gFld (wV 0) "number")) (sSeq (sAsg (wC (.int 0)) (gFld (wV 0) "left")) (sAsg (wLst 24 aNil) (gFld (wV 0) "parts")))))))) := Classical.choose_spec O_Taker___init
theorem O_Lane___init : ∃ f : WF, f = fnM 2 2 (sSeq (sAsg (wMake "Board" 10 F_Board___init (aCons (wV 1) aNil)) (gFld (wV 0) "board")) (sSeq (sAsg (wMake "Giver" 11 F_Giver___init (aCons (wFld (wV 0) "board") (aCons (wLst 25 aNil) aNil))) (gFld (wV 0) "giver")) (sSeq (sAsg (wMake "Taker" 12 F_Taker___init (aCons (wFld (wV 0) "board") (aCons (wLst 25 aNil) aNil))) (gFld (wV 0) "taker")) (sAsg (wLst 25 aNil) (gFld (wV 0) "walked"))))) := ⟨_, rfl⟩
noncomputable def F_Lane___init : WF := Classical.choose O_Lane___init
theorem F_Lane___init_eq : F_Lane___init = fnM 2 2 (sSeq (sAsg (wMake "Board" 10 F_Board___init (aCons (wV 1) aNil)) (gFld (wV 0) "board")) (sSeq (sAsg (wMake "Giver" 11 F_Giver___init (aCons (wFld (wV 0) "board") (aCons (wLst 25 aNil) aNil))) (gFld (wV 0) "giver")) (sSeq (sAsg (wMake "Taker" 12 F_Taker___init (aCons (wFld (wV 0) "board") (aCons (wLst 25 aNil) aNil))) (gFld (wV 0) "taker")) (sAsg (wLst 25 aNil) (gFld (wV 0) "walked"))))) := Classical.choose_spec O_Lane___init
theorem O_Hand_stage : ∃ f : WF, f = fnM 1 1 (sRet (wFld (wV 0) "here")) := ⟨_, rfl⟩
noncomputable def F_Hand_stage : WF := Classical.choose O_Hand_stage
theorem F_Hand_stage_eq : F_Hand_stage = fnM 1 1 (sRet (wFld (wV 0) "here")) := Classical.choose_spec O_Hand_stage
theorem O_Lane_hand_of : ∃ f : WF, f = fnM 2 2 (sSeq (sEx (wCall F_look_at_hand (aCons (wV 1) aNil))) (sSeq (sIf (tV (wOp oEq (wV 1) (wC (.str "giver")))) (sRet (wFld (wV 0) "giver")) sNx) (sRet (wFld (wV 0) "taker")))) := ⟨_, rfl⟩
noncomputable def F_Lane_hand_of : WF := Classical.choose O_Lane_hand_of
theorem F_Lane_hand_of_eq : F_Lane_hand_of = fnM 2 2 (sSeq (sEx (wCall F_look_at_hand (aCons (wV 1) aNil))) (sSeq (sIf (tV (wOp oEq (wV 1) (wC (.str "giver")))) (sRet (wFld (wV 0) "giver")) sNx) (sRet (wFld (wV 0) "taker")))) := Classical.choose_spec O_Lane_hand_of
theorem O_Lane_stage : ∃ f : WF, f = fnM 2 2 (sRet (wMeth (tbO (tb1 "Giver" F_Hand_stage) (tb1 "Taker" F_Hand_stage)) (wMeth (tb1 "Lane" F_Lane_hand_of) (wV 0) (aCons (wV 1) aNil)) aNil)) := ⟨_, rfl⟩
noncomputable def F_Lane_stage : WF := Classical.choose O_Lane_stage
theorem F_Lane_stage_eq : F_Lane_stage = fnM 2 2 (sRet (wMeth (tbO (tb1 "Giver" F_Hand_stage) (tb1 "Taker" F_Hand_stage)) (wMeth (tb1 "Lane" F_Lane_hand_of) (wV 0) (aCons (wV 1) aNil)) aNil)) := Classical.choose_spec O_Lane_stage
theorem O_Hand_turn : ∃ f : WF, f = fnM 1 1 (sRet (wFld (wV 0) "spot")) := ⟨_, rfl⟩
noncomputable def F_Hand_turn : WF := Classical.choose O_Hand_turn
theorem F_Hand_turn_eq : F_Hand_turn = fnM 1 1 (sRet (wFld (wV 0) "spot")) := Classical.choose_spec O_Hand_turn
theorem O_Lane_turn : ∃ f : WF, f = fnM 2 2 (sRet (wMeth (tbO (tb1 "Giver" F_Hand_turn) (tb1 "Taker" F_Hand_turn)) (wMeth (tb1 "Lane" F_Lane_hand_of) (wV 0) (aCons (wV 1) aNil)) aNil)) := ⟨_, rfl⟩
noncomputable def F_Lane_turn : WF := Classical.choose O_Lane_turn
theorem F_Lane_turn_eq : F_Lane_turn = fnM 2 2 (sRet (wMeth (tbO (tb1 "Giver" F_Hand_turn) (tb1 "Taker" F_Hand_turn)) (wMeth (tb1 "Lane" F_Lane_hand_of) (wV 0) (aCons (wV 1) aNil)) aNil)) := Classical.choose_spec O_Lane_turn
theorem O_Giver_rests : ∃ f : WF, f = fnM 1 1 (sRet (wAndV (wOp oEq (wFld (wV 0) "here") (wC (.str "look"))) (wOp oGe (wFld (wV 0) "at") (wB bLen (aCons (wFld (wV 0) "wares") aNil))))) := ⟨_, rfl⟩
noncomputable def F_Giver_rests : WF := Classical.choose O_Giver_rests
theorem F_Giver_rests_eq : F_Giver_rests = fnM 1 1 (sRet (wAndV (wOp oEq (wFld (wV 0) "here") (wC (.str "look"))) (wOp oGe (wFld (wV 0) "at") (wB bLen (aCons (wFld (wV 0) "wares") aNil))))) := Classical.choose_spec O_Giver_rests
theorem O_Board_peek : ∃ f : WF, f = fnM 2 2 (sSeq (sEx (wMeth (tb1 "Board" F_Board_look_at_cell) (wV 0) (aCons (wV 1) aNil))) (sRet (wOp oIx (wFld (wV 0) "kept") (wV 1)))) := ⟨_, rfl⟩
noncomputable def F_Board_peek : WF := Classical.choose O_Board_peek
theorem F_Board_peek_eq : F_Board_peek = fnM 2 2 (sSeq (sEx (wMeth (tb1 "Board" F_Board_look_at_cell) (wV 0) (aCons (wV 1) aNil))) (sRet (wOp oIx (wFld (wV 0) "kept") (wV 1)))) := Classical.choose_spec O_Board_peek
theorem O_Hand_sleeps_on : ∃ f : WF, f = fnM 1 1 (sRet (wAndV (wOp oEq (wFld (wV 0) "here") (wC (.str "sleep"))) (wOp oEq (wMeth (tb1 "Board" F_Board_peek) (wFld (wV 0) "board") (aCons (wCall F_bell_cell (aCons (wFld (wFld (wV 0) "board") "size") (aCons (wFld (wV 0) "name") aNil))) aNil)) (wC (.int 0))))) := ⟨_, rfl⟩
noncomputable def F_Hand_sleeps_on : WF := Classical.choose O_Hand_sleeps_on
theorem F_Hand_sleeps_on_eq : F_Hand_sleeps_on = fnM 1 1 (sRet (wAndV (wOp oEq (wFld (wV 0) "here") (wC (.str "sleep"))) (wOp oEq (wMeth (tb1 "Board" F_Board_peek) (wFld (wV 0) "board") (aCons (wCall F_bell_cell (aCons (wFld (wFld (wV 0) "board") "size") (aCons (wFld (wV 0) "name") aNil))) aNil)) (wC (.int 0))))) := Classical.choose_spec O_Hand_sleeps_on
theorem O_Giver_still : ∃ f : WF, f = fnM 1 1 (sRet (wOrV (wMeth (tb1 "Giver" F_Giver_rests) (wV 0) aNil) (wMeth (tb1 "Giver" F_Hand_sleeps_on) (wV 0) aNil))) := ⟨_, rfl⟩
noncomputable def F_Giver_still : WF := Classical.choose O_Giver_still
theorem F_Giver_still_eq : F_Giver_still = fnM 1 1 (sRet (wOrV (wMeth (tb1 "Giver" F_Giver_rests) (wV 0) aNil) (wMeth (tb1 "Giver" F_Hand_sleeps_on) (wV 0) aNil))) := Classical.choose_spec O_Giver_still
theorem O_Taker_still : ∃ f : WF, f = fnM 1 1 (sRet (wMeth (tb1 "Taker" F_Hand_sleeps_on) (wV 0) aNil)) := ⟨_, rfl⟩
noncomputable def F_Taker_still : WF := Classical.choose O_Taker_still
theorem F_Taker_still_eq : F_Taker_still = fnM 1 1 (sRet (wMeth (tb1 "Taker" F_Hand_sleeps_on) (wV 0) aNil)) := Classical.choose_spec O_Taker_still
theorem O_Lane_quiet : ∃ f : WF, f = fnM 1 1 (sRet (wAndV (wMeth (tb1 "Giver" F_Giver_still) (wFld (wV 0) "giver") aNil) (wMeth (tb1 "Taker" F_Taker_still) (wFld (wV 0) "taker") aNil))) := ⟨_, rfl⟩
noncomputable def F_Lane_quiet : WF := Classical.choose O_Lane_quiet
theorem F_Lane_quiet_eq : F_Lane_quiet = fnM 1 1 (sRet (wAndV (wMeth (tb1 "Giver" F_Giver_still) (wFld (wV 0) "giver") aNil) (wMeth (tb1 "Taker" F_Taker_still) (wFld (wV 0) "taker") aNil))) := Classical.choose_spec O_Lane_quiet
theorem O_Giver_orders : ∃ f : WF, f = fnM 1 2 (sRet (wComp 231 (iSeq (wFld (wV 0) "wares")) 1 tYes (wB (bList 230) (aCons (wV 1) aNil)))) := ⟨_, rfl⟩
noncomputable def F_Giver_orders : WF := Classical.choose O_Giver_orders
theorem F_Giver_orders_eq : F_Giver_orders = fnM 1 2 (sRet (wComp 231 (iSeq (wFld (wV 0) "wares")) 1 tYes (wB (bList 230) (aCons (wV 1) aNil)))) := Classical.choose_spec O_Giver_orders
theorem O_Lane_orders : ∃ f : WF, f = fnM 1 1 (sRet (wMeth (tb1 "Giver" F_Giver_orders) (wFld (wV 0) "giver") aNil)) := ⟨_, rfl⟩
noncomputable def F_Lane_orders : WF := Classical.choose O_Lane_orders
theorem F_Lane_orders_eq : F_Lane_orders = fnM 1 1 (sRet (wMeth (tb1 "Giver" F_Giver_orders) (wFld (wV 0) "giver") aNil)) := Classical.choose_spec O_Lane_orders
theorem O_Taker_book : ∃ f : WF, f = fnM 1 2 (sRet (wComp 233 (iSeq (wFld (wV 0) "taken")) 1 tYes (wB (bList 232) (aCons (wV 1) aNil)))) := ⟨_, rfl⟩
noncomputable def F_Taker_book : WF := Classical.choose O_Taker_book
theorem F_Taker_book_eq : F_Taker_book = fnM 1 2 (sRet (wComp 233 (iSeq (wFld (wV 0) "taken")) 1 tYes (wB (bList 232) (aCons (wV 1) aNil)))) := Classical.choose_spec O_Taker_book
theorem O_Lane_book : ∃ f : WF, f = fnM 1 1 (sRet (wMeth (tb1 "Taker" F_Taker_book) (wFld (wV 0) "taker") aNil)) := ⟨_, rfl⟩
noncomputable def F_Lane_book : WF := Classical.choose O_Lane_book
theorem F_Lane_book_eq : F_Lane_book = fnM 1 1 (sRet (wMeth (tb1 "Taker" F_Taker_book) (wFld (wV 0) "taker") aNil)) := Classical.choose_spec O_Lane_book
theorem O_Lane_trail : ∃ f : WF, f = fnM 1 1 (sRet (wB (bList 234) (aCons (wFld (wV 0) "walked") aNil))) := ⟨_, rfl⟩
noncomputable def F_Lane_trail : WF := Classical.choose O_Lane_trail
theorem F_Lane_trail_eq : F_Lane_trail = fnM 1 1 (sRet (wB (bList 234) (aCons (wFld (wV 0) "walked") aNil))) := Classical.choose_spec O_Lane_trail
theorem O_Lane_cells : ∃ f : WF, f = fnM 1 1 (sRet (wMeth (tb1 "Board" F_Board_all_cells) (wFld (wV 0) "board") aNil)) := ⟨_, rfl⟩
noncomputable def F_Lane_cells : WF := Classical.choose O_Lane_cells
theorem F_Lane_cells_eq : F_Lane_cells = fnM 1 1 (sRet (wMeth (tb1 "Board" F_Board_all_cells) (wFld (wV 0) "board") aNil)) := Classical.choose_spec O_Lane_cells
theorem O_Hand_rise : ∃ f : WF, f = fnM 1 2 (sSeq (sAsg (wFld (wFld (wV 0) "board") "size") (gN 1)) (sSeq (sIf (tV (wOp oEq (wFld (wV 0) "here") (wC (.str "rouse")))) (sSeq (sEx (wMeth (tb1 "Board" F_Board_write) (wFld (wV 0) "board") (aCons (wCall F_bell_cell (aCons (wV 1) (aCons (wFld (wV 0) "other") aNil))) (aCons (wC (.int 1)) aNil)))) (sAsg (wC (.str "clear")) (gFld (wV 0) "here"))) (sIf (tV (wOp oEq (wFld (wV 0) "here") (wC (.str "clear")))) (sSeq (sEx (wMeth (tb1 "Board" F_Board_write) (wFld (wV 0) "board") (aCons (wCall F_card_cell (aCons (wV 1) (aCons (wFld (wV 0) "name") aNil))) (aCons (wUn uNeg (wC (.int 1))) aNil)))) (sAsg (wC (.str "mute")) (gFld (wV 0) "here"))) (sIf (tV (wOp oEq (wFld (wV 0) "here") (wC (.str "mute")))) (sSeq (sEx (wMeth (tb1 "Board" F_Board_write) (wFld (wV 0) "board") (aCons (wCall F_bell_cell (aCons (wV 1) (aCons (wFld (wV 0) "name") aNil))) (aCons (wC (.int 0)) aNil)))) (sAsg (wC (.str "marks")) (gFld (wV 0) "here"))) (sEx (wBM "list" mAppend (wFld (wV 0) "seen") (aCons (wMeth (tb1 "Board" F_Board_read) (wFld (wV 0) "board") (aCons (wCall F_mark_cell (aCons (wB bLen (aCons (wFld (wV 0) "seen") aNil)) aNil)) aNil)) aNil)))))) (sRet (wOp oEq (wB bLen (aCons (wFld (wV 0) "seen") aNil)) (wV 1))))) := ⟨_, rfl⟩
noncomputable def F_Hand_rise : WF := Classical.choose O_Hand_rise
theorem F_Hand_rise_eq : F_Hand_rise = fnM 1 2 (sSeq (sAsg (wFld (wFld (wV 0) "board") "size") (gN 1)) (sSeq (sIf (tV (wOp oEq (wFld (wV 0) "here") (wC (.str "rouse")))) (sSeq (sEx (wMeth (tb1 "Board" F_Board_write) (wFld (wV 0) "board") (aCons (wCall F_bell_cell (aCons (wV 1) (aCons (wFld (wV 0) "other") aNil))) (aCons (wC (.int 1)) aNil)))) (sAsg (wC (.str "clear")) (gFld (wV 0) "here"))) (sIf (tV (wOp oEq (wFld (wV 0) "here") (wC (.str "clear")))) (sSeq (sEx (wMeth (tb1 "Board" F_Board_write) (wFld (wV 0) "board") (aCons (wCall F_card_cell (aCons (wV 1) (aCons (wFld (wV 0) "name") aNil))) (aCons (wUn uNeg (wC (.int 1))) aNil)))) (sAsg (wC (.str "mute")) (gFld (wV 0) "here"))) (sIf (tV (wOp oEq (wFld (wV 0) "here") (wC (.str "mute")))) (sSeq (sEx (wMeth (tb1 "Board" F_Board_write) (wFld (wV 0) "board") (aCons (wCall F_bell_cell (aCons (wV 1) (aCons (wFld (wV 0) "name") aNil))) (aCons (wC (.int 0)) aNil)))) (sAsg (wC (.str "marks")) (gFld (wV 0) "here"))) (sEx (wBM "list" mAppend (wFld (wV 0) "seen") (aCons (wMeth (tb1 "Board" F_Board_read) (wFld (wV 0) "board") (aCons (wCall F_mark_cell (aCons (wB bLen (aCons (wFld (wV 0) "seen") aNil)) aNil)) aNil)) aNil)))))) (sRet (wOp oEq (wB bLen (aCons (wFld (wV 0) "seen") aNil)) (wV 1))))) := Classical.choose_spec O_Hand_rise
theorem O_Taker_may : ∃ f : WF, f = fnM 2 2 (sRet (wCall F_may_take (aCons (wFld (wFld (wV 0) "board") "size") (aCons (wFld (wV 0) "spot") (aCons (wV 1) aNil))))) := ⟨_, rfl⟩
noncomputable def F_Taker_may : WF := Classical.choose O_Taker_may
theorem F_Taker_may_eq : F_Taker_may = fnM 2 2 (sRet (wCall F_may_take (aCons (wFld (wFld (wV 0) "board") "size") (aCons (wFld (wV 0) "spot") (aCons (wV 1) aNil))))) := Classical.choose_spec O_Taker_may
theorem O_Giver_may : ∃ f : WF, f = fnM 2 2 (sRet (wCall F_may_give (aCons (wFld (wFld (wV 0) "board") "size") (aCons (wFld (wV 0) "spot") (aCons (wV 1) aNil))))) := ⟨_, rfl⟩
noncomputable def F_Giver_may : WF := Classical.choose O_Giver_may
theorem F_Giver_may_eq : F_Giver_may = fnM 2 2 (sRet (wCall F_may_give (aCons (wFld (wFld (wV 0) "board") "size") (aCons (wFld (wV 0) "spot") (aCons (wV 1) aNil))))) := Classical.choose_spec O_Giver_may
theorem O_Hand_mark_there : ∃ f : WF, f = fnM 1 1 (sRet (wMeth (tb1 "Board" F_Board_read) (wFld (wV 0) "board") (aCons (wCall F_mark_cell (aCons (wCall F_place_of (aCons (wFld (wFld (wV 0) "board") "size") (aCons (wFld (wV 0) "spot") aNil))) aNil)) aNil))) := ⟨_, rfl⟩
noncomputable def F_Hand_mark_there : WF := Classical.choose O_Hand_mark_there
theorem F_Hand_mark_there_eq : F_Hand_mark_there = fnM 1 1 (sRet (wMeth (tb1 "Board" F_Board_read) (wFld (wV 0) "board") (aCons (wCall F_mark_cell (aCons (wCall F_place_of (aCons (wFld (wFld (wV 0) "board") "size") (aCons (wFld (wV 0) "spot") aNil))) aNil)) aNil))) := Classical.choose_spec O_Hand_mark_there
theorem O_Hand_wait : ∃ f : WF, f = fnM 1 2 (sSeq (sAsg (wFld (wFld (wV 0) "board") "size") (gN 1)) (sIf (tV (wOp oEq (wFld (wV 0) "here") (wC (.str "wish")))) (sSeq (sEx (wMeth (tb1 "Board" F_Board_write) (wFld (wV 0) "board") (aCons (wCall F_card_cell (aCons (wV 1) (aCons (wFld (wV 0) "name") aNil))) (aCons (wFld (wV 0) "spot") aNil)))) (sAsg (wC (.str "again")) (gFld (wV 0) "here"))) (sIf (tV (wOp oEq (wFld (wV 0) "here") (wC (.str "again")))) (sAsg (wIf (tTru (wMeth (tbO (tb1 "Giver" F_Giver_may) (tb1 "Taker" F_Taker_may)) (wV 0) (aCons (wMeth (tbO (tb1 "Giver" F_Hand_mark_there) (tb1 "Taker" F_Hand_mark_there)) (wV 0) aNil) aNil))) (wC (.str "unwish")) (wC (.str "sleep"))) (gFld (wV 0) "here")) (sIf (tV (wOp oEq (wFld (wV 0) "here") (wC (.str "sleep")))) (sIf (tV (wOp oNe (wMeth (tb1 "Board" F_Board_read) (wFld (wV 0) "board") (aCons (wCall F_bell_cell (aCons (wV 1) (aCons (wFld (wV 0) "name") aNil))) aNil)) (wC (.int 0)))) (sAsg (wC (.str "hush")) (gFld (wV 0) "here")) sNx) (sIf (tV (wOp oEq (wFld (wV 0) "here") (wC (.str "hush")))) (sSeq (sEx (wMeth (tb1 "Board" F_Board_write) (wFld (wV 0) "board") (aCons (wCall F_bell_cell (aCons (wV 1) (aCons (wFld (wV 0) "name") aNil))) (aCons (wC (.int 0)) aNil)))) (sAsg (wC (.str "unwish")) (gFld (wV 0) "here"))) (sSeq (sEx (wMeth (tb1 "Board" F_Board_write) (wFld (wV 0) "board") (aCons (wCall F_card_cell (aCons (wV 1) (aCons (wFld (wV 0) "name") aNil))) (aCons (wUn uNeg (wC (.int 1))) aNil)))) (sAsg (wC (.str "look")) (gFld (wV 0) "here")))))))) := ⟨_, rfl⟩
noncomputable def F_Hand_wait : WF := Classical.choose O_Hand_wait
theorem F_Hand_wait_eq : F_Hand_wait = fnM 1 2 (sSeq (sAsg (wFld (wFld (wV 0) "board") "size") (gN 1)) (sIf (tV (wOp oEq (wFld (wV 0) "here") (wC (.str "wish")))) (sSeq (sEx (wMeth (tb1 "Board" F_Board_write) (wFld (wV 0) "board") (aCons (wCall F_card_cell (aCons (wV 1) (aCons (wFld (wV 0) "name") aNil))) (aCons (wFld (wV 0) "spot") aNil)))) (sAsg (wC (.str "again")) (gFld (wV 0) "here"))) (sIf (tV (wOp oEq (wFld (wV 0) "here") (wC (.str "again")))) (sAsg (wIf (tTru (wMeth (tbO (tb1 "Giver" F_Giver_may) (tb1 "Taker" F_Taker_may)) (wV 0) (aCons (wMeth (tbO (tb1 "Giver" F_Hand_mark_there) (tb1 "Taker" F_Hand_mark_there)) (wV 0) aNil) aNil))) (wC (.str "unwish")) (wC (.str "sleep"))) (gFld (wV 0) "here")) (sIf (tV (wOp oEq (wFld (wV 0) "here") (wC (.str "sleep")))) (sIf (tV (wOp oNe (wMeth (tb1 "Board" F_Board_read) (wFld (wV 0) "board") (aCons (wCall F_bell_cell (aCons (wV 1) (aCons (wFld (wV 0) "name") aNil))) aNil)) (wC (.int 0)))) (sAsg (wC (.str "hush")) (gFld (wV 0) "here")) sNx) (sIf (tV (wOp oEq (wFld (wV 0) "here") (wC (.str "hush")))) (sSeq (sEx (wMeth (tb1 "Board" F_Board_write) (wFld (wV 0) "board") (aCons (wCall F_bell_cell (aCons (wV 1) (aCons (wFld (wV 0) "name") aNil))) (aCons (wC (.int 0)) aNil)))) (sAsg (wC (.str "unwish")) (gFld (wV 0) "here"))) (sSeq (sEx (wMeth (tb1 "Board" F_Board_write) (wFld (wV 0) "board") (aCons (wCall F_card_cell (aCons (wV 1) (aCons (wFld (wV 0) "name") aNil))) (aCons (wUn uNeg (wC (.int 1))) aNil)))) (sAsg (wC (.str "look")) (gFld (wV 0) "here")))))))) := Classical.choose_spec O_Hand_wait
theorem O_Taker_freed : ∃ f : WF, f = fnM 1 2 (sSeq (sAsg (wOp oEq (wFld (wV 0) "early") (wFld (wV 0) "spot")) (gN 1)) (sSeq (sAsg (wCall F_onward (aCons (wFld (wFld (wV 0) "board") "size") (aCons (wFld (wV 0) "early") (aCons (wC (.int 1)) aNil)))) (gFld (wV 0) "early")) (sSeq (sAsg (wC (.str "free")) (gFld (wV 0) "here")) (sIf (tTru (wV 1)) (sSeq (sAsg (wFld (wV 0) "early") (gFld (wV 0) "spot")) (sSeq (sAsg (wLst 24 aNil) (gFld (wV 0) "parts")) (sAsg (wC (.str "look")) (gFld (wV 0) "here")))) sNx)))) := ⟨_, rfl⟩
noncomputable def F_Taker_freed : WF := Classical.choose O_Taker_freed
theorem F_Taker_freed_eq : F_Taker_freed = fnM 1 2 (sSeq (sAsg (wOp oEq (wFld (wV 0) "early") (wFld (wV 0) "spot")) (gN 1)) (sSeq (sAsg (wCall F_onward (aCons (wFld (wFld (wV 0) "board") "size") (aCons (wFld (wV 0) "early") (aCons (wC (.int 1)) aNil)))) (gFld (wV 0) "early")) (sSeq (sAsg (wC (.str "free")) (gFld (wV 0) "here")) (sIf (tTru (wV 1)) (sSeq (sAsg (wFld (wV 0) "early") (gFld (wV 0) "spot")) (sSeq (sAsg (wLst 24 aNil) (gFld (wV 0) "parts")) (sAsg (wC (.str "look")) (gFld (wV 0) "here")))) sNx)))) := Classical.choose_spec O_Taker_freed
theorem O_Taker_release : ∃ f : WF, f = fnM 1 2 (sSeq (sAsg (wFld (wFld (wV 0) "board") "size") (gN 1)) (sIf (tV (wOp oEq (wFld (wV 0) "here") (wC (.str "free")))) (sSeq (sEx (wMeth (tb1 "Board" F_Board_write) (wFld (wV 0) "board") (aCons (wCall F_mark_cell (aCons (wCall F_place_of (aCons (wV 1) (aCons (wFld (wV 0) "early") aNil))) aNil)) (aCons (wCall F_free_mark (aCons (wV 1) (aCons (wFld (wV 0) "early") aNil))) aNil)))) (sAsg (wC (.str "card")) (gFld (wV 0) "here"))) (sIf (tV (wOp oEq (wFld (wV 0) "here") (wC (.str "ring")))) (sSeq (sEx (wMeth (tb1 "Board" F_Board_write) (wFld (wV 0) "board") (aCons (wCall F_bell_cell (aCons (wV 1) (aCons (wC (.str "giver")) aNil))) (aCons (wC (.int 1)) aNil)))) (sEx (wMeth (tb1 "Taker" F_Taker_freed) (wV 0) aNil))) (sIf (tV (wOp oEq (wMeth (tb1 "Board" F_Board_read) (wFld (wV 0) "board") (aCons (wCall F_card_cell (aCons (wV 1) (aCons (wC (.str "giver")) aNil))) aNil)) (wCall F_onward (aCons (wV 1) (aCons (wFld (wV 0) "early") (aCons (wV 1) aNil)))))) (sAsg (wC (.str "ring")) (gFld (wV 0) "here")) (sEx (wMeth (tb1 "Taker" F_Taker_freed) (wV 0) aNil)))))) := ⟨_, rfl⟩
noncomputable def F_Taker_release : WF := Classical.choose O_Taker_release
theorem F_Taker_release_eq : F_Taker_release = fnM 1 2 (sSeq (sAsg (wFld (wFld (wV 0) "board") "size") (gN 1)) (sIf (tV (wOp oEq (wFld (wV 0) "here") (wC (.str "free")))) (sSeq (sEx (wMeth (tb1 "Board" F_Board_write) (wFld (wV 0) "board") (aCons (wCall F_mark_cell (aCons (wCall F_place_of (aCons (wV 1) (aCons (wFld (wV 0) "early") aNil))) aNil)) (aCons (wCall F_free_mark (aCons (wV 1) (aCons (wFld (wV 0) "early") aNil))) aNil)))) (sAsg (wC (.str "card")) (gFld (wV 0) "here"))) (sIf (tV (wOp oEq (wFld (wV 0) "here") (wC (.str "ring")))) (sSeq (sEx (wMeth (tb1 "Board" F_Board_write) (wFld (wV 0) "board") (aCons (wCall F_bell_cell (aCons (wV 1) (aCons (wC (.str "giver")) aNil))) (aCons (wC (.int 1)) aNil)))) (sEx (wMeth (tb1 "Taker" F_Taker_freed) (wV 0) aNil))) (sIf (tV (wOp oEq (wMeth (tb1 "Board" F_Board_read) (wFld (wV 0) "board") (aCons (wCall F_card_cell (aCons (wV 1) (aCons (wC (.str "giver")) aNil))) aNil)) (wCall F_onward (aCons (wV 1) (aCons (wFld (wV 0) "early") (aCons (wV 1) aNil)))))) (sAsg (wC (.str "ring")) (gFld (wV 0) "here")) (sEx (wMeth (tb1 "Taker" F_Taker_freed) (wV 0) aNil)))))) := Classical.choose_spec O_Taker_release
theorem O_Taker_put_down : ∃ f : WF, f = fnM 1 1 (sSeq (sAsg (wC (.str "free")) (gFld (wV 0) "here")) (sIf (tV (wOp oEq (wFld (wV 0) "number") (wB bLen (aCons (wFld (wV 0) "taken") aNil)))) (sEx (wBM "list" mAppend (wFld (wV 0) "taken") (aCons (wB (bList 26) (aCons (wFld (wV 0) "parts") aNil)) aNil))) sNx)) := ⟨_, rfl⟩
noncomputable def F_Taker_put_down : WF := Classical.choose O_Taker_put_down
theorem F_Taker_put_down_eq : F_Taker_put_down = fnM 1 1 (sSeq (sAsg (wC (.str "free")) (gFld (wV 0) "here")) (sIf (tV (wOp oEq (wFld (wV 0) "number") (wB bLen (aCons (wFld (wV 0) "taken") aNil)))) (sEx (wBM "list" mAppend (wFld (wV 0) "taken") (aCons (wB (bList 26) (aCons (wFld (wV 0) "parts") aNil)) aNil))) sNx)) := Classical.choose_spec O_Taker_put_down
theorem O_Taker_take : ∃ f : WF, f = fnM 1 3 (sSeq (sAsg (wFld (wFld (wV 0) "board") "size") (gN 1)) (sSeq (sAsg (wCall F_place_of (aCons (wV 1) (aCons (wFld (wV 0) "spot") aNil))) (gN 2)) (sIf (tV (wOp oEq (wFld (wV 0) "here") (wC (.str "look")))) (sAsg (wIf (tTru (wMeth (tb1 "Taker" F_Taker_may) (wV 0) (aCons (wMeth (tb1 "Taker" F_Hand_mark_there) (wV 0) aNil) aNil))) (wC (.str "number")) (wC (.str "wish"))) (gFld (wV 0) "here")) (sIf (tV (wOp oEq (wFld (wV 0) "here") (wC (.str "number")))) (sSeq (sAsg (wMeth (tb1 "Board" F_Board_read) (wFld (wV 0) "board") (aCons (wCall F_number_cell (aCons (wV 2) aNil)) aNil)) (gFld (wV 0) "number")) (sAsg (wC (.str "left")) (gFld (wV 0) "here"))) (sIf (tV (wOp oEq (wFld (wV 0) "here") (wC (.str "left")))) (sSeq (sAsg (wMeth (tb1 "Board" F_Board_read) (wFld (wV 0) "board") (aCons (wCall F_left_cell (aCons (wV 2) aNil)) aNil)) (gFld (wV 0) "left")) (sAsg (wC (.str "thing")) (gFld (wV 0) "here"))) (sSeq (sEx (wBM "list" mAppend (wFld (wV 0) "parts") (aCons (wMeth (tb1 "Board" F_Board_read) (wFld (wV 0) "board") (aCons (wCall F_thing_cell (aCons (wV 2) aNil)) aNil)) aNil))) (sIf (tV (wOp oGt (wFld (wV 0) "left") (wC (.int 0)))) (sSeq (sAsg (wCall F_onward (aCons (wV 1) (aCons (wFld (wV 0) "spot") (aCons (wC (.int 1)) aNil)))) (gFld (wV 0) "spot")) (sAsg (wC (.str "look")) (gFld (wV 0) "here"))) (sEx (wMeth (tb1 "Taker" F_Taker_put_down) (wV 0) aNil))))))))) := ⟨_, rfl⟩
noncomputable def F_Taker_take : WF := Classical.choose O_Taker_take
theorem F_Taker_take_eq : F_Taker_take = fnM 1 3 (sSeq (sAsg (wFld (wFld (wV 0) "board") "size") (gN 1)) (sSeq (sAsg (wCall F_place_of (aCons (wV 1) (aCons (wFld (wV 0) "spot") aNil))) (gN 2)) (sIf (tV (wOp oEq (wFld (wV 0) "here") (wC (.str "look")))) (sAsg (wIf (tTru (wMeth (tb1 "Taker" F_Taker_may) (wV 0) (aCons (wMeth (tb1 "Taker" F_Hand_mark_there) (wV 0) aNil) aNil))) (wC (.str "number")) (wC (.str "wish"))) (gFld (wV 0) "here")) (sIf (tV (wOp oEq (wFld (wV 0) "here") (wC (.str "number")))) (sSeq (sAsg (wMeth (tb1 "Board" F_Board_read) (wFld (wV 0) "board") (aCons (wCall F_number_cell (aCons (wV 2) aNil)) aNil)) (gFld (wV 0) "number")) (sAsg (wC (.str "left")) (gFld (wV 0) "here"))) (sIf (tV (wOp oEq (wFld (wV 0) "here") (wC (.str "left")))) (sSeq (sAsg (wMeth (tb1 "Board" F_Board_read) (wFld (wV 0) "board") (aCons (wCall F_left_cell (aCons (wV 2) aNil)) aNil)) (gFld (wV 0) "left")) (sAsg (wC (.str "thing")) (gFld (wV 0) "here"))) (sSeq (sEx (wBM "list" mAppend (wFld (wV 0) "parts") (aCons (wMeth (tb1 "Board" F_Board_read) (wFld (wV 0) "board") (aCons (wCall F_thing_cell (aCons (wV 2) aNil)) aNil)) aNil))) (sIf (tV (wOp oGt (wFld (wV 0) "left") (wC (.int 0)))) (sSeq (sAsg (wCall F_onward (aCons (wV 1) (aCons (wFld (wV 0) "spot") (aCons (wC (.int 1)) aNil)))) (gFld (wV 0) "spot")) (sAsg (wC (.str "look")) (gFld (wV 0) "here"))) (sEx (wMeth (tb1 "Taker" F_Taker_put_down) (wV 0) aNil))))))))) := Classical.choose_spec O_Taker_take
theorem O_Taker_step : ∃ f : WF, f = fnM 1 1 (sSeq (sIf (tV (wOp oIn (wFld (wV 0) "here") (wC (.tup [.str "rouse", .str "clear", .str "mute", .str "marks"])))) (sIf (tTru (wMeth (tb1 "Taker" F_Hand_rise) (wV 0) aNil)) (sSeq (sAsg (wCall F_taker_turn (aCons (wFld (wV 0) "seen") aNil)) (gFld (wV 0) "spot")) (sSeq (sAsg (wFld (wV 0) "spot") (gFld (wV 0) "early")) (sAsg (wC (.str "look")) (gFld (wV 0) "here")))) sNx) (sIf (tV (wOp oIn (wFld (wV 0) "here") (wC (.tup [.str "wish", .str "again", .str "sleep", .str "hush", .str "unwish"])))) (sEx (wMeth (tb1 "Taker" F_Hand_wait) (wV 0) aNil)) (sIf (tOr (tV (wOp oEq (wFld (wV 0) "here") (wC (.str "free")))) (tOr (tV (wOp oEq (wFld (wV 0) "here") (wC (.str "card")))) (tV (wOp oEq (wFld (wV 0) "here") (wC (.str "ring")))))) (sEx (wMeth (tb1 "Taker" F_Taker_release) (wV 0) aNil)) (sEx (wMeth (tb1 "Taker" F_Taker_take) (wV 0) aNil))))) (sRet (wC (.bl true)))) := ⟨_, rfl⟩
noncomputable def F_Taker_step : WF := Classical.choose O_Taker_step
theorem F_Taker_step_eq : F_Taker_step = fnM 1 1 (sSeq (sIf (tV (wOp oIn (wFld (wV 0) "here") (wC (.tup [.str "rouse", .str "clear", .str "mute", .str "marks"])))) (sIf (tTru (wMeth (tb1 "Taker" F_Hand_rise) (wV 0) aNil)) (sSeq (sAsg (wCall F_taker_turn (aCons (wFld (wV 0) "seen") aNil)) (gFld (wV 0) "spot")) (sSeq (sAsg (wFld (wV 0) "spot") (gFld (wV 0) "early")) (sAsg (wC (.str "look")) (gFld (wV 0) "here")))) sNx) (sIf (tV (wOp oIn (wFld (wV 0) "here") (wC (.tup [.str "wish", .str "again", .str "sleep", .str "hush", .str "unwish"])))) (sEx (wMeth (tb1 "Taker" F_Hand_wait) (wV 0) aNil)) (sIf (tOr (tV (wOp oEq (wFld (wV 0) "here") (wC (.str "free")))) (tOr (tV (wOp oEq (wFld (wV 0) "here") (wC (.str "card")))) (tV (wOp oEq (wFld (wV 0) "here") (wC (.str "ring")))))) (sEx (wMeth (tb1 "Taker" F_Taker_release) (wV 0) aNil)) (sEx (wMeth (tb1 "Taker" F_Taker_take) (wV 0) aNil))))) (sRet (wC (.bl true)))) := Classical.choose_spec O_Taker_step
theorem O_Giver_remember : ∃ f : WF, f = fnM 1 4 (sSeq (sAsg (wFld (wFld (wV 0) "board") "size") (gN 1)) (sSeq (sAsg (wCall F_place_of (aCons (wV 1) (aCons (wCall F_onward (aCons (wV 1) (aCons (wFld (wV 0) "spot") (aCons (wUn uNeg (wC (.int 1))) aNil)))) aNil))) (gN 2)) (sIf (tV (wOp oEq (wFld (wV 0) "here") (wC (.str "told")))) (sSeq (sAsg (wMeth (tb1 "Board" F_Board_read) (wFld (wV 0) "board") (aCons (wCall F_number_cell (aCons (wV 2) aNil)) aNil)) (gFld (wV 0) "at")) (sAsg (wC (.str "lacks")) (gFld (wV 0) "here"))) (sSeq (sAsg (wMeth (tb1 "Board" F_Board_read) (wFld (wV 0) "board") (aCons (wCall F_left_cell (aCons (wV 2) aNil)) aNil)) (gN 3)) (sSeq (sAsg (wC (.str "look")) (gFld (wV 0) "here")) (sSeq (sAsg (wC (.int 0)) (gFld (wV 0) "part")) (sIf (tAnd (tV (wOp oGe (wFld (wV 0) "at") (wC (.int 0)))) (tV (wOp oGt (wV 3) (wC (.int 0))))) (sAsg (wOp oSub (wB bLen (aCons (wOp oIx (wFld (wV 0) "wares") (wFld (wV 0) "at")) aNil)) (wV 3)) (gFld (wV 0) "part")) (sAsg (wOp (oAdd 0) (wFld (wV 0) "at") (wC (.int 1))) (gFld (wV 0) "at"))))))))) := ⟨_, rfl⟩
noncomputable def F_Giver_remember : WF := Classical.choose O_Giver_remember
theorem F_Giver_remember_eq : F_Giver_remember = fnM 1 4 (sSeq (sAsg (wFld (wFld (wV 0) "board") "size") (gN 1)) (sSeq (sAsg (wCall F_place_of (aCons (wV 1) (aCons (wCall F_onward (aCons (wV 1) (aCons (wFld (wV 0) "spot") (aCons (wUn uNeg (wC (.int 1))) aNil)))) aNil))) (gN 2)) (sIf (tV (wOp oEq (wFld (wV 0) "here") (wC (.str "told")))) (sSeq (sAsg (wMeth (tb1 "Board" F_Board_read) (wFld (wV 0) "board") (aCons (wCall F_number_cell (aCons (wV 2) aNil)) aNil)) (gFld (wV 0) "at")) (sAsg (wC (.str "lacks")) (gFld (wV 0) "here"))) (sSeq (sAsg (wMeth (tb1 "Board" F_Board_read) (wFld (wV 0) "board") (aCons (wCall F_left_cell (aCons (wV 2) aNil)) aNil)) (gN 3)) (sSeq (sAsg (wC (.str "look")) (gFld (wV 0) "here")) (sSeq (sAsg (wC (.int 0)) (gFld (wV 0) "part")) (sIf (tAnd (tV (wOp oGe (wFld (wV 0) "at") (wC (.int 0)))) (tV (wOp oGt (wV 3) (wC (.int 0))))) (sAsg (wOp oSub (wB bLen (aCons (wOp oIx (wFld (wV 0) "wares") (wFld (wV 0) "at")) aNil)) (wV 3)) (gFld (wV 0) "part")) (sAsg (wOp (oAdd 0) (wFld (wV 0) "at") (wC (.int 1))) (gFld (wV 0) "at"))))))))) := Classical.choose_spec O_Giver_remember
theorem O_Giver_go_on : ∃ f : WF, f = fnM 1 1 (sSeq (sAsg (wC (.str "look")) (gFld (wV 0) "here")) (sSeq (sAsg (wCall F_onward (aCons (wFld (wFld (wV 0) "board") "size") (aCons (wFld (wV 0) "spot") (aCons (wC (.int 1)) aNil)))) (gFld (wV 0) "spot")) (sSeq (sAsg (wOp (oAdd 0) (wFld (wV 0) "part") (wC (.int 1))) (gFld (wV 0) "part")) (sIf (tV (wOp oEq (wFld (wV 0) "part") (wB bLen (aCons (wOp oIx (wFld (wV 0) "wares") (wFld (wV 0) "at")) aNil)))) (sSeq (sAsg (wOp (oAdd 0) (wFld (wV 0) "at") (wC (.int 1))) (gFld (wV 0) "at")) (sAsg (wC (.int 0)) (gFld (wV 0) "part"))) sNx)))) := ⟨_, rfl⟩
noncomputable def F_Giver_go_on : WF := Classical.choose O_Giver_go_on
theorem F_Giver_go_on_eq : F_Giver_go_on = fnM 1 1 (sSeq (sAsg (wC (.str "look")) (gFld (wV 0) "here")) (sSeq (sAsg (wCall F_onward (aCons (wFld (wFld (wV 0) "board") "size") (aCons (wFld (wV 0) "spot") (aCons (wC (.int 1)) aNil)))) (gFld (wV 0) "spot")) (sSeq (sAsg (wOp (oAdd 0) (wFld (wV 0) "part") (wC (.int 1))) (gFld (wV 0) "part")) (sIf (tV (wOp oEq (wFld (wV 0) "part") (wB bLen (aCons (wOp oIx (wFld (wV 0) "wares") (wFld (wV 0) "at")) aNil)))) (sSeq (sAsg (wOp (oAdd 0) (wFld (wV 0) "at") (wC (.int 1))) (gFld (wV 0) "at")) (sAsg (wC (.int 0)) (gFld (wV 0) "part"))) sNx)))) := Classical.choose_spec O_Giver_go_on
theorem O_Giver_give : ∃ f : WF, f = fnM 1 4 (sSeq (sAsg (wFld (wFld (wV 0) "board") "size") (gN 1)) (sSeq (sAsg (wCall F_place_of (aCons (wV 1) (aCons (wFld (wV 0) "spot") aNil))) (gN 2)) (sSeq (sAsg (wOp oIx (wFld (wV 0) "wares") (wFld (wV 0) "at")) (gN 3)) (sIf (tV (wOp oEq (wFld (wV 0) "here") (wC (.str "look")))) (sAsg (wIf (tTru (wMeth (tb1 "Giver" F_Giver_may) (wV 0) (aCons (wMeth (tb1 "Giver" F_Hand_mark_there) (wV 0) aNil) aNil))) (wC (.str "number")) (wC (.str "wish"))) (gFld (wV 0) "here")) (sIf (tV (wOp oEq (wFld (wV 0) "here") (wC (.str "number")))) (sSeq (sEx (wMeth (tb1 "Board" F_Board_write) (wFld (wV 0) "board") (aCons (wCall F_number_cell (aCons (wV 2) aNil)) (aCons (wFld (wV 0) "at") aNil)))) (sAsg (wC (.str "left")) (gFld (wV 0) "here"))) (sIf (tV (wOp oEq (wFld (wV 0) "here") (wC (.str "left")))) (sSeq (sEx (wMeth (tb1 "Board" F_Board_write) (wFld (wV 0) "board") (aCons (wCall F_left_cell (aCons (wV 2) aNil)) (aCons (wOp oSub (wOp oSub (wB bLen (aCons (wV 3) aNil)) (wC (.int 1))) (wFld (wV 0) "part")) aNil)))) (sAsg (wC (.str "thing")) (gFld (wV 0) "here"))) (sIf (tV (wOp oEq (wFld (wV 0) "here") (wC (.str "thing")))) (sSeq (sEx (wMeth (tb1 "Board" F_Board_write) (wFld (wV 0) "board") (aCons (wCall F_thing_cell (aCons (wV 2) aNil)) (aCons (wOp oIx (wV 3) (wFld (wV 0) "part")) aNil)))) (sAsg (wC (.str "mark")) (gFld (wV 0) "here"))) (sIf (tV (wOp oEq (wFld (wV 0) "here") (wC (.str "mark")))) (sSeq (sEx (wMeth (tb1 "Board" F_Board_write) (wFld (wV 0) "board") (aCons (wCall F_mark_cell (aCons (wV 2) aNil)) (aCons (wCall F_full_mark (aCons (wV 1) (aCons (wFld (wV 0) "spot") aNil))) aNil)))) (sAsg (wC (.str "card")) (gFld (wV 0) "here"))) (sIf (tAnd (tV (wOp oEq (wFld (wV 0) "here") (wC (.str "card")))) (tV (wOp oEq (wMeth (tb1 "Board" F_Board_read) (wFld (wV 0) "board") (aCons (wCall F_card_cell (aCons (wV 1) (aCons (wC (.str "taker")) aNil))) aNil)) (wFld (wV 0) "spot")))) (sAsg (wC (.str "ring")) (gFld (wV 0) "here")) (sIf (tV (wOp oEq (wFld (wV 0) "here") (wC (.str "ring")))) (sSeq (sEx (wMeth (tb1 "Board" F_Board_write) (wFld (wV 0) "board") (aCons (wCall F_bell_cell (aCons (wV 1) (aCons (wC (.str "taker")) aNil))) (aCons (wC (.int 1)) aNil)))) (sEx (wMeth (tb1 "Giver" F_Giver_go_on) (wV 0) aNil))) (sEx (wMeth (tb1 "Giver" F_Giver_go_on) (wV 0) aNil)))))))))))) := ⟨_, rfl⟩
noncomputable def F_Giver_give : WF := Classical.choose O_Giver_give
theorem F_Giver_give_eq : F_Giver_give = fnM 1 4 (sSeq (sAsg (wFld (wFld (wV 0) "board") "size") (gN 1)) (sSeq (sAsg (wCall F_place_of (aCons (wV 1) (aCons (wFld (wV 0) "spot") aNil))) (gN 2)) (sSeq (sAsg (wOp oIx (wFld (wV 0) "wares") (wFld (wV 0) "at")) (gN 3)) (sIf (tV (wOp oEq (wFld (wV 0) "here") (wC (.str "look")))) (sAsg (wIf (tTru (wMeth (tb1 "Giver" F_Giver_may) (wV 0) (aCons (wMeth (tb1 "Giver" F_Hand_mark_there) (wV 0) aNil) aNil))) (wC (.str "number")) (wC (.str "wish"))) (gFld (wV 0) "here")) (sIf (tV (wOp oEq (wFld (wV 0) "here") (wC (.str "number")))) (sSeq (sEx (wMeth (tb1 "Board" F_Board_write) (wFld (wV 0) "board") (aCons (wCall F_number_cell (aCons (wV 2) aNil)) (aCons (wFld (wV 0) "at") aNil)))) (sAsg (wC (.str "left")) (gFld (wV 0) "here"))) (sIf (tV (wOp oEq (wFld (wV 0) "here") (wC (.str "left")))) (sSeq (sEx (wMeth (tb1 "Board" F_Board_write) (wFld (wV 0) "board") (aCons (wCall F_left_cell (aCons (wV 2) aNil)) (aCons (wOp oSub (wOp oSub (wB bLen (aCons (wV 3) aNil)) (wC (.int 1))) (wFld (wV 0) "part")) aNil)))) (sAsg (wC (.str "thing")) (gFld (wV 0) "here"))) (sIf (tV (wOp oEq (wFld (wV 0) "here") (wC (.str "thing")))) (sSeq (sEx (wMeth (tb1 "Board" F_Board_write) (wFld (wV 0) "board") (aCons (wCall F_thing_cell (aCons (wV 2) aNil)) (aCons (wOp oIx (wV 3) (wFld (wV 0) "part")) aNil)))) (sAsg (wC (.str "mark")) (gFld (wV 0) "here"))) (sIf (tV (wOp oEq (wFld (wV 0) "here") (wC (.str "mark")))) (sSeq (sEx (wMeth (tb1 "Board" F_Board_write) (wFld (wV 0) "board") (aCons (wCall F_mark_cell (aCons (wV 2) aNil)) (aCons (wCall F_full_mark (aCons (wV 1) (aCons (wFld (wV 0) "spot") aNil))) aNil)))) (sAsg (wC (.str "card")) (gFld (wV 0) "here"))) (sIf (tAnd (tV (wOp oEq (wFld (wV 0) "here") (wC (.str "card")))) (tV (wOp oEq (wMeth (tb1 "Board" F_Board_read) (wFld (wV 0) "board") (aCons (wCall F_card_cell (aCons (wV 1) (aCons (wC (.str "taker")) aNil))) aNil)) (wFld (wV 0) "spot")))) (sAsg (wC (.str "ring")) (gFld (wV 0) "here")) (sIf (tV (wOp oEq (wFld (wV 0) "here") (wC (.str "ring")))) (sSeq (sEx (wMeth (tb1 "Board" F_Board_write) (wFld (wV 0) "board") (aCons (wCall F_bell_cell (aCons (wV 1) (aCons (wC (.str "taker")) aNil))) (aCons (wC (.int 1)) aNil)))) (sEx (wMeth (tb1 "Giver" F_Giver_go_on) (wV 0) aNil))) (sEx (wMeth (tb1 "Giver" F_Giver_go_on) (wV 0) aNil)))))))))))) := Classical.choose_spec O_Giver_give
theorem O_Giver_step : ∃ f : WF, f = fnM 1 1 (sSeq (sIf (tTru (wMeth (tb1 "Giver" F_Giver_rests) (wV 0) aNil)) (sRet (wC (.bl false))) sNx) (sSeq (sIf (tV (wOp oIn (wFld (wV 0) "here") (wC (.tup [.str "rouse", .str "clear", .str "mute", .str "marks"])))) (sIf (tTru (wMeth (tb1 "Giver" F_Hand_rise) (wV 0) aNil)) (sSeq (sAsg (wCall F_giver_turn (aCons (wFld (wV 0) "seen") aNil)) (gFld (wV 0) "spot")) (sAsg (wC (.str "told")) (gFld (wV 0) "here"))) sNx) (sIf (tV (wOp oIn (wFld (wV 0) "here") (wC (.tup [.str "wish", .str "again", .str "sleep", .str "hush", .str "unwish"])))) (sEx (wMeth (tb1 "Giver" F_Hand_wait) (wV 0) aNil)) (sIf (tOr (tV (wOp oEq (wFld (wV 0) "here") (wC (.str "told")))) (tV (wOp oEq (wFld (wV 0) "here") (wC (.str "lacks"))))) (sEx (wMeth (tb1 "Giver" F_Giver_remember) (wV 0) aNil)) (sEx (wMeth (tb1 "Giver" F_Giver_give) (wV 0) aNil))))) (sRet (wC (.bl true))))) := ⟨_, rfl⟩
noncomputable def F_Giver_step : WF := Classical.choose O_Giver_step
theorem F_Giver_step_eq : F_Giver_step = fnM 1 1 (sSeq (sIf (tTru (wMeth (tb1 "Giver" F_Giver_rests) (wV 0) aNil)) (sRet (wC (.bl false))) sNx) (sSeq (sIf (tV (wOp oIn (wFld (wV 0) "here") (wC (.tup [.str "rouse", .str "clear", .str "mute", .str "marks"])))) (sIf (tTru (wMeth (tb1 "Giver" F_Hand_rise) (wV 0) aNil)) (sSeq (sAsg (wCall F_giver_turn (aCons (wFld (wV 0) "seen") aNil)) (gFld (wV 0) "spot")) (sAsg (wC (.str "told")) (gFld (wV 0) "here"))) sNx) (sIf (tV (wOp oIn (wFld (wV 0) "here") (wC (.tup [.str "wish", .str "again", .str "sleep", .str "hush", .str "unwish"])))) (sEx (wMeth (tb1 "Giver" F_Hand_wait) (wV 0) aNil)) (sIf (tOr (tV (wOp oEq (wFld (wV 0) "here") (wC (.str "told")))) (tV (wOp oEq (wFld (wV 0) "here") (wC (.str "lacks"))))) (sEx (wMeth (tb1 "Giver" F_Giver_remember) (wV 0) aNil)) (sEx (wMeth (tb1 "Giver" F_Giver_give) (wV 0) aNil))))) (sRet (wC (.bl true))))) := Classical.choose_spec O_Giver_step
theorem O_Lane_step : ∃ f : WF, f = fnM 2 2 (sSeq (sIf (tNot (tTru (wMeth (tbO (tb1 "Giver" F_Giver_step) (tb1 "Taker" F_Taker_step)) (wMeth (tb1 "Lane" F_Lane_hand_of) (wV 0) (aCons (wV 1) aNil)) aNil))) (sRet (wC (.bl false))) sNx) (sSeq (sEx (wBM "list" mAppend (wFld (wV 0) "walked") (aCons (wOp (oAdd 0) (wTup (aCons (wV 1) aNil)) (wMeth (tb1 "Board" F_Board_last_touch) (wFld (wV 0) "board") aNil)) aNil))) (sRet (wC (.bl true))))) := ⟨_, rfl⟩
noncomputable def F_Lane_step : WF := Classical.choose O_Lane_step
theorem F_Lane_step_eq : F_Lane_step = fnM 2 2 (sSeq (sIf (tNot (tTru (wMeth (tbO (tb1 "Giver" F_Giver_step) (tb1 "Taker" F_Taker_step)) (wMeth (tb1 "Lane" F_Lane_hand_of) (wV 0) (aCons (wV 1) aNil)) aNil))) (sRet (wC (.bl false))) sNx) (sSeq (sEx (wBM "list" mAppend (wFld (wV 0) "walked") (aCons (wOp (oAdd 0) (wTup (aCons (wV 1) aNil)) (wMeth (tb1 "Board" F_Board_last_touch) (wFld (wV 0) "board") aNil)) aNil))) (sRet (wC (.bl true))))) := Classical.choose_spec O_Lane_step
theorem O_Lane_fall : ∃ f : WF, f = fnM 2 2 (sSeq (sEx (wCall F_look_at_hand (aCons (wV 1) aNil))) (sIf (tV (wOp oEq (wV 1) (wC (.str "giver")))) (sAsg (wMake "Giver" 11 F_Giver___init (aCons (wFld (wV 0) "board") (aCons (wMeth (tb1 "Giver" F_Giver_orders) (wFld (wV 0) "giver") aNil) aNil))) (gFld (wV 0) "giver")) (sAsg (wMake "Taker" 12 F_Taker___init (aCons (wFld (wV 0) "board") (aCons (wMeth (tb1 "Taker" F_Taker_book) (wFld (wV 0) "taker") aNil) aNil))) (gFld (wV 0) "taker")))) := ⟨_, rfl⟩
noncomputable def F_Lane_fall : WF := Classical.choose O_Lane_fall
theorem F_Lane_fall_eq : F_Lane_fall = fnM 2 2 (sSeq (sEx (wCall F_look_at_hand (aCons (wV 1) aNil))) (sIf (tV (wOp oEq (wV 1) (wC (.str "giver")))) (sAsg (wMake "Giver" 11 F_Giver___init (aCons (wFld (wV 0) "board") (aCons (wMeth (tb1 "Giver" F_Giver_orders) (wFld (wV 0) "giver") aNil) aNil))) (gFld (wV 0) "giver")) (sAsg (wMake "Taker" 12 F_Taker___init (aCons (wFld (wV 0) "board") (aCons (wMeth (tb1 "Taker" F_Taker_book) (wFld (wV 0) "taker") aNil) aNil))) (gFld (wV 0) "taker")))) := Classical.choose_spec O_Lane_fall
theorem O_Lane_still : ∃ f : WF, f = fnM 2 2 (sRet (wMeth (tbO (tb1 "Giver" F_Giver_still) (tb1 "Taker" F_Taker_still)) (wMeth (tb1 "Lane" F_Lane_hand_of) (wV 0) (aCons (wV 1) aNil)) aNil)) := ⟨_, rfl⟩
noncomputable def F_Lane_still : WF := Classical.choose O_Lane_still
theorem F_Lane_still_eq : F_Lane_still = fnM 2 2 (sRet (wMeth (tbO (tb1 "Giver" F_Giver_still) (tb1 "Taker" F_Taker_still)) (wMeth (tb1 "Lane" F_Lane_hand_of) (wV 0) (aCons (wV 1) aNil)) aNil)) := Classical.choose_spec O_Lane_still
theorem O_law_order : ∃ f : WF, f = fnM 2 6 (sSeq (sAsg (wCall F_law_take (aCons (wV 0) (aCons (wC (.int 3)) aNil))) (gN 2)) (sSeq (sAsg (wLst 240 aNil) (gN 3)) (sSeq (sFor (iRng1 (wOp oIx (wLst 241 (aCons (wC (.int 1)) (aCons (wV 1) (aCons (wOp (oAdd 0) (wC (.int 1)) (wCall F_law_take (aCons (wV 0) (aCons (wV 1) aNil)))) aNil)))) (wV 2))) (gN 4) (sSeq (sAsg (wOp oSub (wCall F_law_take (aCons (wV 0) (aCons (wOp oPow (wC (.int 10)) (wC (.int 59))) aNil))) (wOp (oMul 0) (wC (.int 5)) (wOp oPow (wC (.int 10)) (wC (.int 58))))) (gN 5)) (sEx (wBM "list" mAppend (wV 3) (aCons (wOp oIx (wLst 242 (aCons (wOp oSub (wCall F_law_take (aCons (wV 0) (aCons (wC (.int 9)) aNil))) (wC (.int 4))) (aCons (wV 5) aNil))) (wOp oDiv (wCall F_law_take (aCons (wV 0) (aCons (wC (.int 5)) aNil))) (wC (.int 4)))) aNil))))) (sRet (wV 3))))) := ⟨_, rfl⟩
noncomputable def F_law_order : WF := Classical.choose O_law_order
theorem F_law_order_eq : F_law_order = fnM 2 6 (sSeq (sAsg (wCall F_law_take (aCons (wV 0) (aCons (wC (.int 3)) aNil))) (gN 2)) (sSeq (sAsg (wLst 240 aNil) (gN 3)) (sSeq (sFor (iRng1 (wOp oIx (wLst 241 (aCons (wC (.int 1)) (aCons (wV 1) (aCons (wOp (oAdd 0) (wC (.int 1)) (wCall F_law_take (aCons (wV 0) (aCons (wV 1) aNil)))) aNil)))) (wV 2))) (gN 4) (sSeq (sAsg (wOp oSub (wCall F_law_take (aCons (wV 0) (aCons (wOp oPow (wC (.int 10)) (wC (.int 59))) aNil))) (wOp (oMul 0) (wC (.int 5)) (wOp oPow (wC (.int 10)) (wC (.int 58))))) (gN 5)) (sEx (wBM "list" mAppend (wV 3) (aCons (wOp oIx (wLst 242 (aCons (wOp oSub (wCall F_law_take (aCons (wV 0) (aCons (wC (.int 9)) aNil))) (wC (.int 4))) (aCons (wV 5) aNil))) (wOp oDiv (wCall F_law_take (aCons (wV 0) (aCons (wC (.int 5)) aNil))) (wC (.int 4)))) aNil))))) (sRet (wV 3))))) := Classical.choose_spec O_law_order
theorem O_Giver_add : ∃ f : WF, f = fnM 2 2 (sSeq (sEx (wCall F_look_at_order (aCons (wFld (wFld (wV 0) "board") "size") (aCons (wV 1) aNil)))) (sSeq (sEx (wBM "list" mAppend (wFld (wV 0) "wares") (aCons (wB (bList 26) (aCons (wV 1) aNil)) aNil))) (sRet (wOp oSub (wB bLen (aCons (wFld (wV 0) "wares") aNil)) (wC (.int 1)))))) := ⟨_, rfl⟩
noncomputable def F_Giver_add : WF := Classical.choose O_Giver_add
theorem F_Giver_add_eq : F_Giver_add = fnM 2 2 (sSeq (sEx (wCall F_look_at_order (aCons (wFld (wFld (wV 0) "board") "size") (aCons (wV 1) aNil)))) (sSeq (sEx (wBM "list" mAppend (wFld (wV 0) "wares") (aCons (wB (bList 26) (aCons (wV 1) aNil)) aNil))) (sRet (wOp oSub (wB bLen (aCons (wFld (wV 0) "wares") aNil)) (wC (.int 1)))))) := Classical.choose_spec O_Giver_add
theorem O_Lane_hand_in : ∃ f : WF, f = fnM 2 2 (sRet (wMeth (tb1 "Giver" F_Giver_add) (wFld (wV 0) "giver") (aCons (wV 1) aNil))) := ⟨_, rfl⟩
noncomputable def F_Lane_hand_in : WF := Classical.choose O_Lane_hand_in
theorem F_Lane_hand_in_eq : F_Lane_hand_in = fnM 2 2 (sRet (wMeth (tb1 "Giver" F_Giver_add) (wFld (wV 0) "giver") (aCons (wV 1) aNil))) := Classical.choose_spec O_Lane_hand_in
theorem O_law_moved : ∃ f : WF, f = fnM 5 6 (sIf (tV (wOp oLt (wV 1) (wC (.int 2)))) (sEx (wMeth (tb1 "Lane" F_Lane_step) (wV 0) (aCons (wOp oIx (wLst 238 (aCons (wC (.str "giver")) (aCons (wC (.str "taker")) aNil))) (wV 1)) aNil))) (sIf (tV (wOp oLt (wV 1) (wC (.int 4)))) (sEx (wMeth (tb1 "Lane" F_Lane_fall) (wV 0) (aCons (wOp oIx (wLst 239 (aCons (wC (.str "giver")) (aCons (wC (.str "taker")) aNil))) (wOp oSub (wV 1) (wC (.int 2)))) aNil))) (sIf (tV (wOp oLt (wB bLen (aCons (wV 4) aNil)) (wC (.int 40)))) (sSeq (sAsg (wCall F_law_order (aCons (wV 2) (aCons (wV 3) aNil))) (gN 5)) (sSeq (sEx (wBM "list" mAppend (wV 4) (aCons (wV 5) aNil))) (sEx (wMeth (tb1 "Lane" F_Lane_hand_in) (wV 0) (aCons (wB (bList 243) (aCons (wV 5) aNil)) aNil))))) sNx))) := ⟨_, rfl⟩
noncomputable def F_law_moved : WF := Classical.choose O_law_moved
theorem F_law_moved_eq : F_law_moved = fnM 5 6 (sIf (tV (wOp oLt (wV 1) (wC (.int 2)))) (sEx (wMeth (tb1 "Lane" F_Lane_step) (wV 0) (aCons (wOp oIx (wLst 238 (aCons (wC (.str "giver")) (aCons (wC (.str "taker")) aNil))) (wV 1)) aNil))) (sIf (tV (wOp oLt (wV 1) (wC (.int 4)))) (sEx (wMeth (tb1 "Lane" F_Lane_fall) (wV 0) (aCons (wOp oIx (wLst 239 (aCons (wC (.str "giver")) (aCons (wC (.str "taker")) aNil))) (wOp oSub (wV 1) (wC (.int 2)))) aNil))) (sIf (tV (wOp oLt (wB bLen (aCons (wV 4) aNil)) (wC (.int 40)))) (sSeq (sAsg (wCall F_law_order (aCons (wV 2) (aCons (wV 3) aNil))) (gN 5)) (sSeq (sEx (wBM "list" mAppend (wV 4) (aCons (wV 5) aNil))) (sEx (wMeth (tb1 "Lane" F_Lane_hand_in) (wV 0) (aCons (wB (bList 243) (aCons (wV 5) aNil)) aNil))))) sNx))) := Classical.choose_spec O_law_moved
theorem O_law_moves : ∃ f : WF, f = fnM 3 14 (sSeq (sAsg (wComp 249 (iRng2 (wV 1) (wB bMax (aCons (wOp (oAdd 0) (wV 1) (wC (.int 1))) (aCons (wB bMin (aCons (wC (.int 63)) (aCons (wB bLen (aCons (wV 0) aNil)) aNil))) aNil)))) 11 tYes (wCall F_law_well (aCons (wV 0) (aCons (wV 11) aNil)))) (gN 3)) (sSeq (sAsg (wOp oIx (wV 3) (wC (.int 0))) (gN 4)) (sSeq (sAsg (wCall F_law_take (aCons (wV 4) (aCons (wC (.int 4)) aNil))) (gN 5)) (sSeq (sAsg (wOp oIx (wLst 250 (aCons (wC (.int 8)) (aCons (wC (.int 20)) (aCons (wC (.int 60)) aNil)))) (wCall F_law_take (aCons (wV 4) (aCons (wC (.int 3)) aNil)))) (gN 6)) (sSeq (sAsg (wOp oIx (wLst 251 (aCons (wCall F_law_take (aCons (wV 4) (aCons (wOp (oAdd 0) (wV 2) (wC (.int 1))) aNil))) (aCons (wV 2) aNil))) (wCall F_law_take (aCons (wV 4) (aCons (wC (.int 2)) aNil)))) (gN 7)) (sSeq (sAsg (wLst 252 aNil) (gN 8)) (sSeq (sAsg (wC (.int 0)) (gN 9)) (sSeq (sAsg (wC (.int 0)) (gN 10)) (sSeq (sFor (iRng1 (wV 7)) (gN 11) (sSeq (sAsg (wOp oIx (wV 3) (wOp oMod (wV 11) (wB bLen (aCons (wV 3) aNil)))) (gN 12)) (sSeq (sAsg (wCall F_law_take (aCons (wV 12) (aCons (wV 6) aNil))) (gN 13)) (sIf (tV (wOp oLt (wV 13) (wC (.int 3)))) (sEx (wBM "list" mAppend (wV 8) (aCons (wOp (oAdd 0) (wC (.int 2)) (wV 13)) aNil))) (sSeq (sIf (tV (wOp oEq (wV 9) (wC (.int 0)))) (sSeq (sAsg (wCall F_law_take (aCons (wV 12) (aCons (wC (.int 2)) aNil))) (gN 10)) (sAsg (wOp (oAdd 0) (wC (.int 1)) (wCall F_law_take (aCons (wV 12) (aCons (wOp oIx (wLst 253 (aCons (wC (.int 1)) (aCons (wC (.int 3)) (aCons (wC (.int 9)) (aCons (wC (.int 40)) aNil))))) (wV 5)) aNil)))) (gN 9))) sNx) (sSeq (sAsg (wOp oSub (wV 9) (wC (.int 1))) (gN 9)) (sEx (wBM "list" mAppend (wV 8) (aCons (wV 10) aNil))))))))) (sRet (wV 8))))))))))) := ⟨_, rfl⟩
noncomputable def F_law_moves : WF := Classical.choose O_law_moves
theorem F_law_moves_eq : F_law_moves = fnM 3 14 (sSeq (sAsg (wComp 249 (iRng2 (wV 1) (wB bMax (aCons (wOp (oAdd 0) (wV 1) (wC (.int 1))) (aCons (wB bMin (aCons (wC (.int 63)) (aCons (wB bLen (aCons (wV 0) aNil)) aNil))) aNil)))) 11 tYes (wCall F_law_well (aCons (wV 0) (aCons (wV 11) aNil)))) (gN 3)) (sSeq (sAsg (wOp oIx (wV 3) (wC (.int 0))) (gN 4)) (sSeq (sAsg (wCall F_law_take (aCons (wV 4) (aCons (wC (.int 4)) aNil))) (gN 5)) (sSeq (sAsg (wOp oIx (wLst 250 (aCons (wC (.int 8)) (aCons (wC (.int 20)) (aCons (wC (.int 60)) aNil)))) (wCall F_law_take (aCons (wV 4) (aCons (wC (.int 3)) aNil)))) (gN 6)) (sSeq (sAsg (wOp oIx (wLst 251 (aCons (wCall F_law_take (aCons (wV 4) (aCons (wOp (oAdd 0) (wV 2) (wC (.int 1))) aNil))) (aCons (wV 2) aNil))) (wCall F_law_take (aCons (wV 4) (aCons (wC (.int 2)) aNil)))) (gN 7)) (sSeq (sAsg (wLst 252 aNil) (gN 8)) (sSeq (sAsg (wC (.int 0)) (gN 9)) (sSeq (sAsg (wC (.int 0)) (gN 10)) (sSeq (sFor (iRng1 (wV 7)) (gN 11) (sSeq (sAsg (wOp oIx (wV 3) (wOp oMod (wV 11) (wB bLen (aCons (wV 3) aNil)))) (gN 12)) (sSeq (sAsg (wCall F_law_take (aCons (wV 12) (aCons (wV 6) aNil))) (gN 13)) (sIf (tV (wOp oLt (wV 13) (wC (.int 3)))) (sEx (wBM "list" mAppend (wV 8) (aCons (wOp (oAdd 0) (wC (.int 2)) (wV 13)) aNil))) (sSeq (sIf (tV (wOp oEq (wV 9) (wC (.int 0)))) (sSeq (sAsg (wCall F_law_take (aCons (wV 12) (aCons (wC (.int 2)) aNil))) (gN 10)) (sAsg (wOp (oAdd 0) (wC (.int 1)) (wCall F_law_take (aCons (wV 12) (aCons (wOp oIx (wLst 253 (aCons (wC (.int 1)) (aCons (wC (.int 3)) (aCons (wC (.int 9)) (aCons (wC (.int 40)) aNil))))) (wV 5)) aNil)))) (gN 9))) sNx) (sSeq (sAsg (wOp oSub (wV 9) (wC (.int 1))) (gN 9)) (sEx (wBM "list" mAppend (wV 8) (aCons (wV 10) aNil))))))))) (sRet (wV 8))))))))))) := Classical.choose_spec O_law_moves
theorem O_law_v8 : ∃ f : WF, f = fnM 1 10 (sSeq (sAsg (wCall F_law_well (aCons (wV 0) (aCons (wC (.int 0)) aNil))) (gN 1)) (sSeq (sAsg (wOp (oAdd 0) (wC (.int 2)) (wCall F_law_take (aCons (wV 1) (aCons (wC (.int 7)) aNil)))) (gN 2)) (sSeq (sAsg (wMake "Lane" 13 F_Lane___init (aCons (wV 2) aNil)) (gN 3)) (sSeq (sAsg (wLst 247 aNil) (gN 4)) (sSeq (sAsg (wC (.int 0)) (gN 5)) (sSeq (sFor (iSeq (wOp (oAdd 0) (wLst 248 (aCons (wC (.int 4)) aNil)) (wCall F_law_moves (aCons (wV 0) (aCons (wC (.int 1)) (aCons (wC (.int 500)) aNil)))))) (gN 6) (sSeq (sEx (wCall F_law_moved (aCons (wV 3) (aCons (wV 6) (aCons (wV 1) (aCons (wV 2) (aCons (wV 4) aNil))))))) (sSeq (sAsg (wMeth (tb1 "Lane" F_Lane_book) (wV 3) aNil) (gN 7)) (sSeq (sIf (tOr (tNot (tTru (bIsi ["list"] (wV 7)))) (tOr (tV (wOp oLt (wB bLen (aCons (wV 7) aNil)) (wV 5))) (tV (wOp oNe (wV 7) (wSl 254 (wV 4) pNone (pSome (wB bLen (aCons (wV 7) aNil)))))))) (sRet (wC (.bl false))) sNx) (sSeq (sAsg (wB bLen (aCons (wV 7) aNil)) (gN 5)) (sIf (tV (wOp oEq (wV 6) (wC (.int 4)))) (sSeq (sFor (iSeq (wV 7)) (gN 8) (sEx (wBM "list" mClear (wV 8) aNil))) (sSeq (sEx (wBM "list" mClear (wV 7) aNil)) (sSeq (sAsg (wMeth (tb1 "Lane" F_Lane_orders) (wV 3) aNil) (gN 9)) (sSeq (sFor (iSeq (wV 9)) (gN 8) (sEx (wBM "list" mClear (wV 8) aNil))) (sSeq (sEx (wBM "list" mClear (wV 9) aNil)) (sIf (tOr (tV (wOp oNe (wMeth (tb1 "Lane" F_Lane_book) (wV 3) aNil) (wSl 255 (wV 4) pNone (pSome (wV 5))))) (tV (wOp oNe (wMeth (tb1 "Lane" F_Lane_orders) (wV 3) aNil) (wV 4)))) (sRet (wC (.bl false))) sNx)))))) sNx)))))) (sRet (wOp oEq (wMeth (tb1 "Lane" F_Lane_orders) (wV 3) aNil) (wV 4))))))))) := ⟨_, rfl⟩
noncomputable def F_law_v8 : WF := Classical.choose O_law_v8
theorem F_law_v8_eq : F_law_v8 = fnM 1 10 (sSeq (sAsg (wCall F_law_well (aCons (wV 0) (aCons (wC (.int 0)) aNil))) (gN 1)) (sSeq (sAsg (wOp (oAdd 0) (wC (.int 2)) (wCall F_law_take (aCons (wV 1) (aCons (wC (.int 7)) aNil)))) (gN 2)) (sSeq (sAsg (wMake "Lane" 13 F_Lane___init (aCons (wV 2) aNil)) (gN 3)) (sSeq (sAsg (wLst 247 aNil) (gN 4)) (sSeq (sAsg (wC (.int 0)) (gN 5)) (sSeq (sFor (iSeq (wOp (oAdd 0) (wLst 248 (aCons (wC (.int 4)) aNil)) (wCall F_law_moves (aCons (wV 0) (aCons (wC (.int 1)) (aCons (wC (.int 500)) aNil)))))) (gN 6) (sSeq (sEx (wCall F_law_moved (aCons (wV 3) (aCons (wV 6) (aCons (wV 1) (aCons (wV 2) (aCons (wV 4) aNil))))))) (sSeq (sAsg (wMeth (tb1 "Lane" F_Lane_book) (wV 3) aNil) (gN 7)) (sSeq (sIf (tOr (tNot (tTru (bIsi ["list"] (wV 7)))) (tOr (tV (wOp oLt (wB bLen (aCons (wV 7) aNil)) (wV 5))) (tV (wOp oNe (wV 7) (wSl 254 (wV 4) pNone (pSome (wB bLen (aCons (wV 7) aNil)))))))) (sRet (wC (.bl false))) sNx) (sSeq (sAsg (wB bLen (aCons (wV 7) aNil)) (gN 5)) (sIf (tV (wOp oEq (wV 6) (wC (.int 4)))) (sSeq (sFor (iSeq (wV 7)) (gN 8) (sEx (wBM "list" mClear (wV 8) aNil))) (sSeq (sEx (wBM "list" mClear (wV 7) aNil)) (sSeq (sAsg (wMeth (tb1 "Lane" F_Lane_orders) (wV 3) aNil) (gN 9)) (sSeq (sFor (iSeq (wV 9)) (gN 8) (sEx (wBM "list" mClear (wV 8) aNil))) (sSeq (sEx (wBM "list" mClear (wV 9) aNil)) (sIf (tOr (tV (wOp oNe (wMeth (tb1 "Lane" F_Lane_book) (wV 3) aNil) (wSl 255 (wV 4) pNone (pSome (wV 5))))) (tV (wOp oNe (wMeth (tb1 "Lane" F_Lane_orders) (wV 3) aNil) (wV 4)))) (sRet (wC (.bl false))) sNx)))))) sNx)))))) (sRet (wOp oEq (wMeth (tb1 "Lane" F_Lane_orders) (wV 3) aNil) (wV 4))))))))) := Classical.choose_spec O_law_v8
end Mi
end TxDefs

section TxSBase
set_option autoImplicit false
set_option linter.all false
set_option maxRecDepth 100000
set_option maxHeartbeats 4000000
namespace Mi
theorem dmax_eq : dmax = 1000000000000000000000000000000000000000000000000000000000000 := by decide +kernel
/-- a well lies at place i of region 1 -/
def WellAt (h : MH) (i : Nat) : Prop := ∃ a b c : Int, rd h 1 i = some (.lst [.int a, .int b, .int c]) ∧ 0 ≤ b ∧ b < 1099511627776 ∧ 0 < c ∧ c < 2147483648
theorem WellAt.lt {h : MH} {i : Nat} (w : WellAt h i) : i < (h 1).length := let ⟨_, _, _, e, _⟩ := w; (List.getElem?_eq_some_iff.mp e).1
theorem take_spec {h : MH} {i : Nat} {m : Int} {Q : QV} {E : QX} (wl : WellAt h i) (h0 : 0 < m) (h1 : m ≤ dmax) (k : ∀ (g : Int) (h' : MH), 0 ≤ g → g < m → WellAt h' i → (∀ r, r ≠ 1 → h' r = h r) → Q (.int g) h') :
    F_law_take [.ref 1 i, .int m] h Q E := by
  have hi := wl.lt
  obtain ⟨a, b, c, e, b0, b1, c0, c1⟩ := wl
  simp [F_law_take_eq, e, hi, small, dmax_eq]
  have new : ∀ a' b' : Int, 0 ≤ b' → b' < 1099511627776 → WellAt (put h 1 ((h 1).set i (.lst [.int a', .int b', .int c]))) i := fun a' b' z1 z2 =>
    ⟨a', b', c, by simp [hi], z1, z2, c0, c1⟩
  have same : ∀ l r, r ≠ 1 → put h 1 l r = h r := fun l r hr => put_ne h l hr
  rw [dmax_eq] at h1
  split
  · exact ⟨h0, h1, k _ _ (Int.emod_nonneg _ (by omega)) (Int.emod_lt_of_pos _ h0) (new _ _ b0 b1) (same _)⟩
  · have q0 := Int.emod_nonneg (b * 48271) (show c ≠ 0 by omega)
    have q1 := Int.emod_lt_of_pos (b * 48271) c0
    exact ⟨c0, ⟨by omega, by omega⟩, h0, k _ _ (Int.emod_nonneg _ (by omega)) (Int.emod_lt_of_pos _ h0) (new _ _ (by omega) (by omega)) (same _)⟩
theorem le_dmax {n : Int} (h : n ≤ 1000000000000000000000000000000000000000000000000000000000000) : n ≤ dmax := by rw [dmax_eq]; exact h
theorem WellAt.of {h h' : MH} {i : Nat} (w : WellAt h i) (e : h' 1 = h 1) : WellAt h' i := by
  obtain ⟨a, b, c, z, k⟩ := w
  exact ⟨a, b, c, by rw [← z]; unfold rd; rw [e], k⟩
theorem small_two {P : Int → Prop} {g : Int} (a : 0 ≤ g) (b : g < 2) (p0 : P 0) (p1 : P 1) : P g := by
  have : g = 0 ∨ g = 1 := by omega
  rcases this with rfl | rfl <;> assumption
theorem far_spec {h : MH} {i : Nat} {Q : QV} {E : QX} (wl : WellAt h i) (k : ∀ (g : Int) (h' : MH), 1 ≤ g → g ≤ 10000000000000000000000000000000000000000000000000000000000 → WellAt h' i → (∀ r, r ≠ 1 → r ≠ 101 → h' r = h r) → Q (.int g) h') :
    F_law_far [.ref 1 i] h Q E := by
  simp [F_law_far_eq, lim]
  refine take_spec wl (by omega) (le_dmax (by omega)) fun g1 h1 a1 b1 w1 f1 => ?_
  simp [small]
  refine take_spec w1 (by omega) (le_dmax (by omega)) fun g2 h2 a2 b2 w2 f2 => ?_
  refine take_spec (w2.of (by simp)) (by omega) (le_dmax (by omega)) fun g3 h3 a3 b3 w3 f3 => ?_
  have e3 : h3 101 = _ := f3 101 (by decide)
  have fr : ∀ r, r ≠ 1 → r ≠ 101 → h3 r = h r := fun r x y => by rw [f3 r x, put_ne h2 _ y, f2 r x, f1 r x]
  have hg : g3 = 0 ∨ g3 = 1 := by omega
  rcases hg with rfl | rfl
  · simp [rd, e3]; exact k _ _ (by omega) (by omega) w3 fr
  · simp [rd, e3]; exact k _ _ (by omega) (by omega) w3 fr
theorem well_spec {xs : List MV} {h : MH} {k : Nat} {Q : QV} {E : QX} (hi : ∀ x ∈ xs, ∃ i, x = .int i) (hk : k < 64) (q : ∀ (h' : MH), WellAt h' (h 1).length → (∀ r, r ≠ 1 → r ≠ 100 → h' r = h r) → Q (.ref 1 (h 1).length) h') :
    F_law_well [.cst xs, .int k] h Q E := by
  have main : ∀ (c s : Int) (p : Int) (l : List MO), 0 ≤ s → s < 1099511627776 → p ∈ [2147483647, 2147483629, 2147483587, 2147483579, 2147483563, 2147483549, 2147483543, 2147483497] →
      Q (.ref 1 (h 1).length) (put (put h 100 l) 1 (h 1 ++ [.lst [.int c, .int s, .int p]])) := fun c s p l s0 s1 hp =>
    q _ ⟨c, s, p, by simp, s0, s1, by simp at hp; omega, by simp at hp; omega⟩ fun r a b => by rw [put_ne _ _ a, put_ne _ _ b]
  have kk : ∃ p : Int, p ∈ [(2147483647 : Int), 2147483629, 2147483587, 2147483579, 2147483563, 2147483549, 2147483543, 2147483497] ∧ atI [MV.int 2147483647, .int 2147483629, .int 2147483587, .int 2147483579, .int 2147483563, .int 2147483549, .int 2147483543, .int 2147483497] ((k : Int) % 8) = some (.int p) := by
    have : k % 8 < 8 := Nat.mod_lt _ (by decide)
    rw [show ((k : Int) % 8) = ((k % 8 : Nat) : Int) by omega, atI_nat]
    rcases (show k % 8 = 0 ∨ k % 8 = 1 ∨ k % 8 = 2 ∨ k % 8 = 3 ∨ k % 8 = 4 ∨ k % 8 = 5 ∨ k % 8 = 6 ∨ k % 8 = 7 by omega) with e | e | e | e | e | e | e | e <;> rw [e] <;> exact ⟨_, by decide, rfl⟩
  obtain ⟨p, hp, ep⟩ := kk
  by_cases c : k < xs.length
  · obtain ⟨x, hx⟩ := hi xs[k] (List.getElem_mem c)
    simp [F_law_well_eq, lim, small, c, atI_nat, hx, rd, ep]
    have z1 := Int.emod_nonneg x (show (2147483489 : Int) ≠ 0 by decide)
    have z2 := Int.emod_lt_of_pos x (show (0 : Int) < 2147483489 by decide)
    have z3 := Int.emod_nonneg ((x % 2147483489 + 1) * (48271 + 2 * k)) (show (2147483489 : Int) ≠ 0 by decide)
    have z4 := Int.emod_lt_of_pos ((x % 2147483489 + 1) * (48271 + 2 * k)) (show (0 : Int) < 2147483489 by decide)
    have hw := Int.emod_nonneg ((x % 2147483489 + 1) * (48271 + 2 * k) % 2147483489 * ((x % 2147483489 + 1) * (48271 + 2 * k) % 2147483489)) (show (2147483477 : Int) ≠ 0 by decide)
    have hv := Int.emod_lt_of_pos ((x % 2147483489 + 1) * (48271 + 2 * k) % 2147483489 * ((x % 2147483489 + 1) * (48271 + 2 * k) % 2147483489)) (show (0 : Int) < 2147483477 by decide)
    refine ⟨Or.inl ⟨by omega, by omega⟩, ⟨by omega, by omega⟩, ?_⟩
    split <;> exact main _ _ _ _ (by omega) (by omega) hp
  · simp [F_law_well_eq, lim, small, c, atI_nat, rd, ep]
    have z3 := Int.emod_nonneg (48271 + 2 * k) (show (2147483489 : Int) ≠ 0 by decide)
    have z4 := Int.emod_lt_of_pos (48271 + 2 * k) (show (0 : Int) < 2147483489 by decide)
    have hw := Int.emod_nonneg ((48271 + 2 * (k : Int)) % 2147483489 * ((48271 + 2 * k) % 2147483489)) (show (2147483477 : Int) ≠ 0 by decide)
    have hv := Int.emod_lt_of_pos ((48271 + 2 * (k : Int)) % 2147483489 * ((48271 + 2 * k) % 2147483489)) (show (0 : Int) < 2147483477 by decide)
    exact ⟨⟨by omega, by omega⟩, main _ _ _ _ (by omega) (by omega) hp⟩
theorem whole_spec {h : MH} {n : Int} {Q : QV} {E : QX} (q : Q (.bl true) h) : F_law_whole [.int n] h Q E := by
  simp [F_law_whole_eq]
  exact q
end Mi
end TxSBase

section TxSTurns
set_option autoImplicit false
set_option linter.all false
set_option maxRecDepth 100000
set_option maxHeartbeats 4000000
namespace Mi
/-! the ring -/
theorem size_ok {h : MH} {n : Int} {Q : QV} {E : QX} (a : 2 ≤ n) (b : n ≤ 8) (q : Q .non h) : F_look_at_size [.int n] h Q E := by
  simp [F_look_at_size_eq]
  rw [if_neg (by omega), if_neg (by omega)]
  exact q
theorem size_bad {h : MH} {n : Int} {Q : QV} {E : QX} (a : n < 2 ∨ 8 < n) (q : E "BadSize" h) : F_look_at_size [.int n] h Q E := by
  simp [F_look_at_size_eq]
  by_cases c : n < 2
  · rw [if_pos c]; exact q
  · rw [if_neg c, if_pos (by omega)]; exact q
theorem turn_ok {h : MH} {n t : Int} {Q : QV} {E : QX} (a : 2 ≤ n) (b : n ≤ 8) (c : 0 ≤ t) (d : t < 2 * n) (q : Q .non h) : F_look_at_turn [.int n, .int t] h Q E := by
  simp [F_look_at_turn_eq, small]
  refine size_ok a b ?_
  rw [if_neg (by omega), if_neg (by omega)]
  exact q
theorem turn_size {h : MH} {n t : Int} {Q : QV} {E : QX} (a : n < 2 ∨ 8 < n) (q : E "BadSize" h) : F_look_at_turn [.int n, .int t] h Q E := by
  simp [F_look_at_turn_eq, small]
  exact size_bad a q
theorem turn_bad {h : MH} {n t : Int} {Q : QV} {E : QX} (a : 2 ≤ n) (b : n ≤ 8) (c : t < 0 ∨ 2 * n ≤ t) (q : E "NoTurn" h) : F_look_at_turn [.int n, .int t] h Q E := by
  simp [F_look_at_turn_eq, small]
  refine size_ok a b ?_
  by_cases z : t < 0
  · rw [if_pos z]; exact q
  · rw [if_neg z, if_pos (by omega)]; exact q
theorem place_ok {h : MH} {n t : Int} {Q : QV} {E : QX} (a : 2 ≤ n) (b : n ≤ 8) (c : 0 ≤ t) (d : t < 2 * n) (q : Q (.int (t % n)) h) : F_place_of [.int n, .int t] h Q E := by
  simp [F_place_of_eq]; refine turn_ok a b c d ?_; exact ⟨by omega, q⟩
theorem lap_ok {h : MH} {n t : Int} {Q : QV} {E : QX} (a : 2 ≤ n) (b : n ≤ 8) (c : 0 ≤ t) (d : t < 2 * n) (q : Q (.int (t / n)) h) : F_lap_of [.int n, .int t] h Q E := by
  simp [F_lap_of_eq, dmax_eq]; refine turn_ok a b c d ?_; exact ⟨by omega, by omega, q⟩
theorem onward_ok {h : MH} {n t m : Int} {Q : QV} {E : QX} (a : 2 ≤ n) (b : n ≤ 8) (c : 0 ≤ t) (d : t < 2 * n) (q : Q (.int ((t + m) % (2 * n))) h) : F_onward [.int n, .int t, .int m] h Q E := by
  simp [F_onward_eq, small]; refine turn_ok a b c d ?_; exact ⟨by omega, q⟩
theorem distance_ok {h : MH} {n t u : Int} {Q : QV} {E : QX} (a : 2 ≤ n) (b : n ≤ 8) (c : 0 ≤ t) (d : t < 2 * n) (c' : 0 ≤ u) (d' : u < 2 * n) (q : Q (.int ((u - t) % (2 * n))) h) : F_distance [.int n, .int t, .int u] h Q E := by
  simp [F_distance_eq, small]; refine turn_ok a b c d ?_; refine turn_ok a b c' d' ?_; exact ⟨by omega, q⟩
/-- what look_at_turn answers -/
inductive TurnR (n t : Int) : Option String → Prop where
  | ok (a : 2 ≤ n) (b : n ≤ 8) (c : 0 ≤ t) (d : t < 2 * n) : TurnR n t none
  | size (a : n < 2 ∨ 8 < n) : TurnR n t (some "BadSize")
  | turn (a : 2 ≤ n) (b : n ≤ 8) (c : t < 0 ∨ 2 * n ≤ t) : TurnR n t (some "NoTurn")
theorem turn_r {h : MH} {n t : Int} {o : Option String} {Q : QV} {E : QX} (r : TurnR n t o) (q : o = none → Q .non h) (e : ∀ c, o = some c → E c h) : F_look_at_turn [.int n, .int t] h Q E := by
  cases r with
  | ok a b c d => exact turn_ok a b c d (q rfl)
  | size a => exact turn_size a (e _ rfl)
  | turn a b c => exact turn_bad a b c (e _ rfl)
theorem TurnR.pos {n t : Int} {o : Option String} (r : TurnR n t o) (e : o = none) : 2 ≤ n ∧ n ≤ 8 ∧ 0 ≤ t ∧ t < 2 * n := by
  cases r with
  | ok a b c d => exact ⟨a, b, c, d⟩
  | size a => exact nomatch e
  | turn a b c => exact nomatch e
theorem place_r {h : MH} {n t : Int} {o : Option String} {Q : QV} {E : QX} (r : TurnR n t o) (q : o = none → ∀ v, Q v h) (e : ∀ c, o = some c → E c h) : F_place_of [.int n, .int t] h Q E := by
  simp [F_place_of_eq]; refine turn_r r (fun z => ?_) e; have := r.pos z; exact ⟨by omega, q z _⟩
theorem lap_r {h : MH} {n t : Int} {o : Option String} {Q : QV} {E : QX} (r : TurnR n t o) (q : o = none → ∀ v, Q v h) (e : ∀ c, o = some c → E c h) : F_lap_of [.int n, .int t] h Q E := by
  simp [F_lap_of_eq, dmax_eq]; refine turn_r r (fun z => ?_) e; have := r.pos z; exact ⟨by omega, by omega, q z _⟩
theorem onward_r {h : MH} {n t m : Int} {o : Option String} {Q : QV} {E : QX} (r : TurnR n t o) (q : o = none → ∀ v, Q v h) (e : ∀ c, o = some c → E c h) : F_onward [.int n, .int t, .int m] h Q E := by
  simp [F_onward_eq, small]; refine turn_r r (fun z => ?_) e; have := r.pos z; exact ⟨by omega, q z _⟩
theorem TurnR.other {n t u : Int} {o : Option String} (r : TurnR n t o) (hu : 2 ≤ n → n ≤ 8 → 0 ≤ u ∧ u < 2 * n) : TurnR n u none ∨ ∃ c, o = some c ∧ TurnR n u (some c) := by
  cases r with
  | ok a b c d => exact Or.inl (.ok a b (hu a b).1 (hu a b).2)
  | size a => exact Or.inr ⟨_, rfl, .size a⟩
  | turn a b c => exact Or.inl (.ok a b (hu a b).1 (hu a b).2)
theorem dist_r {h : MH} {n t u : Int} {o : Option String} {Q : QV} {E : QX} (r : TurnR n t o) (hu : 2 ≤ n → n ≤ 8 → 0 ≤ u ∧ u < 2 * n) (q : o = none → ∀ v, Q v h) (e : ∀ c, o = some c → E c h) : F_distance [.int n, .int t, .int u] h Q E := by
  simp [F_distance_eq, small]; refine turn_r r (fun z => ?_) e; have := r.pos z
  have := hu this.1 this.2.1
  exact turn_ok (by omega) (by omega) this.1 this.2 ⟨by omega, q z _⟩
theorem dist_r2 {h : MH} {n t u : Int} {o : Option String} {Q : QV} {E : QX} (r : TurnR n t o) (hu : 2 ≤ n → n ≤ 8 → 0 ≤ u ∧ u < 2 * n) (q : o = none → ∀ v, Q v h) (e : ∀ c, o = some c → E c h) : F_distance [.int n, .int u, .int t] h Q E := by
  simp [F_distance_eq, small]
  rcases r.other hu with y | ⟨c, z, y⟩
  · refine turn_r y (fun _ => ?_) (fun _ h => nomatch h)
    have := y.pos rfl
    exact turn_r r (fun z => ⟨by omega, q z _⟩) e
  · subst z
    refine turn_r y (fun h => nomatch h) (fun d z => ?_)
    cases z; exact e _ rfl
theorem TurnR.cls {n t : Int} {o : Option String} (r : TurnR n t o) {c : String} (e : o = some c) : c = "BadSize" ∨ c = "NoTurn" := by
  cases r with
  | ok a b c d => exact nomatch e
  | size a => cases e; exact Or.inl rfl
  | turn a b c => cases e; exact Or.inr rfl
end Mi
end TxSTurns

section TxSMarks
set_option autoImplicit false
set_option linter.all false
set_option maxRecDepth 100000
set_option maxHeartbeats 4000000
namespace Mi
theorem lap_v {h : MH} {n t : Int} {o : Option String} {Q : QV} {E : QX} (r : TurnR n t o) (q : o = none → Q (.int (t / n)) h) (e : ∀ c, o = some c → E c h) : F_lap_of [.int n, .int t] h Q E := by
  simp [F_lap_of_eq, dmax_eq]; refine turn_r r (fun z => ?_) e; have := r.pos z; exact ⟨by omega, by omega, q z⟩
theorem lap01 {n t : Int} (a : 2 ≤ n) (c : 0 ≤ t) (d : t < 2 * n) : t / n = if n ≤ t then 1 else 0 := by
  split
  · have h1 : 1 ≤ t / n := by rw [Int.le_ediv_iff_mul_le (by omega)]; omega
    have h2 : t / n < 2 := by rw [Int.ediv_lt_iff_lt_mul (by omega)]; omega
    omega
  · exact Int.ediv_eq_zero_of_lt c (by omega)
theorem mark_ok {h : MH} {m : Int} {Q : QV} {E : QX} (a : 0 ≤ m) (b : m ≤ 3) (q : Q .non h) : F_look_at_mark [.int m] h Q E := by
  simp [F_look_at_mark_eq]
  rw [if_neg (by omega), if_neg (by omega)]
  exact q
theorem mark_bad {h : MH} {m : Int} {Q : QV} {E : QX} (a : m < 0 ∨ 3 < m) (q : E "BadMark" h) : F_look_at_mark [.int m] h Q E := by
  simp [F_look_at_mark_eq]
  by_cases c : m < 0
  · rw [if_pos c]; exact q
  · rw [if_neg c, if_pos (by omega)]; exact q
theorem full_v {h : MH} {n t : Int} {o : Option String} {Q : QV} {E : QX} (r : TurnR n t o) (q : o = none → Q (.int (2 * (t / n) + 1)) h) (e : ∀ c, o = some c → E c h) : F_full_mark [.int n, .int t] h Q E := by
  simp [F_full_mark_eq, small]
  exact lap_v r (fun z => by simpa [small] using q z) e
theorem free_v {h : MH} {n t : Int} {o : Option String} {Q : QV} {E : QX} (r : TurnR n t o) (q : o = none → Q (.int (2 * (t / n))) h) (e : ∀ c, o = some c → E c h) : F_free_mark [.int n, .int t] h Q E := by
  simp [F_free_mark_eq, small]
  exact lap_v r (fun z => by simpa [small] using q z) e
/-- with a mark, too -/
inductive MarkR (n t m : Int) : Option String → Prop where
  | ok (a : TurnR n t none) (b : 0 ≤ m) (c : m ≤ 3) : MarkR n t m none
  | turn (c : String) (a : TurnR n t (some c)) : MarkR n t m (some c)
  | mark (a : TurnR n t none) (b : m < 0 ∨ 3 < m) : MarkR n t m (some "BadMark")
theorem give_v {h : MH} {n t m : Int} {o : Option String} {Q : QV} {E : QX} (r : MarkR n t m o) (q : o = none → Q (.bl (decide (m = 2 * (1 - t / n)))) h) (e : ∀ c, o = some c → E c h) : F_may_give [.int n, .int t, .int m] h Q E := by
  simp [F_may_give_eq, small]
  cases r with
  | ok a b c => exact lap_v a (fun _ => mark_ok b c (by simpa [small] using q rfl)) fun c z => nomatch z
  | turn c a => exact lap_v a (fun z => nomatch z) fun c' z => by cases z; exact e _ rfl
  | mark a b => exact lap_v a (fun _ => mark_bad b (e _ rfl)) fun c z => nomatch z
theorem take_v {h : MH} {n t m : Int} {o : Option String} {Q : QV} {E : QX} (r : MarkR n t m o) (q : o = none → Q (.bl (decide (m = 2 * (t / n) + 1))) h) (e : ∀ c, o = some c → E c h) : F_may_take [.int n, .int t, .int m] h Q E := by
  simp [F_may_take_eq, small]
  cases r with
  | ok a b c => exact lap_v a (fun _ => mark_ok b c (by simpa [small] using q rfl)) fun c z => nomatch z
  | turn c a => exact lap_v a (fun z => nomatch z) fun c' z => by cases z; exact e _ rfl
  | mark a b => exact lap_v a (fun _ => mark_bad b (e _ rfl)) fun c z => nomatch z
end Mi
end TxSMarks

section TxSGrow
set_option autoImplicit false
set_option linter.all false
set_option maxRecDepth 100000
set_option maxHeartbeats 4000000
namespace Mi
/-- what lay there outside of region 1 stays -/
def Grow (h h' : MH) : Prop := ∀ r i o, r ≠ 1 → rd h r i = some o → rd h' r i = some o
theorem Grow.refl (h : MH) : Grow h h := fun _ _ _ _ e => e
theorem Grow.trans {a b c : MH} (x : Grow a b) (y : Grow b c) : Grow a c := fun r i o n e => y r i o n (x r i o n e)
theorem grow_new (h : MH) (r : Nat) (o : MO) : Grow h (put h r (h r ++ [o])) := fun q i p _ e => by
  by_cases c : q = r
  · subst c
    rw [rd_put]
    have : i < (h q).length := (List.getElem?_eq_some_iff.mp e).1
    rw [List.getElem?_append_left this]
    exact e
  · rw [rd_put_ne h _ c]; exact e
theorem grow_take {h h' : MH} (f : ∀ r, r ≠ 1 → h' r = h r) : Grow h h' := fun r i o n e => by unfold rd; rw [f r n]; exact e
/-- a list of whole numbers -/
def Ints (h : MH) (v : MV) (ns : List Int) : Prop := ∃ r i, r ≠ 1 ∧ v = .ref r i ∧ rd h r i = some (.lst (ns.map .int))
theorem Ints.grow {h h' : MH} {v : MV} {ns : List Int} (g : Grow h h') (x : Ints h v ns) : Ints h' v ns := by
  obtain ⟨r, i, n, e, z⟩ := x
  exact ⟨r, i, n, e, g r i _ n z⟩
theorem ints_new (h : MH) {r : Nat} (hr : r ≠ 1) (ns : List Int) : Ints (put h r (h r ++ [.lst (ns.map .int)])) (.ref r (h r).length) ns := ⟨r, _, hr, rfl, by simp⟩
/-- a comprehension without if, by a word of the items made so far -/
theorem comp_inv {r : Nat} {chk : MH → Prop} {i : Nat} {e : WE} {σ : MS} {Q : QV} (I : Nat → List MV → MH → Prop) : ∀ (xs : List MV) (k : Nat) (acc : List MV) (h : MH), I k acc h → (∀ k acc h, I k acc h → chk h ∧ acc.length < lim) →
    (∀ (j : Nat) (x : MV) (acc : List MV) (h : MH) (N : QV), xs[j]? = some x → I (k + j) acc h → (∀ v h', I (k + j + 1) (acc ++ [v]) h' → N v h') → e (σ.set i (some x)) h N fun _ _ => False) →
    (∀ acc h, I (k + xs.length) acc h → Q (.ref r (h r).length) (put h r (h r ++ [.lst acc]))) → compL r chk i tYes e σ Q xs acc h
  | [], k, acc, h, h0, hc, hs, hd => by rw [compL_nil]; exact ⟨(hc _ _ _ h0).1, hd acc h h0⟩
  | x :: xs, k, acc, h, h0, hc, hs, hd => by
    rw [compL_cons]
    refine ⟨(hc _ _ _ h0).1, ?_⟩
    simp only [tYes, if_true]
    refine hs 0 x acc h _ rfl h0 fun v h' hI => ⟨(hc _ _ _ h0).2, ?_⟩
    refine comp_inv I xs (k + 1) (acc ++ [v]) h' hI hc (fun j y acc h N e hI hN => ?_) fun acc h hI => ?_
    · have := hs (j + 1) y acc h N (by simpa using e) (by rw [show k + (j + 1) = k + 1 + j by omega]; exact hI)
      rw [show k + (j + 1) + 1 = k + 1 + j + 1 by omega] at this
      exact this hN
    · exact hd acc h (by rw [List.length_cons, show k + (xs.length + 1) = k + 1 + xs.length by omega]; exact hI)
theorem take_g {h : MH} {i : Nat} {m : Int} {Q : QV} {E : QX} (wl : WellAt h i) (h0 : 0 < m) (h1 : m ≤ dmax) (k : ∀ (g : Int) (h' : MH), 0 ≤ g → g < m → WellAt h' i → Grow h h' → Q (.int g) h') :
    F_law_take [.ref 1 i, .int m] h Q E := take_spec wl h0 h1 fun g h' a b w f => k g h' a b w (grow_take f)
theorem far_g {h : MH} {i : Nat} {Q : QV} {E : QX} (wl : WellAt h i) (k : ∀ (g : Int) (h' : MH), 1 ≤ g → g ≤ 10000000000000000000000000000000000000000000000000000000000 → WellAt h' i → Grow h h' → Q (.int g) h') :
    F_law_far [.ref 1 i] h Q E := by
  simp [F_law_far_eq, lim]
  refine take_spec wl (by omega) (le_dmax (by omega)) fun g1 h1 a1 b1 w1 f1 => ?_
  simp [small]
  refine take_spec w1 (by omega) (le_dmax (by omega)) fun g2 h2 a2 b2 w2 f2 => ?_
  refine take_spec (w2.of (by simp)) (by omega) (le_dmax (by omega)) fun g3 h3 a3 b3 w3 f3 => ?_
  have e3 : h3 101 = _ := f3 101 (by decide)
  have fr : Grow h h3 := ((((grow_take f1).trans (grow_take f2)).trans (grow_new h2 101 _)).trans (grow_take f3))
  have hg : g3 = 0 ∨ g3 = 1 := by omega
  rcases hg with rfl | rfl
  · simp [rd, e3]; exact k _ _ (by omega) (by omega) w3 fr
  · simp [rd, e3]; exact k _ _ (by omega) (by omega) w3 fr
end Mi
end TxSGrow

section TxSUtil
set_option autoImplicit false
set_option linter.all false
set_option maxRecDepth 100000
set_option maxHeartbeats 4000000
namespace Mi
theorem grow_set {h h' : MH} (g : Grow h h') {r n : Nat} {o : MO} (e : rd h r n = none) : Grow h (put h' r ((h' r).set n o)) := fun q i p hq z => by
  have z' := g q i p hq z
  by_cases c : q = r
  · subst c
    rw [rd_put, List.getElem?_set_ne]
    · exact z'
    · intro x; subst x; rw [e] at z; cases z
  · rw [rd_put_ne _ _ c]; exact z'
theorem rd_end (h : MH) (r : Nat) : rd h r (h r).length = none := List.getElem?_eq_none (Nat.le_refl _)
theorem rd_lt {h : MH} {r i : Nat} {o : MO} (e : rd h r i = some o) : i < (h r).length := (List.getElem?_eq_some_iff.mp e).1
/-- a for of any target, by a word of the items that are taken -/
theorem forG_inv {chk : MH → Prop} {g : WG} {b : WS} {D : En} (I : Nat → MS → MH → Prop) : ∀ (xs : List MV) (k : Nat) (σ : MS) (h : MH), I k σ h → (∀ k σ h, I k σ h → chk h) →
    (∀ (j : Nat) (x : MV) (σ : MS) (h : MH) (N : MS → MH → Prop), xs[j]? = some x → I (k + j) σ h → (∀ σ h, I (k + j + 1) σ h → N σ h) → g x σ h (fun σ1 h1 => b { D with nx := N, ct := N, bk := D.nx } σ1 h1) fun c h1 => D.ex c σ h1) →
    (∀ σ h, I (k + xs.length) σ h → D.nx σ h) → forL chk g b xs D σ h
  | [], k, σ, h, h0, hc, hs, hd => by rw [forL_nil]; exact ⟨hc k σ h h0, hd σ h h0⟩
  | x :: xs, k, σ, h, h0, hc, hs, hd => by
    rw [forL_cons]
    refine ⟨hc k σ h h0, ?_⟩
    refine hs 0 x σ h _ rfl h0 fun σ h hI => ?_
    refine forG_inv I xs (k + 1) σ h hI hc (fun j y σ h N e hI hN => ?_) fun σ h hI => ?_
    · have := hs (j + 1) y σ h N (by simpa using e) (by rw [show k + (j + 1) = k + 1 + j by omega]; exact hI)
      rw [show k + (j + 1) + 1 = k + 1 + j + 1 by omega] at this
      exact this hN
    · exact hd σ h (by rw [List.length_cons, show k + (xs.length + 1) = k + 1 + xs.length by omega]; exact hI)
theorem comp_map {r : Nat} {chk : MH → Prop} {i : Nat} {e : WE} {σ : MS} {Q : QV} {h : MH} {ns : List Int} {f : Int → MV} (hl : ns.length < lim) (hc : chk h)
    (he : ∀ m ∈ ns, ∀ N : QV, N (f m) h → e (σ.set i (some (.int m))) h N fun _ _ => False) (q : Q (.ref r (h r).length) (put h r (h r ++ [.lst (ns.map f)]))) : compL r chk i tYes e σ Q (ns.map .int) [] h := by
  refine comp_inv (fun k acc h' => h' = h ∧ k ≤ ns.length ∧ acc = (ns.take k).map f) _ 0 [] h ⟨rfl, Nat.zero_le _, rfl⟩ ?_ ?_ ?_
  · rintro k acc h' ⟨rfl, a, rfl⟩
    refine ⟨hc, ?_⟩
    rw [List.length_map, List.length_take]; omega
  · rintro j x acc h' N hj ⟨rfl, a, rfl⟩ hN
    rw [List.getElem?_map] at hj
    obtain ⟨m, e1, rfl⟩ := Option.map_eq_some_iff.mp hj
    have hlt : j < ns.length := (List.getElem?_eq_some_iff.mp e1).1
    refine he m (List.mem_of_getElem? e1) N (hN _ _ ⟨rfl, by omega, ?_⟩)
    rw [Nat.zero_add, List.take_succ, e1]
    simp
  · rintro acc h' ⟨rfl, a, rfl⟩
    rw [List.length_map, Nat.zero_add, List.take_length]
    exact q
theorem allB_const : ∀ ns : List Int, allB (ns.map fun _ => MV.bl true) = some (ns.map fun _ => true)
  | [] => rfl
  | n :: ns => by simp [allB_const ns]
theorem comp_filter {r : Nat} {chk : MH → Prop} {i : Nat} {t : WT} {e : WE} {σ : MS} {Q : QV} {h : MH} {p : Int → Bool} (hc : chk h) : ∀ (ns : List Int) (acc : List MV), acc.length + ns.length < lim →
    (∀ m ∈ ns, ∀ N : Bool → MH → Prop, N (p m) h → t (σ.set i (some (.int m))) h N fun _ _ => False) → (∀ m ∈ ns, ∀ N : QV, N (.int m) h → e (σ.set i (some (.int m))) h N fun _ _ => False) →
    (Q (.ref r (h r).length) (put h r (h r ++ [.lst (acc ++ (ns.filter p).map .int)]))) → compL r chk i t e σ Q (ns.map .int) acc h
  | [], acc, hl, ht, he, q => by rw [List.map_nil, compL_nil]; exact ⟨hc, by simpa using q⟩
  | n :: ns, acc, hl, ht, he, q => by
    rw [List.map_cons, compL_cons]
    refine ⟨hc, ht n List.mem_cons_self _ ?_⟩
    rw [List.length_cons] at hl
    by_cases c : p n = true
    · rw [if_pos c]
      refine he n List.mem_cons_self _ ⟨by omega, comp_filter hc ns _ (by simp; omega) (fun m hm => ht m (List.mem_cons_of_mem _ hm)) (fun m hm => he m (List.mem_cons_of_mem _ hm)) ?_⟩
      rw [List.filter_cons_of_pos c] at q
      simpa using q
    · rw [if_neg c]
      refine comp_filter hc ns _ (by omega) (fun m hm => ht m (List.mem_cons_of_mem _ hm)) (fun m hm => he m (List.mem_cons_of_mem _ hm)) ?_
      rw [List.filter_cons_of_neg c] at q
      exact q
theorem comp_rng {r : Nat} {i : Nat} {e : WE} {σ : MS} {Q : QV} {h : MH} {n : Nat} {f : Nat → MV} (hl : n < lim)
    (he : ∀ k, k < n → ∀ N : QV, N (f k) h → e (σ.set i (some (.int (k : Int)))) h N fun _ _ => False) (q : Q (.ref r (h r).length) (put h r (h r ++ [.lst ((List.range n).map f)]))) : compL r (fun _ => True) i tYes e σ Q (rng 0 n) [] h := by
  refine comp_inv (fun k acc h' => h' = h ∧ k ≤ n ∧ acc = (List.range k).map f) _ 0 [] h ⟨rfl, Nat.zero_le _, rfl⟩ ?_ ?_ ?_
  · rintro k acc h' ⟨rfl, a, rfl⟩
    refine ⟨trivial, ?_⟩
    rw [List.length_map, List.length_range]; omega
  · rintro j x acc h' N hj ⟨rfl, a, rfl⟩ hN
    obtain ⟨hj2, rfl⟩ := rng_at hj
    rw [Int.zero_add]
    refine he j hj2 N (hN _ _ ⟨rfl, by omega, ?_⟩)
    rw [Nat.zero_add, List.range_succ, List.map_append]; rfl
  · rintro acc h' ⟨rfl, a, rfl⟩
    rw [rng_size, Nat.zero_add]
    exact q
mutual
theorem PD.eqv_refl : ∀ d : PD, PD.eqv d d = true
  | .non => by simp
  | .bl b => by simp
  | .int i => by simp
  | .str s => by simp
  | .tup xs => by rw [eqv_tup]; exact PD.eqvs_refl xs
  | .lst xs => by rw [eqv_lst]; exact PD.eqvs_refl xs
theorem PD.eqvs_refl : ∀ d : List PD, PD.eqvs d d = true
  | [] => by simp
  | x :: xs => by rw [eqvs_cc, PD.eqv_refl x, PD.eqvs_refl xs]; rfl
end
theorem datL_bls (h : MH) (n : Nat) : ∀ ns : List Bool, datL h n (ns.map .bl) = some (ns.map .bl)
  | [] => rfl
  | i :: ns => by simp [datL_bls h n ns]
theorem dat_bls {h : MH} {r i : Nat} {ns : List Bool} (e : rd h r i = some (.lst (ns.map .bl))) : dat h deep (.ref r i) = some (.lst (ns.map .bl)) := by
  rw [dat_ref, e]
  simp only [datL_bls, Option.map_some]
theorem eqvs_bls : ∀ a b : List Bool, PD.eqvs (a.map .bl) (b.map .bl) = decide (a = b)
  | [], [] => by simp
  | [], b :: bs => by simp
  | a :: as, [] => by simp
  | a :: as, b :: bs => by
    rw [List.map_cons, List.map_cons, eqvs_cc, eqv_bl, eqvs_bls as bs]
    by_cases c : a = b <;> simp [c]
theorem rep_one (x : MV) : ∀ n : Nat, rep [x] n = List.replicate n x
  | 0 => rfl
  | n + 1 => by
    unfold rep
    rw [List.replicate_succ, List.flatten_cons, List.replicate_succ, ← rep_one x n]
    rfl
theorem grow_app {h g : MH} (x : Grow h g) (r : Nat) (l : List MO) : Grow h (put g r (h r ++ l)) := fun q i p n e => by
  by_cases c : q = r
  · subst c
    rw [rd_put]
    have : i < (h q).length := (List.getElem?_eq_some_iff.mp e).1
    rw [List.getElem?_append_left this]
    exact e
  · rw [rd_put_ne g _ c]; exact x q i p n e
theorem dat_ints {h : MH} {r i : Nat} {ns : List Int} (e : rd h r i = some (.lst (ns.map .int))) : dat h deep (.ref r i) = some (.lst (ns.map .int)) := by
  rw [dat_ref, e]
  simp only [datL_ints, Option.map_some]
theorem cut_to {α : Type} (xs : List α) {q : Int} (h : 0 ≤ q) : cut xs none (some q) = xs.take q.toNat := by
  have e : sIx xs.length xs.length (some q) = min q.toNat xs.length := by
    show (if q < 0 then (q + xs.length).toNat else min q.toNat xs.length) = _
    rw [if_neg (by omega)]
  have e0 : sIx xs.length 0 none = 0 := rfl
  unfold cut
  rw [e, e0, List.drop_zero, Nat.sub_zero]
  by_cases c : q.toNat ≤ xs.length
  · rw [Nat.min_eq_left c]
  · rw [Nat.min_eq_right (by omega), List.take_length, List.take_of_length_le (by omega)]
theorem rep_map (xs : List Int) : ∀ n : Nat, rep (xs.map MV.int) n = (List.replicate n xs).flatten.map MV.int
  | 0 => rfl
  | n + 1 => by
    have := rep_map xs n
    unfold rep at this ⊢
    rw [List.replicate_succ, List.flatten_cons, this, List.replicate_succ, List.flatten_cons, List.map_append]
theorem rep_len (xs : List Int) (n : Nat) : (List.replicate n xs).flatten.length = n * xs.length := by simp

theorem cut_from {α : Type} (xs : List α) (R : Nat) (h : R ≤ xs.length) : cut xs (some (R : Int)) none = xs.drop R := by
  have e : sIx xs.length 0 (some (R : Int)) = R := by
    show (if (R : Int) < 0 then ((R : Int) + xs.length).toNat else min (R : Int).toNat xs.length) = R
    rw [if_neg (by omega), Int.toNat_natCast, Nat.min_eq_left h]
  unfold cut
  rw [e]
  exact List.take_of_length_le (by rw [List.length_drop]; exact Nat.le_refl _)
end Mi
end TxSUtil

section TxSGr
set_option autoImplicit false
set_option linter.all false
set_option maxRecDepth 100000
set_option maxHeartbeats 4000000
namespace Mi
/-- what lay there stays, wells stay wells -/
def Gr (h h' : MH) : Prop := Grow h h' ∧ ∀ i, WellAt h i → WellAt h' i
theorem Gr.refl (h : MH) : Gr h h := ⟨Grow.refl h, fun _ w => w⟩
theorem Gr.trans {a b c : MH} (x : Gr a b) (y : Gr b c) : Gr a c := ⟨x.1.trans y.1, fun i w => y.2 i (x.2 i w)⟩
theorem Gr.rd {h h' : MH} (g : Gr h h') {r i : Nat} {o : MO} (e : rd h r i = some o) (n : r ≠ 1 := by decide) : rd h' r i = some o := g.1 r i o n e
theorem Gr.w {h h' : MH} (g : Gr h h') {i : Nat} (w : WellAt h i) : WellAt h' i := g.2 i w
theorem Ints.gr {h h' : MH} {v : MV} {ns : List Int} (x : Ints h v ns) (g : Gr h h') : Ints h' v ns := x.grow g.1
theorem gr_of {h h' : MH} (g : Grow h h') (k : h' 1 = h 1) : Gr h h' := ⟨g, fun i w => w.of k⟩
theorem gr_new (h : MH) {r : Nat} (hr : r ≠ 1) (o : MO) : Gr h (put h r (h r ++ [o])) := gr_of (grow_new h r o) (put_ne _ _ (fun e => hr e.symm))
theorem gr_set {h h' : MH} (g : Gr h h') {r n : Nat} {o : MO} (hr : r ≠ 1) (e : rd h r n = none) : Gr h (put h' r ((h' r).set n o)) := ⟨grow_set g.1 e, fun i w => (g.2 i w).of (put_ne _ _ (fun e => hr e.symm))⟩
theorem new_of {h h' : MH} {r : Nat} {o : MO} (e : put h r (h r ++ [o]) = h') (hr : r ≠ 1) : Gr h h' ∧ rd h' r (h r).length = some o := by
  rw [← e]; exact ⟨gr_new h hr o, by simp⟩
/-- all stays but one object -/
def Ke (r i : Nat) (h h' : MH) : Prop := (∀ q j o, q ≠ 1 → (q ≠ r ∨ j ≠ i) → Mi.rd h q j = some o → Mi.rd h' q j = some o) ∧ ∀ i, WellAt h i → WellAt h' i
theorem Ke.rd {h h' : MH} {r i : Nat} (g : Ke r i h h') {q j : Nat} {o : MO} (e : Mi.rd h q j = some o) (n : q ≠ 1 := by decide) (m : q ≠ r ∨ j ≠ i := by exact Or.inl (by decide)) : Mi.rd h' q j = some o := g.1 q j o n m e
theorem Ke.w {h h' : MH} {r i : Nat} (g : Ke r i h h') {j : Nat} (w : WellAt h j) : WellAt h' j := g.2 j w
theorem set_of {h h' : MH} {r i : Nat} {o p : MO} (e : put h r ((h r).set i o) = h') (x : rd h r i = some p) (hr : r ≠ 1) : Ke r i h h' ∧ rd h' r i = some o := by
  rw [← e]
  refine ⟨⟨fun q j u hq m z => ?_, fun j w => w.of (put_ne _ _ (fun e => hr e.symm))⟩, ?_⟩
  · by_cases c : q = r
    · subst c
      rw [rd_put, List.getElem?_set_ne (fun z => by rcases m with m | m <;> omega)]
      exact z
    · rw [rd_put_ne _ _ c]; exact z
  · have := rd_lt x
    rw [rd_put]; simp [this]
theorem take_gr {h : MH} {i : Nat} {m : Int} {Q : QV} {E : QX} (wl : WellAt h i) (h0 : 0 < m) (h1 : m ≤ dmax) (k : ∀ (g : Int) (h' : MH), 0 ≤ g → g < m → Gr h h' → Q (.int g) h') :
    F_law_take [.ref 1 i, .int m] h Q E := by
  have hi := wl.lt
  obtain ⟨a, b, c, e, b0, b1, c0, c1⟩ := wl
  simp [F_law_take_eq, e, hi, small, dmax_eq]
  have new : ∀ a' b' : Int, 0 ≤ b' → b' < 1099511627776 → Gr h (put h 1 ((h 1).set i (.lst [.int a', .int b', .int c]))) := fun a' b' z1 z2 => by
    refine ⟨grow_take fun r hr => put_ne h _ hr, fun j w => ?_⟩
    by_cases cj : j = i
    · subst cj
      exact ⟨a', b', c, by simp [hi], z1, z2, c0, c1⟩
    · obtain ⟨x, y, z, e2, w2⟩ := w
      exact ⟨x, y, z, by rw [rd_put, List.getElem?_set_ne (fun q => cj q.symm)]; exact e2, w2⟩
  rw [dmax_eq] at h1
  split
  · exact ⟨h0, h1, k _ _ (Int.emod_nonneg _ (by omega)) (Int.emod_lt_of_pos _ h0) (new _ _ b0 b1)⟩
  · have q0 := Int.emod_nonneg (b * 48271) (show c ≠ 0 by omega)
    have q1 := Int.emod_lt_of_pos (b * 48271) c0
    exact ⟨c0, ⟨by omega, by omega⟩, h0, k _ _ (Int.emod_nonneg _ (by omega)) (Int.emod_lt_of_pos _ h0) (new _ _ (by omega) (by omega))⟩
theorem far_gr {h : MH} {i : Nat} {Q : QV} {E : QX} (wl : WellAt h i) (k : ∀ (g : Int) (h' : MH), 1 ≤ g → g ≤ 10000000000000000000000000000000000000000000000000000000000 → Gr h h' → Q (.int g) h') :
    F_law_far [.ref 1 i] h Q E := by
  simp [F_law_far_eq, lim]
  refine take_gr wl (by omega) (le_dmax (by omega)) fun g1 h1 a1 b1 G1 => ?_
  simp [small]
  refine take_gr (G1.w wl) (by omega) (le_dmax (by omega)) fun g2 h2 a2 b2 G2 => ?_
  try dsimp only
  generalize hh : put h2 101 _ = h3
  obtain ⟨G3, z3⟩ := new_of hh (by decide)
  refine take_gr (((G1.trans G2).trans G3).w wl) (by omega) (le_dmax (by omega)) fun g3 h4 a3 b3 G4 => ?_
  have z := G4.rd z3
  have fr := ((G1.trans G2).trans G3).trans G4
  have hg : g3 = 0 ∨ g3 = 1 := by omega
  rcases hg with rfl | rfl
  · simp [z]; exact k _ _ (by omega) (by omega) fr
  · simp [z]; exact k _ _ (by omega) (by omega) fr
theorem well_gr {xs : List MV} {h : MH} {k : Nat} {Q : QV} {E : QX} (hi : ∀ x ∈ xs, ∃ i, x = .int i) (hk : k < 64) (q : ∀ (h' : MH), WellAt h' (h 1).length → Gr h h' → Q (.ref 1 (h 1).length) h') :
    F_law_well [.cst xs, .int k] h Q E := by
  have main : ∀ (c s : Int) (p : Int) (l : MO), 0 ≤ s → s < 1099511627776 → p ∈ [2147483647, 2147483629, 2147483587, 2147483579, 2147483563, 2147483549, 2147483543, 2147483497] →
      Q (.ref 1 (h 1).length) (put (put h 100 (h 100 ++ [l])) 1 (h 1 ++ [.lst [.int c, .int s, .int p]])) := fun c s p l s0 s1 hp => by
    have ok : WellAt (put (put h 100 (h 100 ++ [l])) 1 (h 1 ++ [.lst [.int c, .int s, .int p]])) (h 1).length := ⟨c, s, p, by simp, s0, s1, by simp at hp; omega, by simp at hp; omega⟩
    refine q _ ok ⟨fun r i o hr e => ?_, fun j w => ?_⟩
    · rw [rd_put_ne _ _ hr]
      exact (grow_new h 100 l) _ _ _ hr e
    · obtain ⟨x, y, z, e2, w2⟩ := w
      exact ⟨x, y, z, by rw [rd_put, List.getElem?_append_left (rd_lt e2)]; exact e2, w2⟩
  have kk : ∃ p : Int, p ∈ [(2147483647 : Int), 2147483629, 2147483587, 2147483579, 2147483563, 2147483549, 2147483543, 2147483497] ∧ atI [MV.int 2147483647, .int 2147483629, .int 2147483587, .int 2147483579, .int 2147483563, .int 2147483549, .int 2147483543, .int 2147483497] ((k : Int) % 8) = some (.int p) := by
    have : k % 8 < 8 := Nat.mod_lt _ (by decide)
    rw [show ((k : Int) % 8) = ((k % 8 : Nat) : Int) by omega, atI_nat]
    rcases (show k % 8 = 0 ∨ k % 8 = 1 ∨ k % 8 = 2 ∨ k % 8 = 3 ∨ k % 8 = 4 ∨ k % 8 = 5 ∨ k % 8 = 6 ∨ k % 8 = 7 by omega) with e | e | e | e | e | e | e | e <;> rw [e] <;> exact ⟨_, by decide, rfl⟩
  obtain ⟨p, hp, ep⟩ := kk
  by_cases c : k < xs.length
  · obtain ⟨x, hx⟩ := hi xs[k] (List.getElem_mem c)
    simp [F_law_well_eq, lim, small, c, atI_nat, hx, rd, ep]
    have z1 := Int.emod_nonneg x (show (2147483489 : Int) ≠ 0 by decide)
    have z2 := Int.emod_lt_of_pos x (show (0 : Int) < 2147483489 by decide)
    have z3 := Int.emod_nonneg ((x % 2147483489 + 1) * (48271 + 2 * k)) (show (2147483489 : Int) ≠ 0 by decide)
    have z4 := Int.emod_lt_of_pos ((x % 2147483489 + 1) * (48271 + 2 * k)) (show (0 : Int) < 2147483489 by decide)
    have hw := Int.emod_nonneg ((x % 2147483489 + 1) * (48271 + 2 * k) % 2147483489 * ((x % 2147483489 + 1) * (48271 + 2 * k) % 2147483489)) (show (2147483477 : Int) ≠ 0 by decide)
    have hv := Int.emod_lt_of_pos ((x % 2147483489 + 1) * (48271 + 2 * k) % 2147483489 * ((x % 2147483489 + 1) * (48271 + 2 * k) % 2147483489)) (show (0 : Int) < 2147483477 by decide)
    refine ⟨Or.inl ⟨by omega, by omega⟩, ⟨by omega, by omega⟩, ?_⟩
    split <;> exact main _ _ _ _ (by omega) (by omega) hp
  · simp [F_law_well_eq, lim, small, c, atI_nat, rd, ep]
    have z3 := Int.emod_nonneg (48271 + 2 * k) (show (2147483489 : Int) ≠ 0 by decide)
    have z4 := Int.emod_lt_of_pos (48271 + 2 * k) (show (0 : Int) < 2147483489 by decide)
    have hw := Int.emod_nonneg ((48271 + 2 * (k : Int)) % 2147483489 * ((48271 + 2 * k) % 2147483489)) (show (2147483477 : Int) ≠ 0 by decide)
    have hv := Int.emod_lt_of_pos ((48271 + 2 * (k : Int)) % 2147483489 * ((48271 + 2 * k) % 2147483489)) (show (0 : Int) < 2147483477 by decide)
    exact ⟨⟨by omega, by omega⟩, main _ _ _ _ (by omega) (by omega) hp⟩
/-- [a, b, ..][take] of a list made just now -/
theorem pick_gr {h : MH} {i r : Nat} {m : Int} {xs : List MV} {K : QV} {E : QX} (wl : WellAt h i) (hr : r ≠ 1) (hm : m = xs.length) (m0 : 0 < m) (m1 : m ≤ 1000)
    (q : ∀ (x : MV) (h' : MH), x ∈ xs → Gr h h' → K x h') :
    F_law_take [.ref 1 i, .int m] (put h r (h r ++ [.lst xs])) (fun z h2 => match (match rd h2 r (h r).length, z with
      | some (.lst xs), .int i => atI xs i
      | some (.dic kvs), k => if (match k with
        | .int _ => true
        | .str _ => true
        | _ => false) = true then atKey k kvs else none
      | _, _ => none) with
      | some v => K v h2
      | none => False) E := by
  generalize hh : put h r _ = h1
  obtain ⟨G, z⟩ := new_of hh hr
  refine take_gr (G.w wl) m0 (le_dmax (by omega)) fun g h2 a b G2 => ?_
  have z2 := G2.rd z hr
  obtain ⟨n, rfl⟩ : ∃ n : Nat, g = n := ⟨g.toNat, by omega⟩
  have hn : n < xs.length := by omega
  simp only [z2, atI_nat, List.getElem?_eq_getElem hn]
  exact q _ _ (List.getElem_mem hn) (G.trans G2)
/-- the same of numbers -/
theorem pickI_gr {h : MH} {i r : Nat} {m : Int} {ns : List Int} {xs : List MV} {P : Int → Prop} {K : QV} {E : QX} (wl : WellAt h i) (hr : r ≠ 1) (e : xs = ns.map .int) (hm : m = ns.length) (m0 : 0 < m) (m1 : m ≤ 1000) (hP : ∀ n ∈ ns, P n)
    (q : ∀ (n : Int) (h' : MH), P n → Gr h h' → K (.int n) h') :
    F_law_take [.ref 1 i, .int m] (put h r (h r ++ [.lst xs])) (fun z h2 => match (match rd h2 r (h r).length, z with
      | some (.lst xs), .int i => atI xs i
      | some (.dic kvs), k => if (match k with
        | .int _ => true
        | .str _ => true
        | _ => false) = true then atKey k kvs else none
      | _, _ => none) with
      | some v => K v h2
      | none => False) E := by
  subst e
  refine pick_gr wl hr (by rw [List.length_map]; exact hm) m0 m1 fun x h' hx G => ?_
  obtain ⟨n, hn, rfl⟩ := List.mem_map.mp hx
  exact q n h' (hP n hn) G
theorem gr_app {h g : MH} (x : Gr h g) {r : Nat} (hr : r ≠ 1) (l : List MO) : Gr h (put g r (h r ++ l)) := ⟨grow_app x.1 r l, fun i w => (x.2 i w).of (put_ne _ _ (fun e => hr e.symm))⟩
theorem rd_app (h g : MH) (r : Nat) (l : List MO) (n : Nat) : rd (put g r (h r ++ l)) r ((h r).length + n) = l[n]? := by
  rw [rd_put, List.getElem?_append_right (by omega)]; congr 1; omega
end Mi
end TxSGr

section TxSFront
set_option autoImplicit false
set_option linter.all false
set_option maxRecDepth 100000
set_option maxHeartbeats 4000000
namespace Mi
def badBit (b : Int) : Bool := decide (b < 0) || decide (1 < b)
/-- how many at the beginning are f -/
def runF (f : Int) : List Int → Nat
  | [] => 0
  | b :: l => if b = f then runF f l + 1 else 0
def frontF (ns : List Int) : String ⊕ Int :=
  if ns.length < 2 ∨ 8 < ns.length then .inl "BadSize"
  else if ns.any badBit = true then .inl "BadMark"
  else if runF (ns.headD 0) ns = ns.length then .inr (ns.length * (1 - ns.headD 0))
  else if ns.headD 0 ∈ ns.drop (runF (ns.headD 0) ns) then .inl "Crooked"
  else .inr (ns.length * ns.headD 0 + (runF (ns.headD 0) ns : Nat))
theorem size_r {h : MH} {n : Int} {Q : QV} {E : QX} (q : ¬ (n < 2 ∨ 8 < n) → Q .non h) (e : (n < 2 ∨ 8 < n) → E "BadSize" h) : F_look_at_size [.int n] h Q E := by
  by_cases c : n < 2 ∨ 8 < n
  · exact size_bad c (e c)
  · exact size_ok (by omega) (by omega) (q c)
theorem flat_ints : ∀ ns : List Int, (ns.map MV.int).all flat = true
  | [] => rfl
  | n :: ns => by rw [List.map_cons, List.all_cons, flat_ints ns]; rfl
theorem any_ints (b : Int) : ∀ ns : List Int, ((ns.map MV.int).any fun y => eqF y (.int b)) = decide (b ∈ ns)
  | [] => by simp
  | n :: ns => by
    rw [List.map_cons, List.any_cons, any_ints b ns]
    simp only [eqF, List.mem_cons]
    by_cases c : n = b
    · simp [c]
    · have c' : ¬ b = n := fun z => c z.symm
      simp [c, c']
theorem inB_ints {h : MH} {r i : Nat} {ns : List Int} (b : Int) (e : rd h r i = some (.lst (ns.map .int))) : inB (.int b) (.ref r i) h = some (decide (b ∈ ns)) := by
  unfold inB
  simp only [e]
  rw [flat_ints, any_ints]
  rfl
theorem runF_le (f : Int) : ∀ l : List Int, runF f l ≤ l.length
  | [] => Nat.le_refl _
  | b :: l => by
    unfold runF
    have := runF_le f l
    split <;> simp <;> omega
theorem runF_at (f : Int) : ∀ (l : List Int) (a : Nat), a < runF f l → l[a]? = some f
  | [], a, h => absurd h (Nat.not_lt_zero a)
  | b :: l, a, h => by
    unfold runF at h
    split at h
    · rename_i c
      cases a with
      | zero => rw [c]; rfl
      | succ a => exact runF_at f l a (by omega)
    · exact absurd h (Nat.not_lt_zero a)
theorem runF_stop (f : Int) : ∀ (l : List Int), runF f l < l.length → ∃ b, l[runF f l]? = some b ∧ b ≠ f
  | [], h => absurd h (Nat.not_lt_zero _)
  | b :: l, h => by
    unfold runF at h ⊢
    split
    · rename_i c
      rw [if_pos c] at h
      exact runF_stop f l (by simpa using h)
    · rename_i c
      exact ⟨b, rfl, c⟩
theorem front_spec {h : MH} {v : MV} {ns : List Int} {Q : QV} {E : QX} (hv : Ints h v ns) (q : ∀ t, frontF ns = .inr t → ∀ h', Grow h h' → h' 1 = h 1 → Q (.int t) h') (e : ∀ c, frontF ns = .inl c → ∀ h', Grow h h' → h' 1 = h 1 → E c h') :
    F_front [v] h Q E := by
  obtain ⟨r, i, hr, rfl, z⟩ := hv
  simp [-sSeq, sSeqK, small, lim, F_front_eq, z]
  refine size_r (fun hs => ?_) fun hs => e _ (by unfold frontF; rw [if_pos (by omega)]) h (Grow.refl h) rfl
  simp only [kont_eq]
  refine seq_cut (fun σ h' => h' = h ∧ ns.any badBit = false ∧ ∃ y, σ = [some (.ref r i), y, none, none]) (fun N hN => ?_) ?_
  · simp [-sSeq, sSeqK, small, lim, z]
    refine forL_inv (fun k σ h' => h' = h ∧ (∀ j, j < k → (ns[j]?).any badBit = false) ∧ ∃ y, σ = [some (.ref r i), y, none, none]) _ 0 _ _ ⟨rfl, fun j hj => absurd hj (Nat.not_lt_zero j), _, rfl⟩ (fun _ _ _ ⟨a, _⟩ => by rw [a]; exact z) ?_ ?_
    · rintro j x σ h' N1 hj ⟨rfl, hb, y, rfl⟩ hN1
      rw [List.getElem?_map] at hj
      obtain ⟨b, hb1, rfl⟩ := Option.map_eq_some_iff.mp hj
      have bad : badBit b = true → E "BadMark" h' := fun hz => e _ (by
        unfold frontF
        rw [if_neg (by omega), if_pos (List.any_eq_true.mpr ⟨b, List.mem_of_getElem? hb1, hz⟩)]) h' (Grow.refl h') rfl
      simp
      split
      · rename_i w
        exact bad (by unfold badBit; simp [w])
      split
      · rename_i w
        exact bad (by unfold badBit; simp [w])
      · rename_i w1 w2
        refine hN1 _ _ ⟨rfl, fun k hk => ?_, _, rfl⟩
        by_cases c : k = j
        · subst c
          rw [hb1]
          show badBit b = false
          unfold badBit
          simp; omega
        · exact hb k (by omega)
    · rintro σ h' ⟨rfl, hb, y, rfl⟩
      refine hN _ _ ⟨rfl, ?_, _, rfl⟩
      cases ha : ns.any badBit with
      | false => rfl
      | true =>
        obtain ⟨b, hm, hz⟩ := List.any_eq_true.mp ha
        obtain ⟨k, hk⟩ := List.getElem?_of_mem hm
        have := hb k (by have := (List.getElem?_eq_some_iff.mp hk).1; simpa using this)
        rw [hk] at this
        exact absurd (show badBit b = false from this) (by rw [hz]; decide)
  rintro σ h' ⟨rfl, hb, y, rfl⟩
  obtain ⟨b0, bs, rfl⟩ : ∃ b0 bs, ns = b0 :: bs := by
    cases ns with
    | nil => exact absurd (Or.inl (by simp)) hs
    | cons b bs => exact ⟨b, bs, rfl⟩
  simp [-sSeq, sSeqK, small, lim, z]
  simp only [kont_eq]; simp [-sSeq, sSeqK, small, lim]
  simp only [kont_eq]
  refine seq_cut (fun σ h2 => h2 = h' ∧ σ = [some (.ref r i), y, some (.int b0), some (.int (runF b0 (b0 :: bs) : Nat))]) (fun N hN => ?_) ?_
  · simp [-sSeq, sSeqK, small, lim]
    have rl := runF_le b0 (b0 :: bs)
    refine ⟨_, while_inv (fun k σ h2 => h2 = h' ∧ ∃ a : Nat, a + k = runF b0 (b0 :: bs) ∧ σ = [some (.ref r i), y, some (.int b0), some (.int a)]) ?_ (runF b0 (b0 :: bs)) _ _ ⟨rfl, 0, by omega, rfl⟩⟩
    rintro k σ h2 N2 ⟨rfl, a, ha, rfl⟩ hN2
    by_cases c : a < runF b0 (b0 :: bs)
    · have g := runF_at b0 _ a c
      simp [z, atI_nat, -List.map_cons, g]
      rw [if_pos (by simp at rl; omega)]
      refine hN2 (k - 1) _ _ (by omega) ⟨rfl, a + 1, by omega, by simp⟩
    · have ea : a = runF b0 (b0 :: bs) := by omega
      by_cases d : a < (b0 :: bs).length
      · obtain ⟨b, g1, g2⟩ := runF_stop b0 (b0 :: bs) (by omega)
        rw [← ea] at g1
        simp [z, atI_nat, -List.map_cons, g1, g2]
        refine hN _ _ ⟨rfl, by rw [ea]⟩
      · simp [z, atI_nat, -List.map_cons]
        rw [if_neg (by simp at d; omega)]
        refine hN _ _ ⟨rfl, by rw [ea]⟩
  rintro σ h2 ⟨rfl, rfl⟩
  have rl := runF_le b0 (b0 :: bs)
  have hs' : 2 ≤ (b0 :: bs).length ∧ (b0 :: bs).length ≤ 8 := by omega
  have hb0 : 0 ≤ b0 ∧ b0 ≤ 1 := by
    simp [badBit] at hb
    omega
  have F : frontF (b0 :: bs) = if runF b0 (b0 :: bs) = (b0 :: bs).length then .inr ((b0 :: bs).length * (1 - b0)) else if b0 ∈ (b0 :: bs).drop (runF b0 (b0 :: bs)) then .inl "Crooked" else .inr ((b0 :: bs).length * b0 + (runF b0 (b0 :: bs) : Nat)) := by
    unfold frontF
    rw [if_neg (by omega), if_neg (by rw [hb]; decide)]
    rfl
  generalize runF b0 (b0 :: bs) = R at *
  simp [-sSeq, sSeqK, small, lim, z]
  by_cases c : R = (b0 :: bs).length
  · rw [if_pos (by simp at c; omega)]
    refine ⟨Or.inr (by omega), q _ (by rw [F, if_pos c]; simp) h2 (Grow.refl h2) rfl⟩
  rw [if_neg (by simp at c; omega)]
  rw [if_neg c] at F
  simp only [kont_eq]; simp [-sSeq, sSeqK, small, lim, z]
  rw [← List.map_cons, cut_from _ _ (by rw [List.length_map]; exact rl), ← List.map_drop, inB_ints (ns := (b0 :: bs).drop R) b0 (by simp)]
  have g := grow_new h2 136 (.lst (((b0 :: bs).drop R).map .int))
  by_cases d : b0 ∈ (b0 :: bs).drop R
  · simp only [d, decide_true, if_true]
    exact e _ (by rw [F, if_pos d]) _ g (put_ne _ _ (by decide))
  · simp only [d, decide_false]
    have z' := g _ _ _ hr z
    rw [if_neg (by decide)]
    have g1 : put h2 136 (h2 136 ++ [.lst (((b0 :: bs).drop R).map .int)]) 1 = h2 1 := put_ne _ _ (by decide)
    generalize put h2 136 (h2 136 ++ [.lst (((b0 :: bs).drop R).map .int)]) = h3 at *
    simp only [kont_eq]; simp [-sSeq, sSeqK, small, lim, z']
    exact ⟨Or.inr (by omega), q _ (by rw [F, if_neg d]; simp) _ g (by assumption)⟩
end Mi
end TxSFront

section TxSSearch
set_option autoImplicit false
set_option linter.all false
set_option maxRecDepth 100000
set_option maxHeartbeats 4000000
namespace Mi
def rowF (n t : Nat) : List Int := List.replicate (t % n) ((t / n : Nat) : Int) ++ List.replicate (n - t % n) (1 - ((t / n : Nat) : Int))
def searchF (ns : List Int) : Option Nat := (List.range (2 * ns.length)).find? fun t => decide (ns = rowF ns.length t)
def optV : Option Nat → MV
  | some t => .int (t : Int)
  | none => .non
theorem find_first {p : Nat → Bool} {n j : Nat} (hj : j < n) (hp : p j = true) (hn : ∀ k, k < j → p k = false) : (List.range n).find? p = some j := by
  rw [List.find?_range_eq_some]
  exact ⟨hp, List.mem_range.mpr hj, fun k hk => by rw [hn k hk]; rfl⟩
theorem lawfront_spec {h : MH} {v : MV} {ns : List Int} {Q : QV} {E : QX} (hv : Ints h v ns) (h1 : 1 ≤ ns.length) (h2 : ns.length ≤ 1000) (q : ∀ h', Grow h h' → h' 1 = h 1 → Q (optV (searchF ns)) h') :
    F_law_front [v] h Q E := by
  obtain ⟨r, i, hr, rfl, z⟩ := hv
  simp [-sSeq, sSeqK, small, lim, F_law_front_eq, z]
  simp only [kont_eq]; simp [-sSeq, sSeqK, small, lim]
  refine ⟨by unfold big; omega, ?_⟩
  refine forL_inv (fun k σ h' => Grow h h' ∧ h' 1 = h 1 ∧ (∀ j, j < k → ns ≠ rowF ns.length j) ∧ ∃ a b c d, σ = [some (.ref r i), some (.int ns.length), a, b, c, d]) _ 0 _ _ ⟨Grow.refl h, rfl, fun j hj => absurd hj (Nat.not_lt_zero j), _, _, _, _, rfl⟩ (fun _ _ _ _ => trivial) ?_ ?_
  · rintro j x σ h' N hj ⟨g, g1, hb, y1, y2, y3, y4, rfl⟩ hN
    obtain ⟨hj, rfl⟩ := rng_at hj
    have hj : j < 2 * ns.length := by omega
    simp [-sSeq, sSeqK, small, lim, dmax_eq]
    refine ⟨by omega, by omega, ?_⟩
    simp only [kont_eq]; simp [-sSeq, sSeqK, small, lim]
    refine ⟨by omega, ?_⟩
    have e1 : (j : Int) % (ns.length : Int) = ((j % ns.length : Nat) : Int) := (Int.natCast_emod j ns.length).symm
    have e2 : (j : Int) / (ns.length : Int) = ((j / ns.length : Nat) : Int) := (Int.natCast_ediv j ns.length).symm
    have e3 : j % ns.length < ns.length := Nat.mod_lt _ (by omega)
    have e4 : (ns.length : Int) - ((j % ns.length : Nat) : Int) = ((ns.length - j % ns.length : Nat) : Int) := by omega
    have e5 : ∀ a : Nat, (List.replicate a (MV.int ((j / ns.length : Nat) : Int)) ++ List.replicate (ns.length - j % ns.length) (MV.int (1 - ((j / ns.length : Nat) : Int)))) = (List.replicate a ((j / ns.length : Nat) : Int) ++ List.replicate (ns.length - j % ns.length) (1 - ((j / ns.length : Nat) : Int))).map MV.int := fun a => by
      rw [List.map_append, List.map_replicate, List.map_replicate]
    simp only [kont_eq]; simp [-sSeq, sSeqK, small, lim, rep_one, rd]
    simp only [e1, e2, e4, Int.toNat_natCast]
    refine ⟨by omega, by omega, by omega, by omega, by omega, ?_⟩
    rw [e5]
    generalize hf : put (put (put (put h' 133 _) 0 _) 134 _) 0 _ = h4
    have G : Grow h' h4 := by
      rw [← hf]
      exact grow_app (grow_app (grow_app (grow_app (Grow.refl h') 133 _) 0 _) 134 _) 0 _
    have G1 : h4 1 = h' 1 := by rw [← hf]; simp
    have r4 : rd h4 0 ((h' 0).length + 2) = some (.lst ((rowF ns.length j).map .int)) := by
      rw [← hf, rd_put, List.getElem?_append_right (by omega), show (h' 0).length + 2 - (h' 0).length = 2 by omega]
      rfl
    have z4 := G _ _ _ hr (g _ _ _ hr z)
    simp only [kont_eq]
    simp [-dat_ref, dat_ints z4, dat_ints r4, eqvs_ints]
    split
    · rename_i c
      have e : searchF ns = some j := find_first (by omega) (by simpa using c) fun k hk => by simpa using hb k (by omega)
      rw [e] at q
      exact q _ (g.trans G) (by rw [G1, g1])
    · rename_i c
      refine hN _ _ ⟨g.trans G, by rw [G1, g1], fun k hk => ?_, _, _, _, _, rfl⟩
      by_cases d : k = j
      · rw [d]; exact c
      · exact hb k (by omega)
  · rintro σ h' ⟨g, g1, hb, y1, y2, y3, y4, rfl⟩
    simp only [kont_eq]; simp [-sSeq, sSeqK, small, lim, kont_eq]
    have e : searchF ns = none := by
      unfold searchF
      rw [List.find?_eq_none]
      intro t ht
      have := hb t (by have := List.mem_range.mp ht; simp; omega)
      simp [this]
    rw [e] at q
    exact q _ g g1
theorem frontF_cls {ns : List Int} {c : String} (e : frontF ns = .inl c) : c = "BadSize" ∨ c = "BadMark" ∨ c = "Crooked" := by
  unfold frontF at e
  split at e
  · cases e; exact Or.inl rfl
  split at e
  · cases e; exact Or.inr (Or.inl rfl)
  split at e
  · cases e
  split at e
  · cases e; exact Or.inr (Or.inr rfl)
  · cases e
def bitsOk (ns : List Int) : Prop := 2 ≤ ns.length ∧ ns.length ≤ 8 ∧ ∀ b ∈ ns, b = 0 ∨ b = 1
/-! the plain law -/
def allBits : Nat → List (List Int)
  | 0 => [[]]
  | n + 1 => (allBits n).flatMap fun l => [0 :: l, 1 :: l]
theorem mem_allBits : ∀ ns : List Int, (∀ b ∈ ns, b = 0 ∨ b = 1) → ns ∈ allBits ns.length
  | [], _ => by simp [allBits]
  | b :: l, h => by
    have hl := mem_allBits l fun x hx => h x (List.mem_cons_of_mem _ hx)
    rw [List.length_cons, allBits, List.mem_flatMap]
    refine ⟨l, hl, ?_⟩
    rcases h b List.mem_cons_self with rfl | rfl <;> simp
def sameF (ns : List Int) : Bool := match searchF ns, frontF ns with
  | some t, .inr u => decide ((t : Int) = u)
  | none, .inl c => decide (c = "Crooked")
  | _, _ => false
theorem all_same : ([2, 3, 4, 5, 6, 7, 8].all fun n => (allBits n).all sameF) = true := by decide +kernel
theorem same_ok {ns : List Int} (o : bitsOk ns) : sameF ns = true := by
  obtain ⟨a, b, c⟩ := o
  have h := List.all_eq_true.mp all_same ns.length (by
    simp only [List.mem_cons, List.not_mem_nil, or_false]; omega)
  exact List.all_eq_true.mp h ns (mem_allBits ns c)
end Mi
end TxSSearch

section TxSRows
set_option autoImplicit false
set_option linter.all false
set_option maxRecDepth 100000
set_option maxHeartbeats 4000000
namespace Mi
theorem lap_bits_spec {h : MH} {v : MV} {ns : List Int} {Q : QV} {E : QX} (hv : Ints h v ns) (hl : ns.length < lim) (q : Q (.ref 156 (h 156).length) (put h 156 (h 156 ++ [.lst ((ns.map fun m => m / 2).map .int)]))) : F_lap_bits [v] h Q E := by
  obtain ⟨r, i, hr, rfl, z⟩ := hv
  simp [-sSeq, sSeqK, small, lim, F_lap_bits_eq, z]
  refine comp_map (f := fun m => .int (m / 2)) hl z (fun m _ N hN => ?_) (by rw [List.map_map] at q; exact q)
  simp [dmax_eq]
  exact hN
theorem odd_bits_spec {h : MH} {v : MV} {ns : List Int} {Q : QV} {E : QX} (hv : Ints h v ns) (hl : ns.length < lim) (q : Q (.ref 157 (h 157).length) (put h 157 (h 157 ++ [.lst ((ns.map fun m => (m / 2 + m) % 2).map .int)]))) : F_odd_bits [v] h Q E := by
  obtain ⟨r, i, hr, rfl, z⟩ := hv
  simp [-sSeq, sSeqK, small, lim, F_odd_bits_eq, z]
  refine comp_map (f := fun m => .int ((m / 2 + m) % 2)) hl z (fun m _ N hN => ?_) (by rw [List.map_map] at q; exact q)
  simp [dmax_eq]
  exact hN
def badMark (m : Int) : Bool := decide (m < 0) || decide (3 < m)
def marksO (ns : List Int) : Option String := if ns.length < 2 ∨ 8 < ns.length then some "BadSize" else if ns.any badMark = true then some "BadMark" else none
theorem mark_r {h : MH} {m : Int} {Q : QV} {E : QX} (q : badMark m = false → Q .non h) (e : badMark m = true → E "BadMark" h) : F_look_at_mark [.int m] h Q E := by
  cases c : badMark m with
  | true => exact mark_bad (by simpa [badMark] using c) (e c)
  | false => exact mark_ok (by simp [badMark] at c; omega) (by simp [badMark] at c; omega) (q c)
theorem marks_r {h : MH} {v : MV} {ns : List Int} {Q : QV} {E : QX} (hv : Ints h v ns) (q : marksO ns = none → Q .non h) (e : ∀ c, marksO ns = some c → E c h) : F_look_at_marks [v] h Q E := by
  obtain ⟨r, i, hr, rfl, z⟩ := hv
  simp [-sSeq, sSeqK, small, lim, F_look_at_marks_eq, z]
  refine size_r (fun hs => ?_) fun hs => e _ (by unfold marksO; rw [if_pos (by omega)])
  simp only [kont_eq]; simp [-sSeq, sSeqK, small, lim, z]
  refine forL_inv (fun k σ h' => h' = h ∧ (∀ j, j < k → (ns[j]?).any badMark = false) ∧ ∃ y, σ = [some (.ref r i), y]) _ 0 _ _ ⟨rfl, fun j hj => absurd hj (Nat.not_lt_zero j), _, rfl⟩ (fun _ _ _ ⟨a, _⟩ => by rw [a]; exact z) ?_ ?_
  · rintro j x σ h' N1 hj ⟨rfl, hb, y, rfl⟩ hN1
    rw [List.getElem?_map] at hj
    obtain ⟨b, hb1, rfl⟩ := Option.map_eq_some_iff.mp hj
    simp
    refine mark_r (fun c => ?_) fun c => e _ ?_
    · refine hN1 _ _ ⟨rfl, fun k hk => ?_, _, rfl⟩
      by_cases d : k = j
      · subst d
        rw [hb1]
        exact c
      · exact hb k (by omega)
    · unfold marksO
      rw [if_neg (by omega), if_pos (List.any_eq_true.mpr ⟨b, List.mem_of_getElem? hb1, c⟩)]
  · rintro σ h' ⟨rfl, hb, y, rfl⟩
    simp
    refine q ?_
    unfold marksO
    rw [if_neg (by omega), if_neg]
    intro ha
    obtain ⟨b, hm, hz⟩ := List.any_eq_true.mp ha
    obtain ⟨k, hk⟩ := List.getElem?_of_mem hm
    have := hb k (by have := (List.getElem?_eq_some_iff.mp hk).1; simpa using this)
    rw [hk] at this
    exact absurd (show badMark b = false from this) (by rw [hz]; decide)
def giverF (ns : List Int) : String ⊕ Int := match marksO ns with
  | some c => .inl c
  | none => frontF (ns.map fun m => m / 2)
def takerF (ns : List Int) : String ⊕ Int := match marksO ns with
  | some c => .inl c
  | none => frontF (ns.map fun m => (m / 2 + m) % 2)
theorem marksO_len {ns : List Int} (h : marksO ns = none) : 2 ≤ ns.length ∧ ns.length ≤ 8 := by
  unfold marksO at h
  split at h
  · cases h
  · omega
theorem giver_spec {h : MH} {v : MV} {ns : List Int} {Q : QV} {E : QX} (hv : Ints h v ns) (q : ∀ t, giverF ns = .inr t → ∀ h', Grow h h' → h' 1 = h 1 → Q (.int t) h') (e : ∀ c, giverF ns = .inl c → ∀ h', Grow h h' → h' 1 = h 1 → E c h') : F_giver_turn [v] h Q E := by
  simp [-sSeq, sSeqK, small, lim, F_giver_turn_eq]
  refine marks_r hv (fun o => ?_) fun c o => e c (by unfold giverF; rw [o]) h (Grow.refl h) rfl
  have G : giverF ns = frontF (ns.map fun m => m / 2) := by unfold giverF; rw [o]
  have hl := marksO_len o
  simp only [kont_eq]
  simp [-sSeq, sSeqK, small, lim]
  refine lap_bits_spec hv (by unfold lim; omega) ?_
  refine front_spec (ints_new h (by decide) _) (fun t ht h' g g1 => ?_) fun c hc h' g g1 => ?_
  · exact q t (by rw [G]; exact ht) h' ((grow_new h 156 _).trans g) (by rw [g1, put_ne _ _ (by decide)])
  · exact e c (by rw [G]; exact hc) h' ((grow_new h 156 _).trans g) (by rw [g1, put_ne _ _ (by decide)])
theorem taker_spec {h : MH} {v : MV} {ns : List Int} {Q : QV} {E : QX} (hv : Ints h v ns) (q : ∀ t, takerF ns = .inr t → ∀ h', Grow h h' → h' 1 = h 1 → Q (.int t) h') (e : ∀ c, takerF ns = .inl c → ∀ h', Grow h h' → h' 1 = h 1 → E c h') : F_taker_turn [v] h Q E := by
  simp [-sSeq, sSeqK, small, lim, F_taker_turn_eq]
  refine marks_r hv (fun o => ?_) fun c o => e c (by unfold takerF; rw [o]) h (Grow.refl h) rfl
  have G : takerF ns = frontF (ns.map fun m => (m / 2 + m) % 2) := by unfold takerF; rw [o]
  have hl := marksO_len o
  simp only [kont_eq]
  simp [-sSeq, sSeqK, small, lim]
  refine odd_bits_spec hv (by unfold lim; omega) ?_
  refine front_spec (ints_new h (by decide) _) (fun t ht h' g g1 => ?_) fun c hc h' g g1 => ?_
  · exact q t (by rw [G]; exact ht) h' ((grow_new h 157 _).trans g) (by rw [g1, put_ne _ _ (by decide)])
  · exact e c (by rw [G]; exact hc) h' ((grow_new h 157 _).trans g) (by rw [g1, put_ne _ _ (by decide)])
end Mi
end TxSRows

section TxSMof
set_option autoImplicit false
set_option linter.all false
set_option maxRecDepth 100000
set_option maxHeartbeats 4000000
namespace Mi
theorem bitsof_spec {h : MH} {n t : Nat} {Q : QV} {E : QX} (a : 2 ≤ n) (b : n ≤ 8) (c : t < 2 * n) (q : ∀ i h', rd h' 0 i = some (.lst ((rowF n t).map .int)) → Grow h h' → h' 1 = h 1 → Q (.ref 0 i) h') : F_bits_of [.int n, .int t] h Q E := by
  simp [-sSeq, sSeqK, small, lim, F_bits_of_eq]
  refine lap_ok (by omega) (by omega) (by omega) (by omega) ?_
  simp only [kont_eq]; simp [-sSeq, sSeqK, small, lim]
  refine place_ok (by omega) (by omega) (by omega) (by omega) ?_
  simp only [kont_eq]; simp [-sSeq, sSeqK, small, lim, rep_one, rd]
  have e1 : (t : Int) % (n : Int) = ((t % n : Nat) : Int) := (Int.natCast_emod t n).symm
  have e2 : (t : Int) / (n : Int) = ((t / n : Nat) : Int) := (Int.natCast_ediv t n).symm
  have e3 : t % n < n := Nat.mod_lt _ (by omega)
  have e4 : (n : Int) - ((t % n : Nat) : Int) = ((n - t % n : Nat) : Int) := by omega
  have e5 : (List.replicate (t % n) (MV.int ((t / n : Nat) : Int)) ++ List.replicate (n - t % n) (MV.int (1 - ((t / n : Nat) : Int)))) = (rowF n t).map MV.int := by
    unfold rowF; rw [List.map_append, List.map_replicate, List.map_replicate]
  simp only [e1, e2, e4, Int.toNat_natCast]
  refine ⟨by omega, by omega, by omega, by omega, by omega, ?_⟩
  rw [e5]
  refine q _ _ ?_ ?_ (by simp)
  · rw [rd_put, List.getElem?_append_right (by omega)]; simp
  · exact grow_app (grow_app (grow_app (grow_app (Grow.refl h) 153 _) 0 _) 154 _) 0 _
def marksF (n t g : Nat) : List Int := List.zipWith (fun l o => 2 * l + (l + o) % 2) (rowF n g) (rowF n t)
theorem zip_ints : ∀ a b : List Int, ((a.map MV.int).zip (b.map MV.int)).map (fun p => MV.tup [p.1, p.2]) = (a.zip b).map fun p => MV.tup [.int p.1, .int p.2]
  | [], _ => by simp
  | _ :: _, [] => by simp
  | a :: as, b :: bs => by simp [zip_ints as bs]
theorem rowF_len {n t : Nat} (a : 0 < n) : (rowF n t).length = n := by
  unfold rowF
  have := Nat.mod_lt t a
  rw [List.length_append, List.length_replicate, List.length_replicate]; omega
theorem marksof_ok {h : MH} {n t g : Nat} {Q : QV} {E : QX} (a : 2 ≤ n) (b : n ≤ 8) (c : t < 2 * n) (d : g < 2 * n) (z : ((g : Int) - t) % (2 * n) ≤ n) (q : ∀ i h', rd h' 152 i = some (.lst ((marksF n t g).map .int)) → Grow h h' → h' 1 = h 1 → Q (.ref 152 i) h') : F_marks_of [.int n, .int t, .int g] h Q E := by
  simp [-sSeq, sSeqK, small, lim, F_marks_of_eq]
  refine turn_ok (by omega) (by omega) (by omega) (by omega) ?_
  simp only [kont_eq]; simp [-sSeq, sSeqK, small, lim]
  refine turn_ok (by omega) (by omega) (by omega) (by omega) ?_
  simp only [kont_eq]; simp [-sSeq, sSeqK, small, lim]
  refine distance_ok (by omega) (by omega) (by omega) (by omega) (by omega) (by omega) ?_
  simp [-sSeq, sSeqK, small, lim]
  rw [if_neg (by omega)]
  simp only [kont_eq]; simp [-sSeq, sSeqK, small, lim]
  simp only [kont_eq]; simp [-sSeq, sSeqK, small, lim]
  have g0 := grow_new h 152 (.lst [])
  have l0 : rd (put h 152 (h 152 ++ [.lst []])) 152 (h 152).length = some (.lst []) := by simp
  generalize e0 : put h 152 (h 152 ++ [.lst []]) = h0 at *
  have k0 : h0 1 = h 1 := by rw [← e0]; simp
  have n0 : (h0 152).length = (h 152).length + 1 := by rw [← e0]; simp
  clear e0
  refine bitsof_spec a b d fun j1 h1 z1 g1 k1 => ?_
  refine bitsof_spec a b c fun j2 h2 z2 g2 k2 => ?_
  have z1 := g2 _ _ _ (by decide) z1
  simp [-sSeq, sSeqK, z1, z2]
  rw [zip_ints]
  refine forG_inv (fun k σ h' => Grow h h' ∧ h' 1 = h 1 ∧ rd h' 0 j1 = some (MO.lst (List.map MV.int (rowF n g))) ∧ rd h' 0 j2 = some (MO.lst (List.map MV.int (rowF n t))) ∧ k ≤ n ∧
    rd h' 152 (h 152).length = some (.lst (((marksF n t g).take k).map .int)) ∧ ∃ x y, σ = [some (MV.int ↑n), some (MV.int ↑t), some (MV.int ↑g), some (MV.ref 152 (h 152).length), x, y]) _ 0 _ _
    ⟨(g0.trans g1).trans g2, by rw [k2, k1, k0], z1, z2, by omega, by simpa using (g1.trans g2) _ _ _ (by decide) l0, _, _, rfl⟩ ?_ ?_ ?_
  · rintro k σ h' ⟨_, _, y1, y2, _⟩
    simp [y1, y2]
  · rintro k x σ h' N hk ⟨G, G1, y1, y2, kn, y3, w1, w2, rfl⟩ hN
    rw [List.getElem?_map] at hk
    obtain ⟨⟨l, o⟩, hk1, rfl⟩ := Option.map_eq_some_iff.mp hk
    have hlen : k < n := by
      have := (List.getElem?_eq_some_iff.mp hk1).1
      rw [List.length_zip, rowF_len (by omega), rowF_len (by omega)] at this; omega
    rw [Nat.zero_add] at y3 hN
    simp [-sSeq, sSeqK, small, lim, y3, dmax_eq]
    have em : (marksF n t g)[k]? = some (2 * l + (l + o) % 2) := by
      unfold marksF
      obtain ⟨p1, p2⟩ := List.getElem?_zip_eq_some.mp hk1
      rw [List.getElem?_zipWith, p1, p2]
    refine ⟨by omega, hN _ _ ⟨grow_set G (rd_end h 152), by rw [put_ne _ _ (by decide)]; exact G1, ?_, ?_, by omega, ?_, _, _, rfl⟩⟩
    · simpa using y1
    · simpa using y2
    · have := rd_lt y3
      rw [List.take_succ, em]
      simp [this]
  · rintro σ h' ⟨G, G1, y1, y2, kn, y3, w1, w2, rfl⟩
    simp only [kont_eq]; simp [-sSeq, sSeqK, small, lim]
    refine q _ _ ?_ G G1
    rw [y3]
    rw [List.take_of_length_le]
    simp [marksF, rowF_len (show 0 < n by omega)]
theorem marksof_far {h : MH} {n t g : Nat} {Q : QV} {E : QX} (a : 2 ≤ n) (b : n ≤ 8) (c : t < 2 * n) (d : g < 2 * n) (z : n < ((g : Int) - t) % (2 * n)) (q : E "Crooked" h) : F_marks_of [.int n, .int t, .int g] h Q E := by
  simp [-sSeq, sSeqK, small, lim, F_marks_of_eq]
  refine turn_ok (by omega) (by omega) (by omega) (by omega) ?_
  simp only [kont_eq]; simp [-sSeq, sSeqK, small, lim]
  refine turn_ok (by omega) (by omega) (by omega) (by omega) ?_
  simp only [kont_eq]; simp [-sSeq, sSeqK, small, lim]
  refine distance_ok (by omega) (by omega) (by omega) (by omega) (by omega) (by omega) ?_
  simp [-sSeq, sSeqK, small, lim]
  rw [if_pos (by omega)]
  exact q
theorem giverF_cls {ns : List Int} {c : String} (e : giverF ns = .inl c) : c = "BadSize" ∨ c = "BadMark" ∨ c = "Crooked" := by
  unfold giverF at e
  cases o : marksO ns with
  | some d =>
    rw [o] at e; cases e
    unfold marksO at o
    split at o
    · cases o; exact Or.inl rfl
    split at o
    · cases o; exact Or.inr (Or.inl rfl)
    · cases o
  | none => rw [o] at e; exact frontF_cls e
theorem frontF_range {ns : List Int} {t : Int} (e : frontF ns = .inr t) : 0 ≤ t ∧ t < 2 * ns.length := by
  unfold frontF at e
  split at e
  · cases e
  rename_i h1
  split at e
  · cases e
  rename_i h2
  have hb : ns.headD 0 = 0 ∨ ns.headD 0 = 1 := by
    cases ns with
    | nil => exact Or.inl rfl
    | cons b l =>
      simp [badBit] at h2
      simp only [List.headD_cons]
      omega
  generalize ns.headD 0 = f at *
  have hr := runF_le f ns
  split at e
  · cases e
    rcases hb with rfl | rfl <;> omega
  split at e
  · cases e
  · cases e
    rcases hb with rfl | rfl <;> omega
theorem marksO_in {ns : List Int} (o : marksO ns = none) : ∀ m ∈ ns, 0 ≤ m ∧ m ≤ 3 := by
  unfold marksO at o
  split at o
  · cases o
  split at o
  · cases o
  rename_i h
  intro m hm
  have : ¬ badMark m = true := fun z => h (List.any_eq_true.mpr ⟨m, hm, z⟩)
  unfold badMark at this
  simp at this
  omega
theorem frontF_bits {ns : List Int} {c : String} (a : 2 ≤ ns.length) (b : ns.length ≤ 8) (z : ∀ m ∈ ns, m = 0 ∨ m = 1) (e : frontF ns = .inl c) : c = "Crooked" := by
  unfold frontF at e
  rw [if_neg (by omega), if_neg] at e
  · split at e
    · cases e
    split at e
    · cases e; rfl
    · cases e
  · intro h
    obtain ⟨m, hm, y⟩ := List.any_eq_true.mp h
    unfold badBit at y
    have := z m hm
    simp at y; omega
theorem lapbit {ns : List Int} (o : marksO ns = none) : ∀ m ∈ ns.map fun m => m / 2, m = 0 ∨ m = 1 := by
  intro m hm
  obtain ⟨x, hx, rfl⟩ := List.mem_map.mp hm
  have := marksO_in o x hx
  omega
theorem oddbit {ns : List Int} (o : marksO ns = none) : ∀ m ∈ ns.map fun m => (m / 2 + m) % 2, m = 0 ∨ m = 1 := by
  intro m hm
  obtain ⟨x, hx, rfl⟩ := List.mem_map.mp hm
  have := marksO_in o x hx
  omega
theorem giverF_none {ns : List Int} (o : marksO ns = none) : giverF ns = frontF (ns.map fun m => m / 2) := by unfold giverF; rw [o]
theorem takerF_none {ns : List Int} (o : marksO ns = none) : takerF ns = frontF (ns.map fun m => (m / 2 + m) % 2) := by unfold takerF; rw [o]
theorem giverF_bad {ns : List Int} {c : String} (o : marksO ns = none) (e : giverF ns = .inl c) : c = "Crooked" := by
  rw [giverF_none o] at e
  have := marksO_len o
  exact frontF_bits (by rw [List.length_map]; omega) (by rw [List.length_map]; omega) (lapbit o) e
theorem takerF_bad {ns : List Int} {c : String} (o : marksO ns = none) (e : takerF ns = .inl c) : c = "Crooked" := by
  rw [takerF_none o] at e
  have := marksO_len o
  exact frontF_bits (by rw [List.length_map]; omega) (by rw [List.length_map]; omega) (oddbit o) e
theorem giverF_range {ns : List Int} {t : Int} (e : giverF ns = .inr t) : 0 ≤ t ∧ t < 2 * ns.length := by
  unfold giverF at e
  split at e
  · cases e
  · have := frontF_range e
    rw [List.length_map] at this; exact this
theorem takerF_range {ns : List Int} {t : Int} (e : takerF ns = .inr t) : 0 ≤ t ∧ t < 2 * ns.length := by
  unfold takerF at e
  split at e
  · cases e
  · have := frontF_range e
    rw [List.length_map] at this; exact this
def soundF (ns : List Int) : String ⊕ Bool := match marksO ns with
  | some c => .inl c
  | none => match giverF ns, takerF ns with
    | .inr g, .inr t => .inr (decide ((g - t) % (2 * ns.length) ≤ ns.length))
    | _, _ => .inr false
theorem sound_spec {h : MH} {v : MV} {ns : List Int} {Q : QV} {E : QX} (hv : Ints h v ns) (q : ∀ b, soundF ns = .inr b → ∀ h', Grow h h' → h' 1 = h 1 → Q (.bl b) h') (e : ∀ c, soundF ns = .inl c → E c h) : F_sound_marks [v] h Q E := by
  simp [-sSeq, sSeqK, small, lim, F_sound_marks_eq]
  refine marks_r hv (fun o => ?_) fun c o => e c (by unfold soundF; rw [o])
  have G : soundF ns = match giverF ns, takerF ns with
    | .inr g, .inr t => .inr (decide ((g - t) % (2 * ns.length) ≤ ns.length))
    | _, _ => .inr false := by unfold soundF; rw [o]
  have hl := marksO_len o
  simp only [kont_eq]; simp [-sSeq, sSeqK, small, lim]
  simp only [kont_eq]
  refine giver_spec hv (fun g hg h1 g1 k1 => ?_) fun c hc h1 g1 k1 => ?_
  · simp [-sSeq, sSeqK, small, lim]
    refine taker_spec (hv.grow g1) (fun t ht h2 g2 k2 => ?_) fun c hc h2 g2 k2 => ?_
    · obtain ⟨r, i, hr, rfl, z⟩ := hv
      have z2 := g2 _ _ _ hr (g1 _ _ _ hr z)
      have rg := giverF_range hg
      have rt := takerF_range ht
      simp [-sSeq, sSeqK, small, lim, z2]
      refine distance_ok (by omega) (by omega) rt.1 rt.2 rg.1 rg.2 ?_
      simp [-sSeq, sSeqK, small, lim, z2]
      rw [hg, ht] at G
      exact q _ G h2 (g1.trans g2) (by rw [k2, k1])
    · have := takerF_bad o hc
      subst this
      simp [-sSeq, sSeqK, small, lim]
      rw [hg, hc] at G
      exact q _ G h2 (g1.trans g2) (by rw [k2, k1])
  · have := giverF_bad o hc
    subst this
    simp [-sSeq, sSeqK, small, lim]
    rw [hc] at G
    exact q _ G h1 g1 k1
end Mi
end TxSMof

section TxSLm
set_option autoImplicit false
set_option linter.all false
set_option maxRecDepth 100000
set_option maxHeartbeats 4000000
namespace Mi
def lmark (n f g : Int) (p : Nat) : Int :=
  if (g - p + n - 1) / n = 0 then 2 else 2 * (((g - p + n - 1) / n - 1) % 2) + (if f ≤ p + n * ((g - p + n - 1) / n - 1) then 1 else 0)
def lmarks (n : Nat) (f g : Int) : List Int := (List.range n).map (lmark n f g)
theorem lmarks_len (n : Nat) (f g : Int) : (lmarks n f g).length = n := by simp [lmarks]
theorem lawmarks_spec {h : MH} {n : Nat} {f g : Int} {Q : QV} {E : QX} (a : 2 ≤ n) (b : n ≤ 8) (q : ∀ i h', rd h' 151 i = some (.lst ((lmarks n f g).map .int)) → Grow h h' → h' 1 = h 1 → Q (.ref 151 i) h') : F_law_marks [.int n, .int f, .int g] h Q E := by
  simp [-sSeq, sSeqK, small, lim, F_law_marks_eq]
  simp only [kont_eq]; simp [-sSeq, sSeqK, small, lim]
  refine ⟨by unfold big; omega, ?_⟩
  refine forL_inv (fun k σ h' => Grow h h' ∧ h' 1 = h 1 ∧ rd h' 151 (h 151).length = some (.lst (((lmarks n f g).take k).map .int)) ∧ ∃ x y z, σ = [some (.int n), some (.int f), some (.int g), some (.ref 151 (h 151).length), x, y, z]) _ 0 _ _
    ⟨grow_new h 151 _, by simp, by simp, _, _, _, rfl⟩ (fun _ _ _ _ => trivial) ?_ ?_
  · rintro k x σ h' N hk ⟨G, G1, y3, w1, w2, w3, rfl⟩ hN
    obtain ⟨hk, rfl⟩ := rng_at hk
    rw [Nat.zero_add] at y3 hN
    have hm : (lmarks n f g)[k]? = some (lmark n f g k) := by
      unfold lmarks
      rw [List.getElem?_map, List.getElem?_range (by omega)]; rfl
    have fin : ∀ v, v = lmark n f g k → N [some (.int n), some (.int f), some (.int g), some (.ref 151 (h 151).length), some (.int k), some (.int ((g - k + n - 1) / n)), some (.int (k + n * ((g - k + n - 1) / n - 1)))]
        (put h' 151 ((h' 151).set (h 151).length (.lst (((lmarks n f g).take k).map .int ++ [.int v])))) := fun v hv => by
      refine hN _ _ ⟨grow_set G (rd_end h 151), by simpa using G1, ?_, _, _, _, rfl⟩
      have := rd_lt y3
      rw [List.take_succ, hm, ← hv]
      simp [this]
    simp [-sSeq, sSeqK, small, lim, dmax_eq]
    refine ⟨by omega, by omega, ?_⟩
    simp only [kont_eq]; simp [-sSeq, sSeqK, small, lim]
    refine ⟨by omega, ?_⟩
    simp only [kont_eq]; simp [-sSeq, sSeqK, small, lim, y3]
    by_cases c : (g - (k : Int) + n - 1) / n = 0
    · rw [if_pos c]
      have := fin 2 (by unfold lmark; rw [if_pos c])
      refine ⟨by omega, ?_⟩
      simpa using this
    · rw [if_neg c]
      refine ⟨by omega, ?_⟩
      have := fin _ (by unfold lmark; rw [if_neg c])
      simpa using this
  · rintro σ h' ⟨G, G1, y3, w1, w2, w3, rfl⟩
    simp only [kont_eq]; simp [-sSeq, sSeqK, small, lim]
    refine q _ _ ?_ G G1
    rw [y3, List.take_of_length_le]
    simp [lmarks_len]
theorem lmark_two {n f g : Int} {p : Nat} (a : 2 ≤ n) (hp : p < n) (hf : 0 ≤ f) (hg : f ≤ g) (hp0 : 0 ≤ g) : lmark n (f + 2 * n) (g + 2 * n) p = lmark n f g p := by
  have e : (g + 2 * n - p + n - 1) / n = (g - p + n - 1) / n + 2 := by
    rw [show g + 2 * n - (p : Int) + n - 1 = g - p + n - 1 + n * 2 by omega, Int.add_mul_ediv_left _ _ (by omega)]
  have nn : 0 ≤ (g - p + n - 1) / n := Int.ediv_nonneg (by omega) (by omega)
  unfold lmark
  rw [e]
  generalize hm : (g - (p : Int) + n - 1) / n = m at *
  rw [if_neg (by omega)]
  have hl : p + n * (m + 2 - 1) = p + n * (m - 1) + 2 * n := by
    rw [show m + 2 - 1 = (m - 1) + 2 by omega, Int.mul_add]; omega
  rw [hl]
  by_cases c : m = 0
  · rw [if_pos c]
    subst c
    have : g - p + n - 1 < n := by
      have := Int.lt_ediv_add_one_mul_self (g - (p : Int) + n - 1) (show 0 < n by omega)
      rw [hm] at this; omega
    rw [if_neg (by omega)]
    decide
  · rw [if_neg c]
    have : (f + 2 * n ≤ p + n * (m - 1) + 2 * n) = (f ≤ p + n * (m - 1)) := by
      apply propext; omega
    simp only [this]
    omega
theorem lmarks_two {n : Nat} {f g : Int} (a : 2 ≤ n) (hf : 0 ≤ f) (hg : f ≤ g) : lmarks n (f + 2 * n) (g + 2 * n) = lmarks n f g := by
  unfold lmarks
  refine List.map_congr_left fun p hp => ?_
  exact lmark_two (by omega) (by have := List.mem_range.mp hp; omega) hf hg (by omega)
theorem lmarks_turns {n : Nat} {f g : Int} (a : 2 ≤ n) (hf : 0 ≤ f) (hg : f ≤ g) : ∀ k : Nat, lmarks n (f + 2 * n * k) (g + 2 * n * k) = lmarks n f g
  | 0 => by simp
  | k + 1 => by
    have := lmarks_turns a hf hg k
    rw [← this, ← lmarks_two a (f := f + 2 * n * k)]
    · congr 1 <;> (push_cast; rw [Int.mul_add]; omega)
    · have : 0 ≤ 2 * (n : Int) * k := by apply Int.mul_nonneg <;> omega
      omega
    · omega
theorem lmarks_mod {n : Nat} {f g : Int} (a : 2 ≤ n) (hf : 0 ≤ f) (hg : f ≤ g) : lmarks n f g = lmarks n (f % (2 * n)) (f % (2 * n) + (g - f)) := by
  have e := Int.emod_add_mul_ediv f (2 * n)
  have p := Int.emod_nonneg f (show (2 * n : Int) ≠ 0 by omega)
  have d : 0 ≤ f / (2 * n) := Int.ediv_nonneg hf (by omega)
  rw [← lmarks_turns (f := f % (2 * n)) a p (by omega) (f / (2 * n)).toNat, Int.toNat_of_nonneg d]
  congr 1 <;> omega
def okAt (n t d : Nat) : Bool :=
  let m := marksF n t ((t + d) % (2 * n))
  decide (lmarks n t (t + d) = m) && decide (soundF m = .inr true) && decide (giverF m = .inr (((t + d) % (2 * n) : Nat) : Int)) && decide (takerF m = .inr (t : Int)) && decide ((m.filter fun x => decide (x % 2 = 1)).length = d)
theorem all_okAt : ([2, 3, 4, 5, 6, 7, 8].all fun n => (List.range (2 * n)).all fun t => (List.range (n + 1)).all (okAt n t)) = true := by decide +kernel
theorem okAt_of {n t d : Nat} (a : 2 ≤ n) (b : n ≤ 8) (c : t < 2 * n) (e : d ≤ n) : okAt n t d = true := by
  have h := List.all_eq_true.mp all_okAt n (by simp only [List.mem_cons, List.not_mem_nil, or_false]; omega)
  have h := List.all_eq_true.mp h t (List.mem_range.mpr c)
  exact List.all_eq_true.mp h d (List.mem_range.mpr (by omega))
theorem search_row {bs : List Int} {t : Nat} (e : searchF bs = some t) : t < 2 * bs.length ∧ bs = rowF bs.length t := by
  unfold searchF at e
  have h1 := List.mem_of_find?_eq_some e
  have h2 := List.find?_some e
  exact ⟨List.mem_range.mp h1, by simpa using h2⟩
theorem front_row {bs : List Int} (o : bitsOk bs) {u : Int} (e : frontF bs = .inr u) : ∃ t : Nat, u = t ∧ t < 2 * bs.length ∧ bs = rowF bs.length t := by
  have s := same_ok o
  unfold sameF at s
  rw [e] at s
  split at s
  · rename_i t u' e1 e2
    cases e2
    have := search_row e1
    exact ⟨t, by have := of_decide_eq_true s; omega, this⟩
  · cases (by assumption : (Sum.inr u : String ⊕ Int) = Sum.inl _)
  · cases s
theorem marks_again : ∀ ns : List Int, (∀ m ∈ ns, 0 ≤ m ∧ m ≤ 3) → List.zipWith (fun l o : Int => 2 * l + (l + o) % 2) (ns.map fun m => m / 2) (ns.map fun m => (m / 2 + m) % 2) = ns
  | [], _ => rfl
  | m :: ns, h => by
    have := h m List.mem_cons_self
    simp only [List.map_cons, List.zipWith_cons_cons]
    rw [marks_again ns fun x hx => h x (List.mem_cons_of_mem _ hx)]
    congr 1
    omega
def anyF (ns : List Int) : Bool := (List.range (2 * ns.length)).any fun t => (List.range (ns.length + 1)).any fun d => decide (lmarks ns.length (t + 2 * ns.length) (t + 2 * ns.length + d) = ns)
theorem lapOk {ns : List Int} (o : marksO ns = none) : bitsOk (ns.map fun m => m / 2) := by
  have := marksO_len o
  exact ⟨by simp; omega, by simp; omega, lapbit o⟩
theorem oddOk {ns : List Int} (o : marksO ns = none) : bitsOk (ns.map fun m => (m / 2 + m) % 2) := by
  have := marksO_len o
  exact ⟨by simp; omega, by simp; omega, oddbit o⟩
theorem okAt_all {n t d : Nat} (h : okAt n t d = true) : lmarks n t (t + d) = marksF n t ((t + d) % (2 * n)) ∧ soundF (marksF n t ((t + d) % (2 * n))) = .inr true ∧ giverF (marksF n t ((t + d) % (2 * n))) = .inr (((t + d) % (2 * n) : Nat) : Int) ∧
    takerF (marksF n t ((t + d) % (2 * n))) = .inr (t : Int) ∧ ((marksF n t ((t + d) % (2 * n))).filter fun x => decide (x % 2 = 1)).length = d := by
  unfold okAt at h
  simp only [Bool.and_eq_true, decide_eq_true_eq] at h
  obtain ⟨⟨⟨⟨h1, h2⟩, h3⟩, h4⟩, h5⟩ := h
  exact ⟨h1, h2, h3, h4, h5⟩
theorem sound_any {ns : List Int} (o : marksO ns = none) : soundF ns = .inr (anyF ns) := by
  have hl := marksO_len o
  cases hs : soundF ns with
  | inl c => unfold soundF at hs; rw [o] at hs; simp only at hs; split at hs <;> cases hs
  | inr b =>
    congr 1
    cases b with
    | true =>
      symm
      unfold soundF at hs
      rw [o] at hs
      simp only at hs
      split at hs
      · rename_i g t eg et
        have hd : (g - t) % (2 * ns.length) ≤ ns.length := by simpa using hs
        rw [giverF_none o] at eg
        rw [takerF_none o] at et
        obtain ⟨g', rfl, g2, g3⟩ := front_row (lapOk o) eg
        obtain ⟨t', rfl, t2, t3⟩ := front_row (oddOk o) et
        rw [List.length_map] at g2 g3 t2 t3
        have em : ns = marksF ns.length t' g' := by
          unfold marksF
          rw [← g3, ← t3, marks_again ns (marksO_in o)]
        have hd0 := Int.emod_nonneg ((g' : Int) - t') (show (2 * ns.length : Int) ≠ 0 by omega)
        obtain ⟨d, ed⟩ : ∃ d : Nat, (d : Int) = ((g' : Int) - t') % (2 * ns.length) := ⟨(((g' : Int) - t') % (2 * ns.length)).toNat, by omega⟩
        have eg' : (t' + d) % (2 * ns.length) = g' := by
          have : (((t' + d) % (2 * ns.length) : Nat) : Int) = (g' : Int) := by
            rw [Int.natCast_emod]
            push_cast
            rw [ed, Int.add_emod_emod, show (t' : Int) + (g' - t') = g' by omega]
            exact Int.emod_eq_of_lt (by omega) (by omega)
          omega
        have ok := okAt_all (okAt_of (n := ns.length) (t := t') (d := d) (by omega) (by omega) t2 (by omega))
        rw [eg', ← em] at ok
        refine List.any_eq_true.mpr ⟨t', List.mem_range.mpr t2, List.any_eq_true.mpr ⟨d, List.mem_range.mpr (by omega), ?_⟩⟩
        refine decide_eq_true (Eq.trans ?_ ok.1)
        rw [← lmarks_two (f := (t' : Int)) (g := t' + d) (by omega) (by omega) (by omega)]
        congr 1; omega
      · cases hs
    | false =>
      symm
      rw [← Bool.not_eq_true]
      intro h
      obtain ⟨t, ht, h⟩ := List.any_eq_true.mp h
      obtain ⟨d, hd, h⟩ := List.any_eq_true.mp h
      have ht := List.mem_range.mp ht
      have hd := List.mem_range.mp hd
      rw [decide_eq_true_eq] at h
      have e : lmarks ns.length (t + 2 * ns.length) (t + 2 * ns.length + d) = lmarks ns.length t (t + d) := by
        rw [← lmarks_two (f := (t : Int)) (g := t + d) (by omega) (by omega) (by omega)]
        congr 1; omega
      have ok := okAt_all (okAt_of (n := ns.length) (t := t) (d := d) (by omega) (by omega) ht (by omega))
      rw [e, ok.1] at h
      rw [h] at ok
      rw [ok.2.1] at hs
      cases hs
theorem same_cr {bs : List Int} (o : bitsOk bs) : (∃ t : Nat, searchF bs = some t ∧ frontF bs = .inr (t : Int)) ∨ (searchF bs = none ∧ frontF bs = .inl "Crooked") := by
  have s := same_ok o
  unfold sameF at s
  split at s
  · rename_i t u e1 e2
    have := of_decide_eq_true s
    subst this
    exact Or.inl ⟨t, e1, e2⟩
  · rename_i c e1 e2
    have := of_decide_eq_true s
    subst this
    exact Or.inr ⟨e1, e2⟩
  · cases s
theorem sound_marksO {ns : List Int} {b : Bool} (e : soundF ns = .inr b) : marksO ns = none := by
  unfold soundF at e
  cases o : marksO ns with
  | none => rfl
  | some c => rw [o] at e; cases e
theorem marksO_set {ns : List Int} {m : Int} {p : Nat} (o : marksO ns = none) (a : 0 ≤ m) (b : m ≤ 3) : marksO (ns.set p m) = none := by
  have hl := marksO_len o
  have hi := marksO_in o
  unfold marksO
  rw [List.length_set, if_neg (by omega), if_neg]
  intro z
  obtain ⟨x, hx, z⟩ := List.any_eq_true.mp z
  have : 0 ≤ x ∧ x ≤ 3 := by
    rcases List.mem_or_eq_of_mem_set hx with hx | rfl
    · exact hi x hx
    · exact ⟨a, b⟩
  simp [badMark] at z; omega
def mk5 (n t d : Nat) : List Int := marksF n t ((t + d) % (2 * n))
def in03 (m : Int) : Bool := decide (0 ≤ m) && decide (m ≤ 3)
def letsAt (n t d far : Nat) : Bool :=
  let u := (t + d + far) % (2 * n)
  let w := (t + far) % (2 * n)
  let x := (mk5 n t d).getD (u % n) 9
  let y := (mk5 n t d).getD (w % n) 9
  in03 x && in03 y && (decide (x = 2 * (1 - (u : Int) / n)) == decide (far < n - d)) && (decide (y = 2 * ((w : Int) / n) + 1) == decide (far < d))
def stepAt (n t d : Nat) : Bool :=
  (List.range n).all (letsAt n t d) && decide ((mk5 n t d).length = n) &&
  (decide (d = n) || decide ((mk5 n t d).set ((t + d) % (2 * n) % n) (2 * ((((t + d) % (2 * n) : Nat) : Int) / n) + 1) = mk5 n t (d + 1))) &&
  (decide (d = 0) || decide ((mk5 n t d).set (t % n) (2 * ((t : Int) / n)) = mk5 n ((t + 1) % (2 * n)) (d - 1)))
theorem all_stepAt : ([2, 3, 4, 5, 6, 7, 8].all fun n => (List.range (2 * n)).all fun t => (List.range (n + 1)).all (stepAt n t)) = true := by decide +kernel
theorem stepAt_of {n t d : Nat} (a : 2 ≤ n) (b : n ≤ 8) (c : t < 2 * n) (e : d ≤ n) : stepAt n t d = true := by
  have h := List.all_eq_true.mp all_stepAt n (by simp only [List.mem_cons, List.not_mem_nil, or_false]; omega)
  have h := List.all_eq_true.mp h t (List.mem_range.mpr c)
  exact List.all_eq_true.mp h d (List.mem_range.mpr (by omega))
theorem lets_of {n t d far : Nat} (a : 2 ≤ n) (b : n ≤ 8) (c : t < 2 * n) (e : d ≤ n) (hf : far < n) : ∃ x y : Int, (mk5 n t d)[(t + d + far) % (2 * n) % n]? = some x ∧ (mk5 n t d)[(t + far) % (2 * n) % n]? = some y ∧ (0 ≤ x ∧ x ≤ 3) ∧ (0 ≤ y ∧ y ≤ 3) ∧
    decide (x = 2 * (1 - (((t + d + far) % (2 * n) : Nat) : Int) / n)) = decide (far < n - d) ∧ decide (y = 2 * ((((t + far) % (2 * n) : Nat) : Int) / n) + 1) = decide (far < d) := by
  have s := stepAt_of a b c e
  unfold stepAt at s
  simp only [Bool.and_eq_true] at s
  have l := List.all_eq_true.mp s.1.1.1 far (List.mem_range.mpr hf)
  have hl : (mk5 n t d).length = n := of_decide_eq_true s.1.1.2
  unfold letsAt in03 at l
  simp only [Bool.and_eq_true, decide_eq_true_eq, beq_iff_eq] at l
  obtain ⟨⟨⟨p, q⟩, u⟩, v⟩ := l
  have h1 : (t + d + far) % (2 * n) % n < (mk5 n t d).length := by rw [hl]; exact Nat.mod_lt _ (by omega)
  have h2 : (t + far) % (2 * n) % n < (mk5 n t d).length := by rw [hl]; exact Nat.mod_lt _ (by omega)
  have d1 : ∀ (l : List Int) (i : Nat) (h : i < l.length), l.getD i 9 = l[i] := fun l i h => by rw [List.getD_eq_getElem?_getD, List.getElem?_eq_getElem h]; rfl
  rw [d1 _ _ h1] at p u
  rw [d1 _ _ h2] at q v
  exact ⟨_, _, List.getElem?_eq_getElem h1, List.getElem?_eq_getElem h2, p, q, u, v⟩
theorem give_of {n t d : Nat} (a : 2 ≤ n) (b : n ≤ 8) (c : t < 2 * n) (e : d < n) : (mk5 n t d).set ((t + d) % (2 * n) % n) (2 * ((((t + d) % (2 * n) : Nat) : Int) / n) + 1) = mk5 n t (d + 1) := by
  have s := stepAt_of a b c (Nat.le_of_lt e)
  unfold stepAt at s
  simp only [Bool.and_eq_true, Bool.or_eq_true, decide_eq_true_eq] at s
  rcases s.1.2 with h | h
  · omega
  · exact h
theorem take_of {n t d : Nat} (a : 2 ≤ n) (b : n ≤ 8) (c : t < 2 * n) (e : d ≤ n) (e0 : 0 < d) : (mk5 n t d).set (t % n) (2 * ((t : Int) / n)) = mk5 n ((t + 1) % (2 * n)) (d - 1) := by
  have s := stepAt_of a b c e
  unfold stepAt at s
  simp only [Bool.and_eq_true, Bool.or_eq_true, decide_eq_true_eq] at s
  rcases s.2 with h | h
  · omega
  · exact h
theorem mk5_len {n t d : Nat} (a : 2 ≤ n) (b : n ≤ 8) (c : t < 2 * n) (e : d ≤ n) : (mk5 n t d).length = n := by
  have s := stepAt_of a b c e
  unfold stepAt at s
  simp only [Bool.and_eq_true, decide_eq_true_eq] at s
  exact s.1.1.2
theorem mod_nat {n t : Nat} {f : Int} (ht : (t : Int) = f % (2 * n)) (d : Nat) : (f + d) % (2 * n) = (((t + d) % (2 * n) : Nat) : Int) := by
  push_cast
  rw [ht, Int.emod_add_emod]
end Mi
end TxSLm

section TxSBoard
set_option autoImplicit false
set_option linter.all false
set_option maxRecDepth 100000
set_option maxHeartbeats 4000000
namespace Mi
/-- all stays but what S names -/
def Kx (S : Nat → Nat → Prop) (h h' : MH) : Prop := (∀ q j o, q ≠ 1 → ¬ S q j → Mi.rd h q j = some o → Mi.rd h' q j = some o) ∧ ∀ i, WellAt h i → WellAt h' i
theorem Kx.rd {S : Nat → Nat → Prop} {h h' : MH} (g : Kx S h h') {q j : Nat} {o : MO} (e : Mi.rd h q j = some o) (n : q ≠ 1 := by decide) (m : ¬ S q j := by (simp; done)) : Mi.rd h' q j = some o := g.1 q j o n m e
theorem Kx.w {S : Nat → Nat → Prop} {h h' : MH} (g : Kx S h h') {j : Nat} (w : WellAt h j) : WellAt h' j := g.2 j w
theorem Kx.refl (S : Nat → Nat → Prop) (h : MH) : Kx S h h := ⟨fun _ _ _ _ _ e => e, fun _ w => w⟩
theorem Kx.trans {S : Nat → Nat → Prop} {a b c : MH} (x : Kx S a b) (y : Kx S b c) : Kx S a c := ⟨fun q j o n m e => y.1 q j o n m (x.1 q j o n m e), fun i w => y.2 i (x.2 i w)⟩
theorem Gr.x {h h' : MH} (g : Gr h h') (S : Nat → Nat → Prop) : Kx S h h' := ⟨fun q j o n _ e => g.1 q j o n e, g.2⟩
theorem Ke.x {r i : Nat} {h h' : MH} (g : Ke r i h h') {S : Nat → Nat → Prop} (s : S r i) : Kx S h h' := ⟨fun q j o n m e => g.1 q j o n (by
  by_cases c : q = r
  · refine Or.inr fun d => m ?_
    rw [c, d]; exact s
  · exact Or.inl c) e, g.2⟩
theorem Kx.mono {S S' : Nat → Nat → Prop} {h h' : MH} (g : Kx S h h') (s : ∀ r i, S r i → S' r i) : Kx S' h h' := ⟨fun q j o n m e => g.1 q j o n (fun z => m (s q j z)) e, g.2⟩
/-! ### boards: instances in region 10, their cells in region 20 -/
structure Bd where
  size : Nat
  cells : List Int
  cnt : Int
  last : Option (String × Int × Int)
def lastV : Option (String × Int × Int) → MV
  | none => .non
  | some (d, c, v) => .tup [.str d, .int c, .int v]
def BoardAt (h : MH) (i k : Nat) (b : Bd) : Prop := rd h 10 i = some (.ins "Board" [("size", .int b.size), ("kept", .ref 20 k), ("counted", .int b.cnt), ("latest", lastV b.last)]) ∧ rd h 20 k = some (.lst (b.cells.map .int))
/-- what a touch of the board may change -/
def SB (i k : Nat) : Nat → Nat → Prop := fun q j => (q = 10 ∧ j = i) ∨ (q = 20 ∧ j = k)
def newBd (n : Nat) : Bd := ⟨n, (List.replicate n [2, -1, 0, 0]).flatten ++ [-1, -1, 0, 0], 0, none⟩
theorem BoardAt.gr {h h' : MH} {i k : Nat} {b : Bd} (x : BoardAt h i k b) (g : Gr h h') : BoardAt h' i k b := ⟨g.rd x.1, g.rd x.2⟩
theorem BoardAt.kx {S : Nat → Nat → Prop} {h h' : MH} {i k : Nat} {b : Bd} (x : BoardAt h i k b) (g : Kx S h h') (s1 : ¬ S 10 i) (s2 : ¬ S 20 k) : BoardAt h' i k b := ⟨g.rd x.1 (by decide) s1, g.rd x.2 (by decide) s2⟩
theorem rep_length (xs : List MV) (n : Nat) : (rep xs n).length = n * xs.length := by simp [rep]
theorem rep4 (n : Nat) (a b c d : Int) : rep [MV.int a, .int b, .int c, .int d] n = ((List.replicate n [a, b, c, d]).flatten).map .int := rep_map [a, b, c, d] n
theorem board_make {h : MH} {n : Nat} {K : QV} {E : QX} (n2 : 2 ≤ n) (n8 : n ≤ 8) (q : ∀ h', BoardAt h' (h 10).length (h 20).length (newBd n) → Gr h h' → K .non h') :
    F_Board___init [.ref 10 (h 10).length, .int n] (put h 10 (h 10 ++ [.ins "Board" []])) K E := by
  ((try simp [-sSeq, -dat_ref, sSeqK, small, lim, big, F_Board___init_eq]); (repeat (first | ((with_reducible refine kont_go ?_); try simp [-sSeq, -dat_ref, sSeqK, small, lim, big, F_Board___init_eq]) | ((with_reducible refine And.intro ?_ ?_); · omega))))
  refine size_ok (by omega) (by omega) ?_
  ((try simp [-sSeq, -dat_ref, sSeqK, small, lim, big, rep_length]); (repeat (first | ((with_reducible refine kont_go ?_); try simp [-sSeq, -dat_ref, sSeqK, small, lim, big, rep_length]) | ((with_reducible refine And.intro ?_ ?_); · omega))))
  refine q _ ⟨?_, ?_⟩ (by (repeat (refine gr_app ?_ (by decide) _)); exact Gr.refl _)
  · simp [newBd, lastV]
  · simp [rep4, newBd]
theorem board_bad {h : MH} {n : Int} {K : QV} {E : QX} (c : n < 2 ∨ 8 < n) (q : ∀ h', Gr h h' → E "BadSize" h') :
    F_Board___init [.ref 10 (h 10).length, .int n] (put h 10 (h 10 ++ [.ins "Board" []])) K E := by
  ((try simp [-sSeq, -dat_ref, sSeqK, small, lim, big, F_Board___init_eq]); (repeat (first | ((with_reducible refine kont_go ?_); try simp [-sSeq, -dat_ref, sSeqK, small, lim, big, F_Board___init_eq]) | ((with_reducible refine And.intro ?_ ?_); · omega))))
  exact size_bad c (q _ (gr_new _ (by decide) _))
/-- a touch told -/
def Bd.touch (b : Bd) (d : String) (c : Nat) (v : Int) : Bd := { b with cnt := b.cnt + 1, last := some (d, c, v) }
theorem touched_spec {h : MH} {i k c : Nat} {d : String} {v : Int} {b : Bd} {Q : QV} {E : QX} (x : BoardAt h i k b) (e : b.cells[c]? = some v) (q : ∀ h', BoardAt h' i k (b.touch d c v) → Kx (SB i k) h h' → Q (.int v) h') : F_Board_touched [.ref 10 i, .str d, .int c] h Q E := by
  obtain ⟨x1, x2⟩ := x
  have hi := rd_lt x1
  ((try simp [-sSeq, -dat_ref, sSeqK, small, lim, big, F_Board_touched_eq, x1, x2, hi, atI_nat, e]); (repeat (first | ((with_reducible refine kont_go ?_); try simp [-sSeq, -dat_ref, sSeqK, small, lim, big, F_Board_touched_eq, x1, x2, hi, atI_nat, e]) | ((with_reducible refine And.intro ?_ ?_); · omega))))
  generalize hh : put h 10 _ = h1
  obtain ⟨K1, z1⟩ := set_of hh x1 (by decide)
  exact q _ ⟨z1, K1.rd x2⟩ (K1.x (Or.inl ⟨rfl, rfl⟩))
theorem lookcell_ok {h : MH} {i k : Nat} {c : Nat} {b : Bd} {Q : QV} {E : QX} (x : BoardAt h i k b) (e : c < b.cells.length) (q : Q .non h) : F_Board_look_at_cell [.ref 10 i, .int c] h Q E := by
  obtain ⟨x1, x2⟩ := x
  ((try simp [-sSeq, -dat_ref, sSeqK, small, lim, big, F_Board_look_at_cell_eq, x1, x2]); (repeat (first | ((with_reducible refine kont_go ?_); try simp [-sSeq, -dat_ref, sSeqK, small, lim, big, F_Board_look_at_cell_eq, x1, x2]) | ((with_reducible refine And.intro ?_ ?_); · omega))))
  rw [if_neg (by omega), if_neg (by omega)]
  exact q
theorem lookcell_bad {h : MH} {i k : Nat} {c : Int} {b : Bd} {Q : QV} {E : QX} (x : BoardAt h i k b) (e : c < 0 ∨ b.cells.length ≤ c) (q : E "NoCell" h) : F_Board_look_at_cell [.ref 10 i, .int c] h Q E := by
  obtain ⟨x1, x2⟩ := x
  ((try simp [-sSeq, -dat_ref, sSeqK, small, lim, big, F_Board_look_at_cell_eq, x1, x2]); (repeat (first | ((with_reducible refine kont_go ?_); try simp [-sSeq, -dat_ref, sSeqK, small, lim, big, F_Board_look_at_cell_eq, x1, x2]) | ((with_reducible refine And.intro ?_ ?_); · omega))))
  by_cases d : c < 0
  · rw [if_pos d]; exact q
  · rw [if_neg d, if_pos (by omega)]; exact q
theorem read_ok {h : MH} {i k c : Nat} {v : Int} {b : Bd} {Q : QV} {E : QX} (x : BoardAt h i k b) (e : b.cells[c]? = some v) (q : ∀ h', BoardAt h' i k (b.touch "read" c v) → Kx (SB i k) h h' → Q (.int v) h') : F_Board_read [.ref 10 i, .int c] h Q E := by
  ((try simp [-sSeq, -dat_ref, sSeqK, small, lim, big, F_Board_read_eq, x.1]); (repeat (first | ((with_reducible refine kont_go ?_); try simp [-sSeq, -dat_ref, sSeqK, small, lim, big, F_Board_read_eq, x.1]) | ((with_reducible refine And.intro ?_ ?_); · omega))))
  refine lookcell_ok x (List.getElem?_eq_some_iff.mp e).1 ?_
  ((try simp [-sSeq, -dat_ref, sSeqK, small, lim, big, x.1]); (repeat (first | ((with_reducible refine kont_go ?_); try simp [-sSeq, -dat_ref, sSeqK, small, lim, big, x.1]) | ((with_reducible refine And.intro ?_ ?_); · omega))))
  exact touched_spec x e q
theorem read_bad {h : MH} {i k : Nat} {c : Int} {b : Bd} {Q : QV} {E : QX} (x : BoardAt h i k b) (e : c < 0 ∨ b.cells.length ≤ c) (q : E "NoCell" h) : F_Board_read [.ref 10 i, .int c] h Q E := by
  ((try simp [-sSeq, -dat_ref, sSeqK, small, lim, big, F_Board_read_eq, x.1]); (repeat (first | ((with_reducible refine kont_go ?_); try simp [-sSeq, -dat_ref, sSeqK, small, lim, big, F_Board_read_eq, x.1]) | ((with_reducible refine And.intro ?_ ?_); · omega))))
  exact lookcell_bad x e q
def Bd.put (b : Bd) (c : Nat) (v : Int) : Bd := { b with cells := b.cells.set c v, cnt := b.cnt + 1, last := some ("write", c, v) }
theorem write_ok {h : MH} {i k c : Nat} {v : Int} {b : Bd} {Q : QV} {E : QX} (x : BoardAt h i k b) (e : c < b.cells.length) (q : ∀ h', BoardAt h' i k (b.put c v) → Kx (SB i k) h h' → Q .non h') : F_Board_write [.ref 10 i, .int c, .int v] h Q E := by
  ((try simp [-sSeq, -dat_ref, sSeqK, small, lim, big, F_Board_write_eq, x.1]); (repeat (first | ((with_reducible refine kont_go ?_); try simp [-sSeq, -dat_ref, sSeqK, small, lim, big, F_Board_write_eq, x.1]) | ((with_reducible refine And.intro ?_ ?_); · omega))))
  refine lookcell_ok x e ?_
  refine kont_go ?_
  simp [-sSeq, -dat_ref, sSeqK, small, lim, x.1, x.2, ixN_nat, e]
  generalize hh : put h 20 _ = h1
  obtain ⟨K1, z1⟩ := set_of hh x.2 (by decide)
  rw [show (b.cells.map MV.int).set c (.int v) = (b.cells.set c v).map .int by rw [List.map_set]] at z1
  have x1 : BoardAt h1 i k { b with cells := b.cells.set c v } := ⟨K1.rd x.1, z1⟩
  ((try simp [-sSeq, -dat_ref, sSeqK, small, lim, big, x1.1]); (repeat (first | ((with_reducible refine kont_go ?_); try simp [-sSeq, -dat_ref, sSeqK, small, lim, big, x1.1]) | ((with_reducible refine And.intro ?_ ?_); · omega))))
  refine touched_spec x1 (c := c) (v := v) (by simp [e]) fun h2 x2 K2 => ?_
  ((try simp [-sSeq, -dat_ref, sSeqK, small, lim, big]); (repeat (first | ((with_reducible refine kont_go ?_); try simp [-sSeq, -dat_ref, sSeqK, small, lim, big]) | ((with_reducible refine And.intro ?_ ?_); · omega))))
  exact q _ x2 ((K1.x (Or.inr ⟨rfl, rfl⟩)).trans K2)
theorem write_bad {h : MH} {i k : Nat} {c v : Int} {b : Bd} {Q : QV} {E : QX} (x : BoardAt h i k b) (e : c < 0 ∨ b.cells.length ≤ c) (q : E "NoCell" h) : F_Board_write [.ref 10 i, .int c, .int v] h Q E := by
  ((try simp [-sSeq, -dat_ref, sSeqK, small, lim, big, F_Board_write_eq, x.1]); (repeat (first | ((with_reducible refine kont_go ?_); try simp [-sSeq, -dat_ref, sSeqK, small, lim, big, F_Board_write_eq, x.1]) | ((with_reducible refine And.intro ?_ ?_); · omega))))
  exact lookcell_bad x e q
theorem all_cells_spec {h : MH} {i k : Nat} {b : Bd} {Q : QV} {E : QX} (x : BoardAt h i k b) (q : ∀ h', rd h' 207 (h 207).length = some (.lst (b.cells.map .int)) → Gr h h' → Q (.ref 207 (h 207).length) h') : F_Board_all_cells [.ref 10 i] h Q E := by
  ((try simp [-sSeq, -dat_ref, sSeqK, small, lim, big, F_Board_all_cells_eq, x.1, x.2]); (repeat (first | ((with_reducible refine kont_go ?_); try simp [-sSeq, -dat_ref, sSeqK, small, lim, big, F_Board_all_cells_eq, x.1, x.2]) | ((with_reducible refine And.intro ?_ ?_); · omega))))
  (try dsimp only); generalize hh : put h 207 _ = h1 at *; obtain ⟨G1, z1⟩ := new_of hh (by decide); clear hh
  exact q _ z1 G1
theorem touches_spec {h : MH} {i k : Nat} {b : Bd} {Q : QV} {E : QX} (x : BoardAt h i k b) (q : Q (.int b.cnt) h) : F_Board_touches [.ref 10 i] h Q E := by
  ((try simp [-sSeq, -dat_ref, sSeqK, small, lim, big, F_Board_touches_eq, x.1]); (repeat (first | ((with_reducible refine kont_go ?_); try simp [-sSeq, -dat_ref, sSeqK, small, lim, big, F_Board_touches_eq, x.1]) | ((with_reducible refine And.intro ?_ ?_); · omega))))
  exact q
theorem last_touch_spec {h : MH} {i k : Nat} {b : Bd} {Q : QV} {E : QX} (x : BoardAt h i k b) (q : Q (lastV b.last) h) : F_Board_last_touch [.ref 10 i] h Q E := by
  ((try simp [-sSeq, -dat_ref, sSeqK, small, lim, big, F_Board_last_touch_eq, x.1]); (repeat (first | ((with_reducible refine kont_go ?_); try simp [-sSeq, -dat_ref, sSeqK, small, lim, big, F_Board_last_touch_eq, x.1]) | ((with_reducible refine And.intro ?_ ?_); · omega))))
  exact q
/-! ### cells' numbers -/
theorem mark_cell_spec {h : MH} {p : Int} {Q : QV} {E : QX} (q : Q (.int (4 * p)) h) : F_mark_cell [.int p] h Q E := by ((try simp [-sSeq, -dat_ref, sSeqK, small, lim, big, F_mark_cell_eq]); (repeat (first | ((with_reducible refine kont_go ?_); try simp [-sSeq, -dat_ref, sSeqK, small, lim, big, F_mark_cell_eq]) | ((with_reducible refine And.intro ?_ ?_); · omega)))); exact q
theorem number_cell_spec {h : MH} {p : Int} {Q : QV} {E : QX} (q : Q (.int (4 * p + 1)) h) : F_number_cell [.int p] h Q E := by ((try simp [-sSeq, -dat_ref, sSeqK, small, lim, big, F_number_cell_eq]); (repeat (first | ((with_reducible refine kont_go ?_); try simp [-sSeq, -dat_ref, sSeqK, small, lim, big, F_number_cell_eq]) | ((with_reducible refine And.intro ?_ ?_); · omega)))); exact q
theorem left_cell_spec {h : MH} {p : Int} {Q : QV} {E : QX} (q : Q (.int (4 * p + 2)) h) : F_left_cell [.int p] h Q E := by ((try simp [-sSeq, -dat_ref, sSeqK, small, lim, big, F_left_cell_eq]); (repeat (first | ((with_reducible refine kont_go ?_); try simp [-sSeq, -dat_ref, sSeqK, small, lim, big, F_left_cell_eq]) | ((with_reducible refine And.intro ?_ ?_); · omega)))); exact q
theorem thing_cell_spec {h : MH} {p : Int} {Q : QV} {E : QX} (q : Q (.int (4 * p + 3)) h) : F_thing_cell [.int p] h Q E := by ((try simp [-sSeq, -dat_ref, sSeqK, small, lim, big, F_thing_cell_eq]); (repeat (first | ((with_reducible refine kont_go ?_); try simp [-sSeq, -dat_ref, sSeqK, small, lim, big, F_thing_cell_eq]) | ((with_reducible refine And.intro ?_ ?_); · omega)))); exact q
/-- 0 for the giver, 1 for the taker -/
def handN (s : String) : Int := if s = "giver" then 0 else 1
def isHand (s : String) : Prop := s = "giver" ∨ s = "taker"
theorem hand_ok {h : MH} {s : String} {Q : QV} {E : QX} (a : isHand s) (q : Q .non h) : F_look_at_hand [.str s] h Q E := by
  rcases a with rfl | rfl <;> (((try simp [-sSeq, -dat_ref, sSeqK, small, lim, big, F_look_at_hand_eq, inB]); (repeat (first | ((with_reducible refine kont_go ?_); try simp [-sSeq, -dat_ref, sSeqK, small, lim, big, F_look_at_hand_eq, inB]) | ((with_reducible refine And.intro ?_ ?_); · omega)))); exact q)
theorem hand_bad {h : MH} {s : String} {Q : QV} {E : QX} (a : ¬ isHand s) (q : E "NoHand" h) : F_look_at_hand [.str s] h Q E := by
  have a1 : ¬ "giver" = s := fun e => a (Or.inl e.symm)
  have a2 : ¬ "taker" = s := fun e => a (Or.inr e.symm)
  ((try simp [-sSeq, -dat_ref, sSeqK, small, lim, big, F_look_at_hand_eq, inB, a1, a2]); (repeat (first | ((with_reducible refine kont_go ?_); try simp [-sSeq, -dat_ref, sSeqK, small, lim, big, F_look_at_hand_eq, inB, a1, a2]) | ((with_reducible refine And.intro ?_ ?_); · omega))))
  exact q
theorem card_cell_spec {h : MH} {n : Int} {s : String} {Q : QV} {E : QX} (n2 : 2 ≤ n) (n8 : n ≤ 8) (a : isHand s) (q : Q (.int (4 * n + handN s)) h) : F_card_cell [.int n, .str s] h Q E := by
  ((try simp [-sSeq, -dat_ref, sSeqK, small, lim, big, F_card_cell_eq]); (repeat (first | ((with_reducible refine kont_go ?_); try simp [-sSeq, -dat_ref, sSeqK, small, lim, big, F_card_cell_eq]) | ((with_reducible refine And.intro ?_ ?_); · omega))))
  refine size_ok n2 n8 ?_
  ((try simp [-sSeq, -dat_ref, sSeqK, small, lim, big]); (repeat (first | ((with_reducible refine kont_go ?_); try simp [-sSeq, -dat_ref, sSeqK, small, lim, big]) | ((with_reducible refine And.intro ?_ ?_); · omega))))
  refine hand_ok a ?_
  rcases a with rfl | rfl <;> (((try simp [-sSeq, -dat_ref, sSeqK, small, lim, big, wTupIx, handN, List.findIdx?_cons]); (repeat (first | ((with_reducible refine kont_go ?_); try simp [-sSeq, -dat_ref, sSeqK, small, lim, big, wTupIx, handN, List.findIdx?_cons]) | ((with_reducible refine And.intro ?_ ?_); · omega)))); simpa [handN] using q)
theorem bell_cell_spec {h : MH} {n : Int} {s : String} {Q : QV} {E : QX} (n2 : 2 ≤ n) (n8 : n ≤ 8) (a : isHand s) (q : Q (.int (4 * n + 2 + handN s)) h) : F_bell_cell [.int n, .str s] h Q E := by
  ((try simp [-sSeq, -dat_ref, sSeqK, small, lim, big, F_bell_cell_eq]); (repeat (first | ((with_reducible refine kont_go ?_); try simp [-sSeq, -dat_ref, sSeqK, small, lim, big, F_bell_cell_eq]) | ((with_reducible refine And.intro ?_ ?_); · omega))))
  refine size_ok n2 n8 ?_
  ((try simp [-sSeq, -dat_ref, sSeqK, small, lim, big]); (repeat (first | ((with_reducible refine kont_go ?_); try simp [-sSeq, -dat_ref, sSeqK, small, lim, big]) | ((with_reducible refine And.intro ?_ ?_); · omega))))
  refine hand_ok a ?_
  rcases a with rfl | rfl <;> (((try simp [-sSeq, -dat_ref, sSeqK, small, lim, big, wTupIx, handN, List.findIdx?_cons]); (repeat (first | ((with_reducible refine kont_go ?_); try simp [-sSeq, -dat_ref, sSeqK, small, lim, big, wTupIx, handN, List.findIdx?_cons]) | ((with_reducible refine And.intro ?_ ?_); · omega)))); simpa [handN] using q)
theorem card_cell_bad {h : MH} {n : Int} {s : String} {c : String} {Q : QV} {E : QX} (a : ((n < 2 ∨ 8 < n) ∧ c = "BadSize") ∨ (2 ≤ n ∧ n ≤ 8 ∧ ¬ isHand s ∧ c = "NoHand")) (q : E c h) : F_card_cell [.int n, .str s] h Q E := by
  ((try simp [-sSeq, -dat_ref, sSeqK, small, lim, big, F_card_cell_eq]); (repeat (first | ((with_reducible refine kont_go ?_); try simp [-sSeq, -dat_ref, sSeqK, small, lim, big, F_card_cell_eq]) | ((with_reducible refine And.intro ?_ ?_); · omega))))
  rcases a with ⟨a, rfl⟩ | ⟨a1, a2, a3, rfl⟩
  · exact size_bad a q
  · refine size_ok a1 a2 ?_
    ((try simp [-sSeq, -dat_ref, sSeqK, small, lim, big]); (repeat (first | ((with_reducible refine kont_go ?_); try simp [-sSeq, -dat_ref, sSeqK, small, lim, big]) | ((with_reducible refine And.intro ?_ ?_); · omega))))
    exact hand_bad a3 q
theorem bell_cell_bad {h : MH} {n : Int} {s : String} {c : String} {Q : QV} {E : QX} (a : ((n < 2 ∨ 8 < n) ∧ c = "BadSize") ∨ (2 ≤ n ∧ n ≤ 8 ∧ ¬ isHand s ∧ c = "NoHand")) (q : E c h) : F_bell_cell [.int n, .str s] h Q E := by
  ((try simp [-sSeq, -dat_ref, sSeqK, small, lim, big, F_bell_cell_eq]); (repeat (first | ((with_reducible refine kont_go ?_); try simp [-sSeq, -dat_ref, sSeqK, small, lim, big, F_bell_cell_eq]) | ((with_reducible refine And.intro ?_ ?_); · omega))))
  rcases a with ⟨a, rfl⟩ | ⟨a1, a2, a3, rfl⟩
  · exact size_bad a q
  · refine size_ok a1 a2 ?_
    ((try simp [-sSeq, -dat_ref, sSeqK, small, lim, big]); (repeat (first | ((with_reducible refine kont_go ?_); try simp [-sSeq, -dat_ref, sSeqK, small, lim, big]) | ((with_reducible refine And.intro ?_ ?_); · omega))))
    exact hand_bad a3 q
end Mi
end TxSBoard

section TxSPure
set_option autoImplicit false
set_option linter.all false
set_option maxRecDepth 100000
set_option maxHeartbeats 4000000
namespace Mi
/-! ### the two hands, as plain data -/
inductive St where
  | rouse | clear | mute | marks | wish | again | sleep | hush | unwish | told | lacks | look | number | left | thing | mark | card | ring | free
  deriving DecidableEq
@[simp] def St.name : St → String
  | .rouse => "rouse" | .clear => "clear" | .mute => "mute" | .marks => "marks" | .wish => "wish" | .again => "again" | .sleep => "sleep" | .hush => "hush" | .unwish => "unwish"
  | .told => "told" | .lacks => "lacks" | .look => "look" | .number => "number" | .left => "left" | .thing => "thing" | .mark => "mark" | .card => "card" | .ring => "ring" | .free => "free"
structure Gv where
  here : St
  spot : Option Nat
  seen : List Int
  wares : List (List Int)
  at_ : Int
  part : Int
structure Tk where
  here : St
  spot : Option Nat
  seen : List Int
  taken : List (List Int)
  early : Option Nat
  number : Int
  left : Int
  parts : List Int
def Bd.at_ (b : Bd) (c : Nat) : Int := b.cells.getD c 0
def Bd.rdd (b : Bd) (c : Nat) : Bd := b.touch "read" c (b.at_ c)
/-- the cells of the giver's card, bell (false), the taker's (true) -/
def cardI (n : Nat) (t : Bool) : Nat := 4 * n + (if t then 1 else 0)
def bellI (n : Nat) (t : Bool) : Nat := 4 * n + 2 + (if t then 1 else 0)
def mayG (n t : Nat) (m : Int) : Bool := decide (m = 2 * (1 - ((t / n : Nat) : Int)))
def mayT (n t : Nat) (m : Int) : Bool := decide (m = 2 * ((t / n : Nat) : Int) + 1)
def turnOf : String ⊕ Int → Nat
  | .inr t => t.toNat
  | .inl _ => 0
def Gv.order (v : Gv) : List Int := v.wares.getD v.at_.toNat []
def Gv.rests (v : Gv) : Bool := decide (v.here = .look) && decide ((v.wares.length : Int) ≤ v.at_)
def prevT (n t : Nat) : Nat := (t + 2 * n - 1) % (2 * n)
def Gv.goOn (n : Nat) (v : Gv) : Gv :=
  { v with here := .look, spot := some ((v.spot.getD 0 + 1) % (2 * n)), at_ := if v.part + 1 = v.order.length then v.at_ + 1 else v.at_, part := if v.part + 1 = v.order.length then 0 else v.part + 1 }
/-- a step of the giver -/
def gstep (b : Bd) (v : Gv) : Bd × Gv :=
  let n := b.size
  let t := v.spot.getD 0
  let p := t % n
  match v.here with
  | .rouse => (b.put (bellI n true) 1, { v with here := .clear })
  | .clear => (b.put (cardI n false) (-1), { v with here := .mute })
  | .mute => (b.put (bellI n false) 0, { v with here := .marks })
  | .marks => (b.rdd (4 * v.seen.length), if v.seen.length + 1 = n then { v with seen := v.seen ++ [b.at_ (4 * v.seen.length)], spot := some (turnOf (giverF (v.seen ++ [b.at_ (4 * v.seen.length)]))), here := .told } else { v with seen := v.seen ++ [b.at_ (4 * v.seen.length)] })
  | .wish => (b.put (cardI n false) t, { v with here := .again })
  | .again => (b.rdd (4 * p), if mayG n t (b.at_ (4 * p)) = true then { v with here := .unwish } else { v with here := .sleep })
  | .sleep => (b.rdd (bellI n false), if b.at_ (bellI n false) = 0 then v else { v with here := .hush })
  | .hush => (b.put (bellI n false) 0, { v with here := .unwish })
  | .unwish => (b.put (cardI n false) (-1), { v with here := .look })
  | .told => (b.rdd (4 * (prevT n t % n) + 1), { v with at_ := b.at_ (4 * (prevT n t % n) + 1), here := .lacks })
  | .lacks => (b.rdd (4 * (prevT n t % n) + 2), if 0 ≤ v.at_ ∧ 0 < b.at_ (4 * (prevT n t % n) + 2) then { v with here := .look, part := v.order.length - b.at_ (4 * (prevT n t % n) + 2) } else { v with here := .look, part := 0, at_ := v.at_ + 1 })
  | .look => if v.rests = true then (b, v) else (b.rdd (4 * p), if mayG n t (b.at_ (4 * p)) = true then { v with here := .number } else { v with here := .wish })
  | .number => (b.put (4 * p + 1) v.at_, { v with here := .left })
  | .left => (b.put (4 * p + 2) (v.order.length - 1 - v.part), { v with here := .thing })
  | .thing => (b.put (4 * p + 3) (v.order.getD v.part.toNat 0), { v with here := .mark })
  | .mark => (b.put (4 * p) (2 * ((t / n : Nat) : Int) + 1), { v with here := .card })
  | .card => (b.rdd (cardI n true), if b.at_ (cardI n true) = t then { v with here := .ring } else v.goOn n)
  | .ring => (b.put (bellI n true) 1, v.goOn n)
  | .free => (b, v)
def Tk.freed (n : Nat) (u : Tk) : Tk :=
  let e := (u.early.getD 0 + 1) % (2 * n)
  if u.early = u.spot then { u with early := some e, spot := some e, parts := [], here := .look } else { u with early := some e, here := .free }
/-- a step of the taker -/
def tstep (b : Bd) (u : Tk) : Bd × Tk :=
  let n := b.size
  let t := u.spot.getD 0
  let p := t % n
  let e := u.early.getD 0
  match u.here with
  | .rouse => (b.put (bellI n false) 1, { u with here := .clear })
  | .clear => (b.put (cardI n true) (-1), { u with here := .mute })
  | .mute => (b.put (bellI n true) 0, { u with here := .marks })
  | .marks => (b.rdd (4 * u.seen.length), if u.seen.length + 1 = n then { u with seen := u.seen ++ [b.at_ (4 * u.seen.length)], spot := some (turnOf (takerF (u.seen ++ [b.at_ (4 * u.seen.length)]))), early := some (turnOf (takerF (u.seen ++ [b.at_ (4 * u.seen.length)]))), here := .look }
      else { u with seen := u.seen ++ [b.at_ (4 * u.seen.length)] })
  | .wish => (b.put (cardI n true) t, { u with here := .again })
  | .again => (b.rdd (4 * p), if mayT n t (b.at_ (4 * p)) = true then { u with here := .unwish } else { u with here := .sleep })
  | .sleep => (b.rdd (bellI n true), if b.at_ (bellI n true) = 0 then u else { u with here := .hush })
  | .hush => (b.put (bellI n true) 0, { u with here := .unwish })
  | .unwish => (b.put (cardI n true) (-1), { u with here := .look })
  | .look => (b.rdd (4 * p), if mayT n t (b.at_ (4 * p)) = true then { u with here := .number } else { u with here := .wish })
  | .number => (b.rdd (4 * p + 1), { u with number := b.at_ (4 * p + 1), here := .left })
  | .left => (b.rdd (4 * p + 2), { u with left := b.at_ (4 * p + 2), here := .thing })
  | .thing => (b.rdd (4 * p + 3), if 0 < u.left then { u with parts := u.parts ++ [b.at_ (4 * p + 3)], spot := some ((t + 1) % (2 * n)), here := .look }
      else if u.number = u.taken.length then { u with parts := u.parts ++ [b.at_ (4 * p + 3)], here := .free, taken := u.taken ++ [u.parts ++ [b.at_ (4 * p + 3)]] } else { u with parts := u.parts ++ [b.at_ (4 * p + 3)], here := .free })
  | .free => (b.put (4 * (e % n)) (2 * ((e / n : Nat) : Int)), { u with here := .card })
  | .card => (b.rdd (cardI n false), if b.at_ (cardI n false) = (((e + n) % (2 * n) : Nat) : Int) then { u with here := .ring } else u.freed n)
  | .ring => (b.put (bellI n false) 1, u.freed n)
  | _ => (b, u)
def newG (ws : List (List Int)) : Gv := ⟨.rouse, none, [], ws, 0, 0⟩
def newT (bk : List (List Int)) : Tk := ⟨.rouse, none, [], bk, none, 0, 0, []⟩
/-! ### where a slip stands among the orders -/
/-- how many parts the first a orders have -/
def Sm (ws : List (List Int)) : Nat → Nat
  | 0 => 0
  | a + 1 => Sm ws a + (ws.getD a []).length
/-- slip k is part p of order a -/
def IsPos (ws : List (List Int)) (k a p : Nat) : Prop := a < ws.length ∧ p < (ws.getD a []).length ∧ k = Sm ws a + p
/-- what is given next -/
def NextPos (ws : List (List Int)) (k a p : Nat) : Prop := a ≤ ws.length ∧ k = Sm ws a + p ∧ (a < ws.length → p < (ws.getD a []).length) ∧ (a = ws.length → p = 0)
def total (ws : List (List Int)) : Nat := Sm ws ws.length
theorem Sm_app (ws : List (List Int)) (o : List (List Int)) : ∀ a, a ≤ ws.length → Sm (ws ++ o) a = Sm ws a
  | 0, _ => rfl
  | a + 1, h => by
    unfold Sm
    rw [Sm_app ws o a (by omega)]
    congr 2
    rw [List.getD_eq_getElem?_getD, List.getD_eq_getElem?_getD, List.getElem?_append_left (by omega)]
theorem getD_app (ws o : List (List Int)) {a : Nat} (h : a < ws.length) : (ws ++ o).getD a [] = ws.getD a [] := by
  rw [List.getD_eq_getElem?_getD, List.getD_eq_getElem?_getD, List.getElem?_append_left h]
theorem IsPos.app {ws : List (List Int)} {k a p : Nat} (h : IsPos ws k a p) (o : List (List Int)) : IsPos (ws ++ o) k a p := by
  obtain ⟨h1, h2, h3⟩ := h
  exact ⟨by rw [List.length_append]; omega, by rw [getD_app _ _ h1]; exact h2, by rw [Sm_app _ _ _ (by omega)]; exact h3⟩
theorem Sm_mono {ws : List (List Int)} : ∀ {a b : Nat}, a ≤ b → Sm ws a ≤ Sm ws b
  | a, 0, h => by rw [Nat.le_zero.mp h]; exact Nat.le_refl _
  | a, b + 1, h => by
    by_cases c : a = b + 1
    · rw [c]; exact Nat.le_refl _
    · have := Sm_mono (ws := ws) (show a ≤ b by omega)
      have e : Sm ws (b + 1) = Sm ws b + (ws.getD b []).length := rfl
      omega
theorem IsPos.lt {ws : List (List Int)} {k a p : Nat} (h : IsPos ws k a p) : k < total ws := by
  obtain ⟨h1, h2, h3⟩ := h
  have := Sm_mono (ws := ws) (show a + 1 ≤ ws.length by omega)
  have e : Sm ws (a + 1) = Sm ws a + (ws.getD a []).length := rfl
  unfold total; omega
theorem IsPos.uniq {ws : List (List Int)} {k a p a' p' : Nat} (h : IsPos ws k a p) (h' : IsPos ws k a' p') : a = a' ∧ p = p' := by
  obtain ⟨h1, h2, h3⟩ := h
  obtain ⟨h1', h2', h3'⟩ := h'
  have ea : a = a' := by
    rcases Nat.lt_trichotomy a a' with c | c | c
    · have := Sm_mono (ws := ws) (show a + 1 ≤ a' by omega)
      have e : Sm ws (a + 1) = Sm ws a + (ws.getD a []).length := rfl
      omega
    · exact c
    · have := Sm_mono (ws := ws) (show a' + 1 ≤ a by omega)
      have e : Sm ws (a' + 1) = Sm ws a' + (ws.getD a' []).length := rfl
      omega
  subst ea
  exact ⟨rfl, by omega⟩
theorem pos_ex {ws : List (List Int)} {k : Nat} : ∀ m, m ≤ ws.length → k < Sm ws m → ∃ a p, IsPos ws k a p
  | 0, _, h => absurd h (Nat.not_lt_zero k)
  | m + 1, hm, h => by
    by_cases c : k < Sm ws m
    · exact pos_ex m (by omega) c
    · refine ⟨m, k - Sm ws m, by omega, ?_, by omega⟩
      have e : Sm ws (m + 1) = Sm ws m + (ws.getD m []).length := rfl
      omega
theorem pos_of {ws : List (List Int)} {k : Nat} (h : k < total ws) : ∃ a p, IsPos ws k a p := pos_ex ws.length (Nat.le_refl _) h
/-! ### marks -/
theorem mk_bridge {n f g : Nat} (n2 : 2 ≤ n) (n8 : n ≤ 8) (fg : f ≤ g) (gf : g ≤ f + n) : lmarks n f g = mk5 n (f % (2 * n)) (g - f) := by
  have ht : f % (2 * n) < 2 * n := Nat.mod_lt _ (by omega)
  have ok := okAt_all (okAt_of (n := n) (t := f % (2 * n)) (d := g - f) n2 n8 ht (by omega))
  have e := lmarks_mod (n := n) (f := f) (g := g) n2 (by omega) (by omega)
  rw [e]
  have e1 : (f : Int) % (2 * n) = ((f % (2 * n) : Nat) : Int) := by push_cast; rfl
  have e2 : (g : Int) - f = ((g - f : Nat) : Int) := by omega
  rw [e1, e2, ok.1]
  rfl
theorem mk_at {n f g p : Nat} (n2 : 2 ≤ n) (n8 : n ≤ 8) (fg : f ≤ g) (gf : g ≤ f + n) (hp : p < n) : (mk5 n (f % (2 * n)) (g - f))[p]? = some (lmark n f g p) := by
  rw [← mk_bridge n2 n8 fg gf]
  unfold lmarks
  rw [List.getElem?_map, List.getElem?_range hp]; rfl
theorem mod_two {n a : Nat} : a % (2 * n) % n = a % n := Nat.mod_mod_of_dvd a ⟨2, by omega⟩
theorem add_mod2 {n f k : Nat} : (f % (2 * n) + k) % (2 * n) = (f + k) % (2 * n) := by simp
theorem mark_g {n f g : Nat} (n2 : 2 ≤ n) (n8 : n ≤ 8) (fg : f ≤ g) (gf : g ≤ f + n) : mayG n (g % (2 * n)) (lmark n f g (g % n)) = decide (g < f + n) := by
  have ht : f % (2 * n) < 2 * n := Nat.mod_lt _ (by omega)
  obtain ⟨x, y, x1, y1, x2, y2, x3, y3⟩ := lets_of (n := n) (t := f % (2 * n)) (d := g - f) (far := 0) n2 n8 ht (by omega) (by omega)
  have e : (f % (2 * n) + (g - f) + 0) % (2 * n) = g % (2 * n) := by rw [Nat.add_zero, add_mod2]; congr 1; omega
  rw [e] at x1 x3
  rw [mod_two, mk_at n2 n8 fg gf (Nat.mod_lt _ (by omega))] at x1
  cases x1
  unfold mayG
  rw [Int.natCast_ediv, x3]
  apply decide_eq_decide.mpr; omega
theorem mark_t {n f g k : Nat} (n2 : 2 ≤ n) (n8 : n ≤ 8) (fg : f ≤ g) (gf : g ≤ f + n) (fk : f ≤ k) (kf : k < f + n) : mayT n (k % (2 * n)) (lmark n f g (k % n)) = decide (k < g) := by
  have ht : f % (2 * n) < 2 * n := Nat.mod_lt _ (by omega)
  obtain ⟨x, y, x1, y1, x2, y2, x3, y3⟩ := lets_of (n := n) (t := f % (2 * n)) (d := g - f) (far := k - f) n2 n8 ht (by omega) (by omega)
  have e : (f % (2 * n) + (k - f)) % (2 * n) = k % (2 * n) := by rw [add_mod2]; congr 1; omega
  rw [e] at y1 y3
  rw [mod_two, mk_at n2 n8 fg gf (Nat.mod_lt _ (by omega))] at y1
  cases y1
  unfold mayT
  rw [Int.natCast_ediv, y3]
  apply decide_eq_decide.mpr; omega
theorem mark_in {n f g p : Nat} (n2 : 2 ≤ n) (n8 : n ≤ 8) (fg : f ≤ g) (gf : g ≤ f + n) (hp : p < n) : 0 ≤ lmark n f g p ∧ lmark n f g p ≤ 3 := by
  have ht : f % (2 * n) < 2 * n := Nat.mod_lt _ (by omega)
  have ok := okAt_all (okAt_of (n := n) (t := f % (2 * n)) (d := g - f) n2 n8 ht (by omega))
  have o := sound_marksO ok.2.1
  exact marksO_in o _ (List.mem_of_getElem? (mk_at n2 n8 fg gf hp))
theorem mark_given {n f g p : Nat} (n2 : 2 ≤ n) (n8 : n ≤ 8) (fg : f ≤ g) (gf : g < f + n) (hp : p < n) : lmark n f (g + 1 : Nat) p = if p = g % n then 2 * ((g % (2 * n) / n : Nat) : Int) + 1 else lmark n f g p := by
  have ht : f % (2 * n) < 2 * n := Nat.mod_lt _ (by omega)
  have e := give_of (n := n) (t := f % (2 * n)) (d := g - f) n2 n8 ht (by omega)
  have e1 : (f % (2 * n) + (g - f)) % (2 * n) = g % (2 * n) := by rw [add_mod2]; congr 1; omega
  rw [e1, mod_two] at e
  have h1 := mk_at n2 n8 fg (Nat.le_of_lt gf) hp
  have h2 := mk_at (g := g + 1) n2 n8 (by omega) gf hp
  rw [show g + 1 - f = g - f + 1 by omega, ← e] at h2
  by_cases c : p = g % n
  · rw [if_pos c]
    subst c
    have hl : g % n < (mk5 n (f % (2 * n)) (g - f)).length := (List.getElem?_eq_some_iff.mp h1).1
    rw [List.getElem?_set_self hl] at h2
    rw [← Option.some.inj h2, Int.natCast_ediv]
  · rw [if_neg c]
    rw [List.getElem?_set_ne (fun z => c z.symm), h1] at h2
    exact (Option.some.inj h2).symm
theorem mark_freed {n f g p : Nat} (n2 : 2 ≤ n) (n8 : n ≤ 8) (fg : f < g) (gf : g ≤ f + n) (hp : p < n) : lmark n (f + 1 : Nat) g p = if p = f % n then 2 * ((f % (2 * n) / n : Nat) : Int) else lmark n f g p := by
  have ht : f % (2 * n) < 2 * n := Nat.mod_lt _ (by omega)
  have e := take_of (n := n) (t := f % (2 * n)) (d := g - f) n2 n8 ht (by omega) (by omega)
  rw [mod_two, add_mod2] at e
  have h1 := mk_at n2 n8 (Nat.le_of_lt fg) gf hp
  have h2 := mk_at (f := f + 1) (g := g) n2 n8 fg (by omega) hp
  rw [show g - (f + 1) = g - f - 1 by omega, ← e] at h2
  by_cases c : p = f % n
  · rw [if_pos c]
    subst c
    have hl : f % n < (mk5 n (f % (2 * n)) (g - f)).length := (List.getElem?_eq_some_iff.mp h1).1
    rw [List.getElem?_set_self hl] at h2
    rw [← Option.some.inj h2, Int.natCast_ediv]
  · rw [if_neg c]
    rw [List.getElem?_set_ne (fun z => c z.symm), h1] at h2
    exact (Option.some.inj h2).symm
end Mi
end TxSPure

section TxSSafe
set_option autoImplicit false
set_option linter.all false
set_option maxRecDepth 100000
set_option maxHeartbeats 4000000
namespace Mi
def ce (cs : List Int) (c : Nat) : Int := cs.getD c 0
theorem ce_set {cs : List Int} {c : Nat} (h : c < cs.length) (v : Int) (d : Nat) : ce (cs.set c v) d = if d = c then v else ce cs d := by
  unfold ce
  rw [List.getD_eq_getElem?_getD, List.getD_eq_getElem?_getD]
  by_cases e : d = c
  · subst e; rw [if_pos rfl, List.getElem?_set_self h]; rfl
  · rw [if_neg e, List.getElem?_set_ne (fun z => e z.symm)]
def thg (ws : List (List Int)) (a p : Nat) : Int := (ws.getD a []).getD p 0
def lenO (ws : List (List Int)) (a : Nat) : Nat := (ws.getD a []).length
/-- slip k lies in its place -/
def SlipAt (n : Nat) (cs : List Int) (ws : List (List Int)) (k : Nat) : Prop := ∀ a p, IsPos ws k a p → ce cs (4 * (k % n) + 1) = (a : Int) ∧ ce cs (4 * (k % n) + 2) = (lenO ws a : Int) - 1 - p ∧ ce cs (4 * (k % n) + 3) = thg ws a p
/-- the board where f slips were freed, g given -/
structure SafeB (n : Nat) (cs : List Int) (ws : List (List Int)) (f g : Nat) : Prop where
  n2 : 2 ≤ n
  n8 : n ≤ 8
  len : cs.length = 4 * n + 4
  fg : f ≤ g
  gf : g ≤ f + n
  gt : g ≤ total ws
  ok : ∀ o ∈ ws, 1 ≤ o.length ∧ o.length ≤ n
  mks : ∀ p, p < n → ce cs (4 * p) = lmark n f g p
  sl : ∀ k, k < g → g < k + n → SlipAt n cs ws k
  sf : ∀ k, f ≤ k → k < g → SlipAt n cs ws k
  z : g = 0 → ce cs (4 * (n - 1) + 1) = -1 ∧ ce cs (4 * (n - 1) + 2) = 0
def GSafe (n : Nat) (cs : List Int) (v : Gv) (f g : Nat) : Prop := match v.here with
  | .rouse => v.seen = []
  | .clear => v.seen = []
  | .mute => v.seen = []
  | .marks => v.seen.length < n ∧ ∀ i, i < v.seen.length → v.seen.getD i 0 / 2 = ce cs (4 * i) / 2 ∧ 0 ≤ v.seen.getD i 0 ∧ v.seen.getD i 0 ≤ 3
  | .told => v.spot = some (g % (2 * n))
  | .lacks => v.spot = some (g % (2 * n)) ∧ (g = 0 → v.at_ = -1) ∧ (0 < g → ∃ a p, IsPos v.wares (g - 1) a p ∧ v.at_ = (a : Int))
  | .look | .wish | .again | .sleep | .hush | .unwish => v.spot = some (g % (2 * n)) ∧ ∃ a p : Nat, NextPos v.wares g a p ∧ v.at_ = (a : Int) ∧ v.part = (p : Int)
  | .number => v.spot = some (g % (2 * n)) ∧ g < f + n ∧ ∃ a p : Nat, IsPos v.wares g a p ∧ v.at_ = (a : Int) ∧ v.part = (p : Int)
  | .left => v.spot = some (g % (2 * n)) ∧ g < f + n ∧ ∃ a p : Nat, IsPos v.wares g a p ∧ v.at_ = (a : Int) ∧ v.part = (p : Int) ∧ ce cs (4 * (g % n) + 1) = (a : Int)
  | .thing => v.spot = some (g % (2 * n)) ∧ g < f + n ∧ ∃ a p : Nat, IsPos v.wares g a p ∧ v.at_ = (a : Int) ∧ v.part = (p : Int) ∧ ce cs (4 * (g % n) + 1) = (a : Int) ∧ ce cs (4 * (g % n) + 2) = (lenO v.wares a : Int) - 1 - p
  | .mark => v.spot = some (g % (2 * n)) ∧ g < f + n ∧ ∃ a p : Nat, IsPos v.wares g a p ∧ v.at_ = (a : Int) ∧ v.part = (p : Int) ∧ SlipAt n cs v.wares g
  | .card | .ring => 0 < g ∧ v.spot = some ((g - 1) % (2 * n)) ∧ ∃ a p : Nat, IsPos v.wares (g - 1) a p ∧ v.at_ = (a : Int) ∧ v.part = (p : Int)
  | .free => False
/-- what the taker has read is the beginning of what stands there, within one order -/
def Reads (ws : List (List Int)) (f : Nat) (ps : List Int) : Prop := ps = [] ∨ ∃ a p, IsPos ws f a p ∧ p + ps.length < lenO ws a ∧ ∀ i, i < ps.length → ps.getD i 0 = thg ws a (p + i)
structure Book (ws bk : List (List Int)) (f g : Nat) : Prop where
  le : bk.length ≤ ws.length
  eq : bk = ws.take bk.length
  sg : Sm ws bk.length ≤ g
  fs : f ≤ Sm ws bk.length
  sf : 0 < bk.length → Sm ws (bk.length - 1) ≤ f
def TSafe (n : Nat) (cs : List Int) (ws : List (List Int)) (u : Tk) (f g : Nat) : Prop := Book ws u.taken f g ∧ match u.here with
  | .rouse => u.seen = [] ∧ u.parts = []
  | .clear => u.seen = [] ∧ u.parts = []
  | .mute => u.seen = [] ∧ u.parts = []
  | .marks => u.seen.length < n ∧ u.parts = [] ∧ ∀ i, i < u.seen.length → (u.seen.getD i 0 / 2 + u.seen.getD i 0) % 2 = (ce cs (4 * i) / 2 + ce cs (4 * i)) % 2 ∧ 0 ≤ u.seen.getD i 0 ∧ u.seen.getD i 0 ≤ 3
  | .look | .wish | .again | .sleep | .hush | .unwish => u.early = some (f % (2 * n)) ∧ u.spot = some ((f + u.parts.length) % (2 * n)) ∧ f + u.parts.length ≤ g ∧ Reads ws f u.parts
  | .number => u.early = some (f % (2 * n)) ∧ u.spot = some ((f + u.parts.length) % (2 * n)) ∧ f + u.parts.length < g ∧ Reads ws f u.parts
  | .left => u.early = some (f % (2 * n)) ∧ u.spot = some ((f + u.parts.length) % (2 * n)) ∧ f + u.parts.length < g ∧ Reads ws f u.parts ∧ ∀ a p, IsPos ws (f + u.parts.length) a p → u.number = (a : Int)
  | .thing => u.early = some (f % (2 * n)) ∧ u.spot = some ((f + u.parts.length) % (2 * n)) ∧ f + u.parts.length < g ∧ Reads ws f u.parts ∧ ∀ a p, IsPos ws (f + u.parts.length) a p → u.number = (a : Int) ∧ u.left = (lenO ws a : Int) - 1 - p
  | .free => 0 < u.taken.length ∧ f < Sm ws u.taken.length ∧ Sm ws (u.taken.length - 1) ≤ f ∧ u.early = some (f % (2 * n)) ∧ u.spot = some ((Sm ws u.taken.length - 1) % (2 * n))
  | .card | .ring => 0 < u.taken.length ∧ 0 < f ∧ Sm ws (u.taken.length - 1) ≤ f - 1 ∧ u.early = some ((f - 1) % (2 * n)) ∧ u.spot = some ((Sm ws u.taken.length - 1) % (2 * n))
  | _ => False
/-- a lane's safety -/
structure Safe (b : Bd) (v : Gv) (u : Tk) (f g : Nat) : Prop where
  sb : SafeB b.size b.cells v.wares f g
  sv : GSafe b.size b.cells v f g
  su : TSafe b.size b.cells v.wares u f g
theorem ce_at (b : Bd) (c : Nat) : b.at_ c = ce b.cells c := rfl
/-! ### writes that leave the marks -/
theorem SafeB.write {n c f g : Nat} {cs : List Int} {ws : List (List Int)} {x : Int} (s : SafeB n cs ws f g) (hc : c < 4 * n + 4) (hm : ∀ p, p < n → c ≠ 4 * p) (hs : 4 * n ≤ c ∨ (g < f + n ∧ c / 4 = g % n)) : SafeB n (cs.set c x) ws f g := by
  have n2 := s.n2
  have hl : c < cs.length := by rw [s.len]; exact hc
  have out : ∀ k q, q < 4 → k < g → g < k + n ∨ f ≤ k → 4 * (k % n) + q ≠ c := by
    intro k q hq hk hg e
    have k1 : k % n < n := Nat.mod_lt _ (by omega)
    rcases hs with h | ⟨h0, h⟩
    · omega
    · have e1 : k % n = g % n := by omega
      have gn : g < k + n := by omega
      have := s.gf
      have hd : (g - k) % n = 0 := by
        have := Nat.sub_mod_eq_zero_of_mod_eq (m := g) (n := k) (k := n) e1.symm
        exact this
      rw [Nat.mod_eq_of_lt (by omega)] at hd
      omega
  have slip : ∀ k, k < g → g < k + n ∨ f ≤ k → SlipAt n cs ws k → SlipAt n (cs.set c x) ws k := fun k hk hg h a p ip => by
    obtain ⟨h1, h2, h3⟩ := h a p ip
    refine ⟨?_, ?_, ?_⟩
    · rw [ce_set hl, if_neg (out k 1 (by omega) hk hg)]; exact h1
    · rw [ce_set hl, if_neg (out k 2 (by omega) hk hg)]; exact h2
    · rw [ce_set hl, if_neg (out k 3 (by omega) hk hg)]; exact h3
  refine ⟨s.n2, s.n8, by rw [List.length_set]; exact s.len, s.fg, s.gf, s.gt, s.ok, fun p hp => ?_, fun k h1 h2 => slip k h1 (Or.inl h2) (s.sl k h1 h2), fun k h1 h2 => slip k h2 (Or.inr h1) (s.sf k h1 h2), fun h0 => ?_⟩
  · rw [ce_set hl, if_neg (fun z => hm p hp z.symm)]; exact s.mks p hp
  · obtain ⟨z1, z2⟩ := s.z h0
    have : c ≠ 4 * (n - 1) + 1 ∧ c ≠ 4 * (n - 1) + 2 := by
      rcases hs with h | ⟨_, h⟩
      · omega
      · rw [h0, Nat.zero_mod] at h; omega
    rw [ce_set hl, ce_set hl, if_neg (fun z => this.1 z.symm), if_neg (fun z => this.2 z.symm)]
    exact ⟨z1, z2⟩
/-! ### frames -/
theorem Book.g {ws bk : List (List Int)} {f g g' : Nat} (b : Book ws bk f g) (h : g ≤ g') : Book ws bk f g' := ⟨b.le, b.eq, Nat.le_trans b.sg h, b.fs, b.sf⟩
theorem TSafe.mono {n : Nat} {cs cs' : List Int} {ws : List (List Int)} {u : Tk} {f g g' : Nat} (s : TSafe n cs ws u f g) (hg : g ≤ g') (h : ∀ i, i < n → (ce cs' (4 * i) / 2 + ce cs' (4 * i)) % 2 = (ce cs (4 * i) / 2 + ce cs (4 * i)) % 2) : TSafe n cs' ws u f g' := by
  obtain ⟨s1, s2⟩ := s
  refine ⟨s1.g hg, ?_⟩
  obtain ⟨here, spot, seen, taken, early, number, left, parts⟩ := u
  cases here <;> simp only at s2 ⊢
  · exact s2
  · exact s2
  · exact s2
  · obtain ⟨a, b, c⟩ := s2
    refine ⟨a, b, fun i hi => ?_⟩
    rw [h i (by omega)]
    exact c i hi
  all_goals first
    | exact s2
    | (obtain ⟨a, b, c, d⟩ := s2; exact ⟨a, b, by omega, d⟩)
theorem GSafe.mono {n : Nat} {cs cs' : List Int} {v : Gv} {f f' g : Nat} (n0 : 0 < n) (s : GSafe n cs v f g) (hf : f ≤ f') (h : ∀ i, i < n → ce cs' (4 * i) / 2 = ce cs (4 * i) / 2) (hq : ∀ q, 1 ≤ q → q ≤ 3 → ce cs' (4 * (g % n) + q) = ce cs (4 * (g % n) + q)) : GSafe n cs' v f' g := by
  obtain ⟨here, spot, seen, wares, at_, part⟩ := v
  unfold GSafe at s ⊢
  cases here <;> simp only at s ⊢
  · exact s
  · exact s
  · exact s
  · obtain ⟨a, b⟩ := s
    refine ⟨a, fun i hi => ?_⟩
    rw [h i (by omega)]
    exact b i hi
  all_goals first
    | exact s
    | (obtain ⟨a, b, c⟩ := s; exact ⟨a, by omega, c⟩)
    | (obtain ⟨a, b, x, p, c1, c2, c3, c4⟩ := s; exact ⟨a, by omega, x, p, c1, c2, c3, by rw [hq 1 (by omega) (by omega)]; exact c4⟩)
    | (obtain ⟨a, b, x, p, c1, c2, c3, c4, c5⟩ := s; exact ⟨a, by omega, x, p, c1, c2, c3, by rw [hq 1 (by omega) (by omega)]; exact c4, by rw [hq 2 (by omega) (by omega)]; exact c5⟩)
    | (obtain ⟨a, b, x, p, c1, c2, c3, c4⟩ := s
       refine ⟨a, by omega, x, p, c1, c2, c3, fun a' p' ip => ?_⟩
       obtain ⟨d1, d2, d3⟩ := c4 a' p' ip
       exact ⟨by rw [hq 1 (by omega) (by omega)]; exact d1, by rw [hq 2 (by omega) (by omega)]; exact d2, by rw [hq 3 (by omega) (by omega)]; exact d3⟩)
theorem marks_of_safe {n f g : Nat} {cs : List Int} {ws : List (List Int)} (s : SafeB n cs ws f g) {p : Nat} (hp : p < n) : 0 ≤ ce cs (4 * p) ∧ ce cs (4 * p) ≤ 3 := by
  rw [s.mks p hp]; exact mark_in s.n2 s.n8 s.fg s.gf hp
theorem lap_eq {n f g : Nat} {cs ns : List Int} {ws : List (List Int)} (s : SafeB n cs ws f g) (hl : ns.length = n) (F : Int → Int) (h : ∀ i, i < n → F (ns.getD i 0) = F (ce cs (4 * i))) : ns.map F = (lmarks n f g).map F := by
  apply List.ext_getElem?
  intro i
  by_cases c : i < n
  · have h1 := h i c
    rw [s.mks i c] at h1
    rw [List.getElem?_map, List.getElem?_map]
    have e1 : ns[i]? = some (ns.getD i 0) := by rw [List.getD_eq_getElem?_getD, List.getElem?_eq_getElem (by omega)]; rfl
    have e2 : (lmarks n f g)[i]? = some (lmark n f g i) := by unfold lmarks; rw [List.getElem?_map, List.getElem?_range c]; rfl
    rw [e1, e2]
    simp only [Option.map_some]
    rw [h1]
  · rw [List.getElem?_eq_none (by rw [List.length_map]; omega), List.getElem?_eq_none (by rw [List.length_map, lmarks_len]; omega)]
theorem seen_ok {n : Nat} {ns : List Int} (n2 : 2 ≤ n) (n8 : n ≤ 8) (hl : ns.length = n) (h : ∀ i, i < n → 0 ≤ ns.getD i 0 ∧ ns.getD i 0 ≤ 3) : marksO ns = none := by
  unfold marksO
  rw [if_neg (by omega), if_neg]
  intro z
  obtain ⟨m, hm, z⟩ := List.any_eq_true.mp z
  obtain ⟨i, hi⟩ := List.getElem?_of_mem hm
  have hlt := (List.getElem?_eq_some_iff.mp hi).1
  have := h i (by omega)
  rw [List.getD_eq_getElem?_getD, hi] at this
  simp at this
  simp [badMark] at z; omega
theorem front_facts {n f g : Nat} (n2 : 2 ≤ n) (n8 : n ≤ 8) (fg : f ≤ g) (gf : g ≤ f + n) : marksO (lmarks n f g) = none ∧ giverF (lmarks n f g) = .inr ((g % (2 * n) : Nat) : Int) ∧ takerF (lmarks n f g) = .inr ((f % (2 * n) : Nat) : Int) := by
  have ht : f % (2 * n) < 2 * n := Nat.mod_lt _ (by omega)
  have ok := okAt_all (okAt_of (n := n) (t := f % (2 * n)) (d := g - f) n2 n8 ht (by omega))
  rw [mk_bridge n2 n8 fg gf]
  have e : (f % (2 * n) + (g - f)) % (2 * n) = g % (2 * n) := by rw [add_mod2]; congr 1; omega
  refine ⟨sound_marksO ok.2.1, ?_, ok.2.2.2.1⟩
  have := ok.2.2.1
  rw [e] at this
  show giverF (marksF n (f % (2 * n)) ((f % (2 * n) + (g - f)) % (2 * n))) = _
  rw [e]
  exact this
theorem seen_g {n f g : Nat} {cs ns : List Int} {ws : List (List Int)} (s : SafeB n cs ws f g) (hl : ns.length = n) (h : ∀ i, i < n → ns.getD i 0 / 2 = ce cs (4 * i) / 2 ∧ 0 ≤ ns.getD i 0 ∧ ns.getD i 0 ≤ 3) : marksO ns = none ∧ giverF ns = .inr ((g % (2 * n) : Nat) : Int) := by
  have o := seen_ok s.n2 s.n8 hl fun i hi => (h i hi).2
  obtain ⟨o2, o3, _⟩ := front_facts s.n2 s.n8 s.fg s.gf
  refine ⟨o, ?_⟩
  rw [← o3, giverF_none o, giverF_none o2, lap_eq s hl (fun m => m / 2) fun i hi => (h i hi).1]
theorem seen_t {n f g : Nat} {cs ns : List Int} {ws : List (List Int)} (s : SafeB n cs ws f g) (hl : ns.length = n) (h : ∀ i, i < n → (ns.getD i 0 / 2 + ns.getD i 0) % 2 = (ce cs (4 * i) / 2 + ce cs (4 * i)) % 2 ∧ 0 ≤ ns.getD i 0 ∧ ns.getD i 0 ≤ 3) : marksO ns = none ∧ takerF ns = .inr ((f % (2 * n) : Nat) : Int) := by
  have o := seen_ok s.n2 s.n8 hl fun i hi => (h i hi).2
  obtain ⟨o2, _, o3⟩ := front_facts s.n2 s.n8 s.fg s.gf
  refine ⟨o, ?_⟩
  rw [← o3, takerF_none o, takerF_none o2, lap_eq s hl (fun m => (m / 2 + m) % 2) fun i hi => (h i hi).1]
end Mi
end TxSSafe

section TxSGstep
set_option autoImplicit false
set_option linter.all false
set_option maxRecDepth 100000
set_option maxHeartbeats 4000000
namespace Mi
theorem bell_lt (n : Nat) (t : Bool) : 4 * n ≤ bellI n t ∧ bellI n t < 4 * n + 4 := by unfold bellI; cases t <;> simp <;> omega
theorem card_lt (n : Nat) (t : Bool) : 4 * n ≤ cardI n t ∧ cardI n t < 4 * n + 4 := by unfold cardI; cases t <;> simp
/-- a write behind the places -/
theorem Safe.high {b b' : Bd} {v v' : Gv} {u u' : Tk} {f g c : Nat} {x : Int} (s : Safe b v u f g) (hc : 4 * b.size ≤ c) (hc2 : c < 4 * b.size + 4) (hs : b'.size = b.size) (hb : b'.cells = b.cells.set c x) (hw : v'.wares = v.wares)
    (hv : ∀ cs : List Int, (∀ i, i < 4 * b.size → ce cs i = ce b.cells i) → GSafe b.size cs v f g → GSafe b.size cs v' f g) (hu : ∀ cs : List Int, TSafe b.size cs v.wares u f g → TSafe b.size cs v.wares u' f g) : Safe b' v' u' f g := by
  have n2 := s.sb.n2
  have hl : c < b.cells.length := by rw [s.sb.len]; exact hc2
  have same : ∀ i, i < 4 * b.size → ce (b.cells.set c x) i = ce b.cells i := fun i hi => by rw [ce_set hl, if_neg (by omega)]
  have pl : g % b.size < b.size := Nat.mod_lt _ (by omega)
  refine ⟨?_, ?_, ?_⟩
  · rw [hs, hb, hw]
    exact s.sb.write hc2 (fun p hp => by omega) (Or.inl hc)
  · rw [hs, hb]
    exact hv _ same (s.sv.mono (by omega) (Nat.le_refl _) (fun i hi => by rw [same _ (by omega)]) (fun q h1 h2 => same _ (by omega)))
  · rw [hs, hb, hw]
    exact hu _ (s.su.mono (Nat.le_refl _) (fun i hi => by rw [same _ (by omega)]))
/-- nothing written -/
theorem Safe.still {b b' : Bd} {v v' : Gv} {u u' : Tk} {f g : Nat} (s : Safe b v u f g) (hs : b'.size = b.size) (hb : b'.cells = b.cells) (hw : v'.wares = v.wares)
    (hv : GSafe b.size b.cells v f g → GSafe b.size b.cells v' f g) (hu : TSafe b.size b.cells v.wares u f g → TSafe b.size b.cells v.wares u' f g) : Safe b' v' u' f g := by
  refine ⟨?_, ?_, ?_⟩
  · rw [hs, hb, hw]; exact s.sb
  · rw [hs, hb]; exact hv s.sv
  · rw [hs, hb, hw]; exact hu s.su
/-- a write into the place that is given next, not its mark -/
theorem Safe.place {b b' : Bd} {v v' : Gv} {u : Tk} {f g q : Nat} {x : Int} (s : Safe b v u f g) (q1 : 1 ≤ q) (q3 : q ≤ 3) (gf : g < f + b.size) (hs : b'.size = b.size) (hb : b'.cells = b.cells.set (4 * (g % b.size) + q) x) (hw : v'.wares = v.wares)
    (hv : (∀ i, ce (b.cells.set (4 * (g % b.size) + q) x) i = if i = 4 * (g % b.size) + q then x else ce b.cells i) → GSafe b.size (b.cells.set (4 * (g % b.size) + q) x) v' f g) : Safe b' v' u f g := by
  have n2 := s.sb.n2
  have pl : g % b.size < b.size := Nat.mod_lt _ (by omega)
  have hl : 4 * (g % b.size) + q < b.cells.length := by rw [s.sb.len]; omega
  refine ⟨?_, ?_, ?_⟩
  · rw [hs, hb, hw]
    exact s.sb.write (by omega) (fun p hp => by omega) (Or.inr ⟨gf, by omega⟩)
  · rw [hs, hb]
    exact hv (ce_set hl x)
  · rw [hs, hb, hw]
    exact s.su.mono (Nat.le_refl _) (fun i hi => by rw [ce_set hl, if_neg (by omega)])
theorem Safe.ite {c : Prop} [Decidable c] {b : Bd} {v1 v2 : Gv} {u : Tk} {f g : Nat} (h1 : c → Safe b v1 u f g) (h2 : ¬ c → Safe b v2 u f g) : Safe b (if c then v1 else v2) u f g := by
  split
  · exact h1 (by assumption)
  · exact h2 (by assumption)
theorem prev_pos {n g : Nat} (n2 : 2 ≤ n) (g0 : 0 < g) : prevT n (g % (2 * n)) % n = (g - 1) % n := by
  unfold prevT
  rw [mod_two]
  have e : g % (2 * n) + 2 * n - 1 = g % (2 * n) + (2 * n - 1) := by omega
  rw [e]
  have h1 : (g % (2 * n) + (2 * n - 1)) % n = (g + (2 * n - 1)) % n := by
    rw [Nat.add_mod, mod_two, ← Nat.add_mod]
  rw [h1, show g + (2 * n - 1) = (g - 1) + n * 2 by omega, Nat.add_mul_mod_self_left]
theorem prev_zero {n : Nat} (n2 : 2 ≤ n) : prevT n (0 % (2 * n)) % n = n - 1 := by
  unfold prevT
  rw [mod_two, Nat.zero_mod, show 0 + 2 * n - 1 = (n - 1) + n by omega, Nat.add_mod_right, Nat.mod_eq_of_lt (by omega)]
theorem next_turn {n g : Nat} (g0 : 0 < g) (n2 : 2 ≤ n) : ((g - 1) % (2 * n) + 1) % (2 * n) = g % (2 * n) := by
  rw [add_mod2, show g - 1 + 1 = g by omega]
theorem NextPos.is {ws : List (List Int)} {k a p : Nat} (h : NextPos ws k a p) (ha : a < ws.length) : IsPos ws k a p := ⟨ha, h.2.2.1 ha, h.2.1⟩
theorem IsPos.next {ws : List (List Int)} {k a p : Nat} (h : IsPos ws k a p) (ok : ∀ o ∈ ws, 1 ≤ o.length) : NextPos ws (k + 1) (if p + 1 = lenO ws a then a + 1 else a) (if p + 1 = lenO ws a then 0 else p + 1) := by
  obtain ⟨h1, h2, h3⟩ := h
  have e : Sm ws (a + 1) = Sm ws a + lenO ws a := rfl
  have h2 : p < lenO ws a := h2
  by_cases c : p + 1 = lenO ws a
  · rw [if_pos c, if_pos c]
    refine ⟨by omega, by omega, fun ha => ?_, fun _ => rfl⟩
    have : ws.getD (a + 1) [] ∈ ws := by
      rw [List.getD_eq_getElem?_getD, List.getElem?_eq_getElem ha]
      exact List.getElem_mem ha
    exact ok _ this
  · rw [if_neg c, if_neg c]
    exact ⟨by omega, by omega, fun _ => by unfold lenO at *; omega, fun ha => by omega⟩
theorem goOn_safe {n : Nat} {cs : List Int} {v : Gv} {f g : Nat} (n2 : 2 ≤ n) (ok : ∀ o ∈ v.wares, 1 ≤ o.length) (g0 : 0 < g) (hs : v.spot = some ((g - 1) % (2 * n))) {a p : Nat} (ip : IsPos v.wares (g - 1) a p) (ha : v.at_ = (a : Int)) (hp : v.part = (p : Int)) : GSafe n cs (v.goOn n) f g := by
  have ol : v.order.length = lenO v.wares a := by unfold Gv.order lenO; rw [ha, Int.toNat_natCast]
  have nx := ip.next ok
  rw [show g - 1 + 1 = g by omega] at nx
  unfold GSafe Gv.goOn
  simp only
  refine ⟨by rw [hs]; simp only [Option.getD_some]; rw [next_turn g0 n2], _, _, nx, ?_, ?_⟩
  · rw [ol, hp, ha]
    by_cases c : p + 1 = lenO v.wares a
    · rw [if_pos (by omega), if_pos c]; omega
    · rw [if_neg (by omega), if_neg c]
  · rw [ol, hp]
    by_cases c : p + 1 = lenO v.wares a
    · rw [if_pos (by omega), if_pos c]; rfl
    · rw [if_neg (by omega), if_neg c]; omega
theorem getD_snoc (l : List Int) (x : Int) (i : Nat) : (l ++ [x]).getD i 0 = if i < l.length then l.getD i 0 else if i = l.length then x else 0 := by
  rw [List.getD_eq_getElem?_getD]
  by_cases c : i < l.length
  · rw [if_pos c, List.getElem?_append_left c, List.getD_eq_getElem?_getD]
  · rw [if_neg c]
    by_cases d : i = l.length
    · rw [if_pos d, d]; simp
    · rw [if_neg d, List.getElem?_append_right (by omega), List.getElem?_eq_none (by simp; omega)]; rfl
/-- the stage at which a mark is written -/
def gAdd (s : St) : Nat := match s with
  | .mark => 1
  | _ => 0
/-- the giver's step: safe, and one slip more where the mark is written -/
theorem gstep_safe {b : Bd} {v : Gv} {u : Tk} {f g : Nat} (s : Safe b v u f g) : Safe (gstep b v).1 (gstep b v).2 u f (g + gAdd v.here) := by
  have n2 := s.sb.n2
  have n8 := s.sb.n8
  have ok1 : ∀ o ∈ v.wares, 1 ≤ o.length := fun o ho => (s.sb.ok o ho).1
  obtain ⟨here, spot, seen, wares, at_, part⟩ := v
  have sv := s.sv
  unfold GSafe at sv
  unfold gstep
  cases here <;> simp only at sv ⊢
  case rouse =>
    show Safe _ _ u f g
    exact s.high (bell_lt _ _).1 (bell_lt _ _).2 rfl rfl rfl (fun cs _ h => by unfold GSafe at h ⊢; exact h) fun cs h => h
  case clear =>
    show Safe _ _ u f g
    exact s.high (card_lt _ _).1 (card_lt _ _).2 rfl rfl rfl (fun cs _ h => by unfold GSafe at h ⊢; exact h) fun cs h => h
  case mute =>
    show Safe _ _ u f g
    exact s.high (bell_lt _ _).1 (bell_lt _ _).2 rfl rfl rfl (fun cs _ h => by unfold GSafe at h ⊢; simp only at h ⊢; rw [h]; exact ⟨by simp; omega, fun i hi => by simp at hi⟩) fun cs h => h
  case marks =>
    show Safe _ _ u f g
    obtain ⟨h1, h2⟩ := sv
    have snoc : ∀ i, i < seen.length + 1 → (seen ++ [b.at_ (4 * seen.length)]).getD i 0 / 2 = ce b.cells (4 * i) / 2 ∧ 0 ≤ (seen ++ [b.at_ (4 * seen.length)]).getD i 0 ∧ (seen ++ [b.at_ (4 * seen.length)]).getD i 0 ≤ 3 := fun i hi => by
      rw [getD_snoc]
      by_cases c : i < seen.length
      · rw [if_pos c]; exact h2 i c
      · rw [if_neg c, if_pos (by omega)]
        have e : i = seen.length := by omega
        rw [e]
        exact ⟨rfl, marks_of_safe s.sb h1⟩
    refine Safe.ite (fun c => ?_) fun c => ?_
    · refine s.still rfl rfl rfl (fun _ => ?_) fun h => h
      unfold GSafe
      have := (seen_g s.sb (ns := seen ++ [b.at_ (4 * seen.length)]) (by simp; exact c) (fun i hi => snoc i (by omega))).2
      show some (turnOf _) = _
      rw [this]
      show some (((g % (2 * b.size) : Nat) : Int).toNat) = _
      rw [Int.toNat_natCast]
    · refine s.still rfl rfl rfl (fun _ => ?_) fun h => h
      exact ⟨by simp; omega, fun i hi => snoc i (by simp at hi; omega)⟩
  case wish =>
    show Safe _ _ u f g
    exact s.high (card_lt _ _).1 (card_lt _ _).2 rfl rfl rfl (fun cs _ h => by unfold GSafe at h ⊢; exact h) fun cs h => h
  case again =>
    show Safe _ _ u f g
    exact Safe.ite (fun c => s.still rfl rfl rfl (fun h => h) fun h => h) fun c => s.still rfl rfl rfl (fun h => h) fun h => h
  case sleep =>
    show Safe _ _ u f g
    exact Safe.ite (fun c => s.still rfl rfl rfl (fun h => h) fun h => h) fun c => s.still rfl rfl rfl (fun h => h) fun h => h
  case hush =>
    show Safe _ _ u f g
    exact s.high (bell_lt _ _).1 (bell_lt _ _).2 rfl rfl rfl (fun cs _ h => by unfold GSafe at h ⊢; exact h) fun cs h => h
  case unwish =>
    show Safe _ _ u f g
    exact s.high (card_lt _ _).1 (card_lt _ _).2 rfl rfl rfl (fun cs _ h => by unfold GSafe at h ⊢; exact h) fun cs h => h
  case told =>
    show Safe _ _ u f g
    refine s.still rfl rfl rfl (fun h => ?_) fun h => h
    subst sv
    refine ⟨rfl, fun g0 => ?_, fun g0 => ?_⟩
    · subst g0
      show b.at_ (4 * (prevT b.size (0 % (2 * b.size)) % b.size) + 1) = -1
      rw [prev_zero n2]
      exact (s.sb.z rfl).1
    · obtain ⟨a, p, ip⟩ := pos_of (ws := wares) (k := g - 1) (by have := s.sb.gt; simp only at this; omega)
      refine ⟨a, p, ip, ?_⟩
      show b.at_ (4 * (prevT b.size (g % (2 * b.size)) % b.size) + 1) = a
      rw [prev_pos n2 g0]
      exact (s.sb.sl (g - 1) (by omega) (by omega) a p ip).1
  case lacks =>
    show Safe _ _ u f g
    obtain ⟨h1, h2, h3⟩ := sv
    subst h1
    by_cases g0 : g = 0
    · subst g0
      have a0 := h2 rfl
      subst a0
      refine Safe.ite (fun c => absurd c.1 (by decide)) fun _ => ?_
      refine s.still rfl rfl rfl (fun h => ?_) fun h => h
      refine ⟨rfl, 0, 0, ⟨Nat.zero_le _, rfl, fun h => ?_, fun _ => rfl⟩, by simp, rfl⟩
      have : wares.getD 0 [] ∈ wares := by
        rw [List.getD_eq_getElem?_getD, List.getElem?_eq_getElem h]
        exact List.getElem_mem h
      exact ok1 _ this
    · obtain ⟨a, p, ip, ha⟩ := h3 (by omega)
      subst ha
      have sl : b.at_ (4 * (prevT b.size (g % (2 * b.size)) % b.size) + 2) = (lenO wares a : Int) - 1 - p := by
        rw [prev_pos n2 (by omega)]
        exact (s.sb.sl (g - 1) (by omega) (by omega) a p ip).2.1
      have nx := ip.next ok1
      rw [show g - 1 + 1 = g by omega] at nx
      have ip2 : p < lenO wares a := ip.2.1
      have ol : (Gv.order ⟨.lacks, some (g % (2 * b.size)), seen, wares, (a : Int), part⟩).length = lenO wares a := by unfold Gv.order lenO; simp
      refine Safe.ite (fun c => ?_) fun c => ?_
      · have c2 : 0 < b.at_ (4 * (prevT b.size (g % (2 * b.size)) % b.size) + 2) := c.2
        rw [sl] at c2
        rw [if_neg (by omega), if_neg (by omega)] at nx
        refine s.still rfl rfl rfl (fun h => ?_) fun h => h
        refine ⟨rfl, _, _, nx, rfl, ?_⟩
        show ((Gv.order ⟨.lacks, some (g % (2 * b.size)), seen, wares, (a : Int), part⟩).length : Int) - b.at_ (4 * (prevT b.size (g % (2 * b.size)) % b.size) + 2) = _
        rw [ol, sl]; omega
      · have c2 : ¬ 0 < b.at_ (4 * (prevT b.size (g % (2 * b.size)) % b.size) + 2) := fun z => c ⟨by simp, z⟩
        rw [sl] at c2
        rw [if_pos (by omega), if_pos (by omega)] at nx
        refine s.still rfl rfl rfl (fun h => ?_) fun h => h
        exact ⟨rfl, _, _, nx, by simp, rfl⟩
  case look =>
    show Safe _ _ u f g
    obtain ⟨h1, a, p, nx, ha, hp⟩ := sv
    subst h1 ha hp
    by_cases r : Gv.rests ⟨.look, some (g % (2 * b.size)), seen, wares, (a : Int), (p : Int)⟩ = true
    · rw [if_pos r]; exact s
    · rw [if_neg r]
      have al : a < wares.length := by simp [Gv.rests] at r; omega
      have key : mayG b.size (g % (2 * b.size)) (b.at_ (4 * (g % (2 * b.size) % b.size))) = decide (g < f + b.size) := by
        rw [mod_two, ce_at, s.sb.mks _ (Nat.mod_lt _ (by omega))]; exact mark_g n2 n8 s.sb.fg s.sb.gf
      refine Safe.ite (fun c => ?_) fun c => ?_
      · have c : mayG b.size (g % (2 * b.size)) (b.at_ (4 * (g % (2 * b.size) % b.size))) = true := c
        rw [key] at c
        refine s.still rfl rfl rfl (fun h => ?_) fun h => h
        exact ⟨rfl, of_decide_eq_true c, a, p, nx.is al, rfl, rfl⟩
      · exact s.still rfl rfl rfl (fun h => h) fun h => h
  case number =>
    show Safe _ _ u f g
    obtain ⟨h1, gf, a, p, ip, ha, hp⟩ := sv
    subst h1 ha hp
    simp only [Option.getD_some, mod_two]
    refine s.place (q := 1) (by omega) (by omega) gf rfl rfl rfl fun e => ?_
    exact ⟨rfl, gf, a, p, ip, rfl, rfl, by rw [e, if_pos rfl]⟩
  case left =>
    show Safe _ _ u f g
    obtain ⟨h1, gf, a, p, ip, ha, hp, c1⟩ := sv
    subst h1 ha hp
    simp only [Option.getD_some, mod_two]
    have ol : (Gv.order ⟨.left, some (g % (2 * b.size)), seen, wares, (a : Int), (p : Int)⟩).length = lenO wares a := by unfold Gv.order lenO; simp
    rw [ol]
    refine s.place (q := 2) (by omega) (by omega) gf rfl rfl rfl fun e => ?_
    exact ⟨rfl, gf, a, p, ip, rfl, rfl, by rw [e, if_neg (by omega)]; exact c1, by rw [e, if_pos rfl]⟩
  case thing =>
    show Safe _ _ u f g
    obtain ⟨h1, gf, a, p, ip, ha, hp, c1, c2⟩ := sv
    subst h1 ha hp
    simp only [Option.getD_some, mod_two]
    have ol : (Gv.order ⟨.thing, some (g % (2 * b.size)), seen, wares, (a : Int), (p : Int)⟩).getD (p : Int).toNat 0 = thg wares a p := by unfold Gv.order thg; simp
    rw [ol]
    refine s.place (q := 3) (by omega) (by omega) gf rfl rfl rfl fun e => ?_
    refine ⟨rfl, gf, a, p, ip, rfl, rfl, fun a' p' ip' => ?_⟩
    obtain ⟨rfl, rfl⟩ := ip.uniq ip'
    exact ⟨by rw [e, if_neg (by omega)]; exact c1, by rw [e, if_neg (by omega)]; exact c2, by rw [e, if_pos rfl]⟩
  case mark =>
    show Safe _ _ u f (g + 1)
    obtain ⟨h1, gf, a, p, ip, ha, hp, sl⟩ := sv
    subst h1 ha hp
    simp only [Option.getD_some, mod_two]
    have pl : g % b.size < b.size := Nat.mod_lt _ (by omega)
    have hl : 4 * (g % b.size) < b.cells.length := by rw [s.sb.len]; omega
    have e := ce_set hl (2 * ((g % (2 * b.size) / b.size : Nat) : Int) + 1)
    have old := s.sb.mks _ pl
    have may := mark_g n2 n8 s.sb.fg s.sb.gf
    rw [decide_eq_true gf, ← old] at may
    have may : ce b.cells (4 * (g % b.size)) = 2 * (1 - ((g % (2 * b.size) / b.size : Nat) : Int)) := of_decide_eq_true may
    have lap : g % (2 * b.size) / b.size < 2 := by
      have : g % (2 * b.size) < 2 * b.size := Nat.mod_lt _ (by omega)
      rw [Nat.div_lt_iff_lt_mul (by omega)]; omega
    have slip : ∀ k, SlipAt b.size b.cells wares k → SlipAt b.size (b.cells.set (4 * (g % b.size)) (2 * ((g % (2 * b.size) / b.size : Nat) : Int) + 1)) wares k := fun k h a p ip => by
      obtain ⟨d1, d2, d3⟩ := h a p ip
      exact ⟨by rw [e, if_neg (by omega)]; exact d1, by rw [e, if_neg (by omega)]; exact d2, by rw [e, if_neg (by omega)]; exact d3⟩
    refine ⟨⟨n2, n8, by show (b.cells.set _ _).length = 4 * b.size + 4; rw [List.length_set]; exact s.sb.len, by have := s.sb.fg; omega, gf, ip.lt, s.sb.ok, fun q hq => ?_, fun k k1 k2 => ?_, fun k k1 k2 => ?_, fun h => absurd h (by omega)⟩, ?_, ?_⟩
    · show ce (b.cells.set _ _) _ = lmark b.size f (g + 1 : Nat) q
      rw [mark_given n2 n8 s.sb.fg gf hq, e]
      by_cases c : q = g % b.size
      · rw [if_pos (by omega), if_pos c]
      · rw [if_neg (by omega), if_neg c]; exact s.sb.mks q hq
    · have k2 : g + 1 < k + b.size := k2
      by_cases c : k = g
      · subst c; exact slip _ sl
      · exact slip _ (s.sb.sl k (by omega) (by omega))
    · by_cases c : k = g
      · subst c; exact slip _ sl
      · exact slip _ (s.sb.sf k k1 (by omega))
    · exact ⟨by omega, rfl, a, p, ip, rfl, rfl⟩
    · refine s.su.mono (by omega) fun i hi => ?_
      show (ce (b.cells.set _ _) _ / 2 + ce (b.cells.set _ _) _) % 2 = _
      rw [e]
      by_cases c : i = g % b.size
      · subst c
        rw [if_pos rfl, may]; omega
      · rw [if_neg (by omega)]
  case card =>
    show Safe _ _ u f g
    obtain ⟨g0, h1, a, p, ip, ha, hp⟩ := sv
    exact Safe.ite (fun c => s.still rfl rfl rfl (fun h => h) fun h => h) fun c => s.still rfl rfl rfl (fun h => goOn_safe n2 ok1 g0 h1 ip ha hp) fun h => h
  case ring =>
    show Safe _ _ u f g
    obtain ⟨g0, h1, a, p, ip, ha, hp⟩ := sv
    exact s.high (bell_lt _ _).1 (bell_lt _ _).2 rfl rfl rfl (fun cs _ h => goOn_safe n2 ok1 g0 h1 ip ha hp) fun cs h => h
end Mi
end TxSGstep

section TxSTstep
set_option autoImplicit false
set_option linter.all false
set_option maxRecDepth 100000
set_option maxHeartbeats 4000000
namespace Mi
theorem Safe.iteT {c : Prop} [Decidable c] {b : Bd} {v : Gv} {u1 u2 : Tk} {f g : Nat} (h1 : c → Safe b v u1 f g) (h2 : ¬ c → Safe b v u2 f g) : Safe b v (if c then u1 else u2) f g := by
  split
  · exact h1 (by assumption)
  · exact h2 (by assumption)
/-- the stage at which a place is freed -/
def fAdd (s : St) : Nat := match s with
  | .free => 1
  | _ => 0
theorem Reads.lt {n : Nat} {cs : List Int} {ws : List (List Int)} {f g : Nat} {ps : List Int} (h : Reads ws f ps) (s : SafeB n cs ws f g) : ps.length < n := by
  rcases h with rfl | ⟨a, p, ip, hl, _⟩
  · have := s.n2; simp; omega
  · have : ws.getD a [] ∈ ws := by
      rw [List.getD_eq_getElem?_getD, List.getElem?_eq_getElem ip.1]
      exact List.getElem_mem ip.1
    have := (s.ok _ this).2
    unfold lenO at hl; omega
theorem Sm_succ (ws : List (List Int)) (a : Nat) : Sm ws (a + 1) = Sm ws a + lenO ws a := rfl
/-- the order of the first slip that is not freed -/
theorem Book.order {ws bk : List (List Int)} {f g a p : Nat} (b : Book ws bk f g) (ip : IsPos ws f a p) (ok : ∀ o ∈ ws, 1 ≤ o.length) : (a = bk.length ∧ p = 0) ∨ a + 1 = bk.length := by
  obtain ⟨h1, h2, h3⟩ := ip
  have h2 : p < lenO ws a := h2
  by_cases c : bk.length ≤ a
  · have e1 := Sm_mono (ws := ws) c
    have := b.fs
    have e2 : f = Sm ws bk.length := by omega
    by_cases d : a = bk.length
    · exact Or.inl ⟨d, by rw [d] at h3; omega⟩
    · have m := Sm_mono (ws := ws) (show bk.length + 1 ≤ a by omega)
      have : ws.getD bk.length [] ∈ ws := by
        rw [List.getD_eq_getElem?_getD, List.getElem?_eq_getElem (by omega)]
        exact List.getElem_mem _
      have := ok _ this
      rw [Sm_succ] at m
      unfold lenO at m; omega
  · have sf := b.sf (by omega)
    by_cases d : a + 1 = bk.length
    · exact Or.inr d
    · have m := Sm_mono (ws := ws) (show a + 1 ≤ bk.length - 1 by omega)
      rw [Sm_succ] at m
      omega
theorem Reads.at_ {ws : List (List Int)} {f a p0 : Nat} {ps : List Int} (h : Reads ws f ps) (ip : IsPos ws f a p0) (hp : p0 + ps.length < lenO ws a ∨ ps ≠ []) : ∀ i, i < ps.length → ps.getD i 0 = thg ws a (p0 + i) := by
  rcases h with rfl | ⟨a', p', ip', _, h⟩
  · intro i hi; simp at hi
  · obtain ⟨rfl, rfl⟩ := ip.uniq ip'
    exact h
theorem freed_safe {n : Nat} {cs : List Int} {ws : List (List Int)} {u : Tk} {f g : Nat} (s : SafeB n cs ws f g) (bk : Book ws u.taken f g) (b0 : 0 < u.taken.length) (f0 : 0 < f) (sm : Sm ws (u.taken.length - 1) ≤ f - 1) (he : u.early = some ((f - 1) % (2 * n))) (hs : u.spot = some ((Sm ws u.taken.length - 1) % (2 * n))) : TSafe n cs ws (u.freed n) f g := by
  have n2 := s.n2
  have e1 : ((f - 1) % (2 * n) + 1) % (2 * n) = f % (2 * n) := next_turn f0 n2
  unfold Tk.freed
  rw [he]
  simp only [Option.getD_some, e1]
  by_cases c : some ((f - 1) % (2 * n)) = u.spot
  · rw [if_pos c]
    exact ⟨bk, rfl, rfl, by have := s.fg; simpa using this, Or.inl rfl⟩
  · rw [if_neg c]
    rw [hs] at c
    have lt : f < Sm ws u.taken.length := by
      rcases Nat.lt_or_ge f (Sm ws u.taken.length) with h | h
      · exact h
      · exact absurd (by rw [show f = Sm ws u.taken.length from Nat.le_antisymm bk.fs h]) c
    exact ⟨bk, b0, lt, by show Sm ws (u.taken.length - 1) ≤ f; omega, rfl, hs⟩
/-- the taker's step: safe, and one slip less where a mark is written -/
theorem tstep_safe {b : Bd} {v : Gv} {u : Tk} {f g : Nat} (s : Safe b v u f g) : Safe (tstep b u).1 v (tstep b u).2 (f + fAdd u.here) g := by
  have n2 := s.sb.n2
  have n8 := s.sb.n8
  have ok1 : ∀ o ∈ v.wares, 1 ≤ o.length := fun o ho => (s.sb.ok o ho).1
  obtain ⟨here, spot, seen, taken, early, number, left, parts⟩ := u
  obtain ⟨bk, su⟩ := s.su
  unfold tstep
  cases here <;> simp only at su ⊢
  case rouse => exact s.high (bell_lt _ _).1 (bell_lt _ _).2 rfl rfl rfl (fun cs _ h => h) fun cs h => h
  case clear => exact s.high (card_lt _ _).1 (card_lt _ _).2 rfl rfl rfl (fun cs _ h => h) fun cs h => h
  case mute =>
    refine s.high (bell_lt _ _).1 (bell_lt _ _).2 rfl rfl rfl (fun cs _ h => h) fun cs h => ⟨h.1, ?_⟩
    obtain ⟨h1, h2⟩ := h.2
    exact ⟨by show seen.length < b.size; rw [show seen = [] from h1]; simp; omega, h2, fun i hi => by rw [show seen = [] from h1] at hi; simp at hi⟩
  case marks =>
    show Safe _ _ _ f g
    obtain ⟨h1, hp, h2⟩ := su
    have snoc : ∀ i, i < seen.length + 1 → ((seen ++ [b.at_ (4 * seen.length)]).getD i 0 / 2 + (seen ++ [b.at_ (4 * seen.length)]).getD i 0) % 2 = (ce b.cells (4 * i) / 2 + ce b.cells (4 * i)) % 2 ∧ 0 ≤ (seen ++ [b.at_ (4 * seen.length)]).getD i 0 ∧ (seen ++ [b.at_ (4 * seen.length)]).getD i 0 ≤ 3 := fun i hi => by
      rw [getD_snoc]
      by_cases c : i < seen.length
      · rw [if_pos c]; exact h2 i c
      · rw [if_neg c, if_pos (by omega)]
        have e : i = seen.length := by omega
        rw [e]
        exact ⟨rfl, marks_of_safe s.sb h1⟩
    refine Safe.iteT (fun c => ?_) fun c => ?_
    · refine s.still rfl rfl rfl (fun h => h) fun _ => ⟨bk, ?_⟩
      have := (seen_t s.sb (ns := seen ++ [b.at_ (4 * seen.length)]) (by simp; exact c) (fun i hi => snoc i (by omega))).2
      have e : some (turnOf (takerF (seen ++ [b.at_ (4 * seen.length)]))) = some (f % (2 * b.size)) := by
        rw [this]
        show some (((f % (2 * b.size) : Nat) : Int).toNat) = _
        rw [Int.toNat_natCast]
      refine ⟨e, ?_, ?_, Or.inl hp⟩
      · show some (turnOf (takerF (seen ++ [b.at_ (4 * seen.length)]))) = some ((f + parts.length) % (2 * b.size))
        rw [e, show parts = [] from hp]; rfl
      · show f + parts.length ≤ g
        rw [show parts = [] from hp]; exact s.sb.fg
    · exact s.still rfl rfl rfl (fun h => h) fun _ => ⟨bk, by show (seen ++ [b.at_ (4 * seen.length)]).length < b.size; simp; omega, hp, fun i hi => snoc i (by simp at hi; omega)⟩
  case wish => exact s.high (card_lt _ _).1 (card_lt _ _).2 rfl rfl rfl (fun cs _ h => h) fun cs h => h
  case again =>
    show Safe _ _ _ f g
    exact Safe.iteT (fun c => s.still rfl rfl rfl (fun h => h) fun h => h) fun c => s.still rfl rfl rfl (fun h => h) fun h => h
  case sleep =>
    show Safe _ _ _ f g
    exact Safe.iteT (fun c => s.still rfl rfl rfl (fun h => h) fun h => h) fun c => s.still rfl rfl rfl (fun h => h) fun h => h
  case hush => exact s.high (bell_lt _ _).1 (bell_lt _ _).2 rfl rfl rfl (fun cs _ h => h) fun cs h => h
  case unwish => exact s.high (card_lt _ _).1 (card_lt _ _).2 rfl rfl rfl (fun cs _ h => h) fun cs h => h
  case look =>
    show Safe _ _ _ f g
    obtain ⟨h1, h2, h3, h4⟩ := su
    subst h1 h2
    have jl := h4.lt s.sb
    have key : mayT b.size ((f + parts.length) % (2 * b.size)) (b.at_ (4 * ((f + parts.length) % (2 * b.size) % b.size))) = decide (f + parts.length < g) := by
      rw [mod_two, ce_at, s.sb.mks _ (Nat.mod_lt _ (by omega))]; exact mark_t n2 n8 s.sb.fg s.sb.gf (by omega) (by omega)
    refine Safe.iteT (fun c => ?_) fun c => ?_
    · have c : mayT b.size ((f + parts.length) % (2 * b.size)) (b.at_ (4 * ((f + parts.length) % (2 * b.size) % b.size))) = true := c
      rw [key] at c
      exact s.still rfl rfl rfl (fun h => h) fun h => ⟨bk, rfl, rfl, of_decide_eq_true c, h4⟩
    · exact s.still rfl rfl rfl (fun h => h) fun h => h
  case number =>
    show Safe _ _ _ f g
    obtain ⟨h1, h2, h3, h4⟩ := su
    subst h1 h2
    refine s.still rfl rfl rfl (fun h => h) fun h => ⟨bk, rfl, rfl, h3, h4, fun a p ip => ?_⟩
    show b.at_ (4 * ((f + parts.length) % (2 * b.size) % b.size) + 1) = a
    rw [mod_two]
    exact (s.sb.sf _ (by omega) h3 a p ip).1
  case left =>
    show Safe _ _ _ f g
    obtain ⟨h1, h2, h3, h4, h5⟩ := su
    subst h1 h2
    refine s.still rfl rfl rfl (fun h => h) fun h => ⟨bk, rfl, rfl, h3, h4, fun a p ip => ⟨h5 a p ip, ?_⟩⟩
    show b.at_ (4 * ((f + parts.length) % (2 * b.size) % b.size) + 2) = _
    rw [mod_two]
    exact (s.sb.sf _ (by omega) h3 a p ip).2.1
  case thing =>
    show Safe _ _ _ f g
    obtain ⟨h1, h2, h3, h4, h5⟩ := su
    subst h1 h2
    have gt := s.sb.gt
    obtain ⟨a, p, ip⟩ := pos_of (ws := v.wares) (k := f + parts.length) (by omega)
    obtain ⟨a0, p0, ip0⟩ := pos_of (ws := v.wares) (k := f) (by omega)
    obtain ⟨e1, e2⟩ := h5 a p ip
    have e1 : number = (a : Int) := e1
    have e2 : left = (lenO v.wares a : Int) - 1 - p := e2
    have e3 : b.at_ (4 * ((f + parts.length) % (2 * b.size) % b.size) + 3) = thg v.wares a p := by
      rw [mod_two]
      exact (s.sb.sf _ (by omega) h3 a p ip).2.2
    have same : a = a0 ∧ p = p0 + parts.length := by
      have : IsPos v.wares (f + parts.length) a0 (p0 + parts.length) := by
        obtain ⟨q1, q2, q3⟩ := ip0
        rcases h4 with e | ⟨a', p', ip', hl, _⟩
        · rw [show parts = [] from e]
          exact ⟨q1, q2, by simpa using q3⟩
        · obtain ⟨rfl, rfl⟩ := ip'.uniq ⟨q1, q2, q3⟩
          exact ⟨q1, hl, by omega⟩
      exact ip.uniq this
    obtain ⟨rfl, rfl⟩ := same
    have rd : ∀ i, i < parts.length → parts.getD i 0 = thg v.wares a (p0 + i) := by
      rcases h4 with e | ⟨a', p', ip', _, h⟩
      · intro i hi
        rw [show parts = [] from e] at hi
        simp at hi
      · obtain ⟨rfl, rfl⟩ := ip0.uniq ip'
        exact h
    have rd2 : ∀ i, i < parts.length + 1 → (parts ++ [b.at_ (4 * ((f + parts.length) % (2 * b.size) % b.size) + 3)]).getD i 0 = thg v.wares a (p0 + i) := fun i hi => by
      rw [getD_snoc, e3]
      by_cases c : i < parts.length
      · rw [if_pos c]; exact rd i c
      · rw [if_neg c, if_pos (by omega)]
        congr 1; omega
    have ipl : p0 + parts.length < lenO v.wares a := ip.2.1
    have len1 : ∀ x : Int, (parts ++ [x]).length = parts.length + 1 := fun x => by simp
    refine Safe.iteT (fun c => ?_) fun c => ?_
    · have c : 0 < left := c
      refine s.still rfl rfl rfl (fun h => h) fun _ => ⟨bk, rfl, ?_, ?_, Or.inr ⟨a, p0, ip0, ?_, ?_⟩⟩
      · show some ((((f + parts.length) % (2 * b.size)) + 1) % (2 * b.size)) = some ((f + (parts ++ [_]).length) % (2 * b.size))
        rw [add_mod2, len1]; congr 2
      · show f + (parts ++ [_]).length ≤ g
        rw [len1]; omega
      · show p0 + (parts ++ [_]).length < _
        rw [len1]; omega
      · intro i hi
        have hi : i < (parts ++ [b.at_ (4 * ((f + parts.length) % (2 * b.size) % b.size) + 3)]).length := hi
        rw [len1] at hi
        exact rd2 i hi
    · have c : ¬ 0 < left := c
      have en : p0 + parts.length + 1 = lenO v.wares a := by omega
      have sm : Sm v.wares (a + 1) = f + parts.length + 1 := by rw [Sm_succ]; have := ip0.2.2; omega
      have bo : (a = taken.length ∧ p0 = 0) ∨ a + 1 = taken.length := bk.order ip0 ok1
      refine Safe.iteT (fun d => ?_) fun d => ?_
      · have d : number = (taken.length : Int) := d
        have ea : a = taken.length := by omega
        have p00 : p0 = 0 := by rcases bo with ⟨_, e⟩ | e <;> omega
        have full : parts ++ [b.at_ (4 * ((f + parts.length) % (2 * b.size) % b.size) + 3)] = v.wares.getD a [] := by
          apply List.ext_getElem?
          intro i
          have hlen : (v.wares.getD a []).length = parts.length + 1 := by unfold lenO at en; omega
          by_cases ci : i < parts.length + 1
          · have r := rd2 i ci
            rw [p00, Nat.zero_add] at r
            unfold thg at r
            rw [List.getD_eq_getElem?_getD, List.getD_eq_getElem?_getD, List.getElem?_eq_getElem (by rw [len1]; exact ci), List.getElem?_eq_getElem (by rw [hlen]; exact ci)] at r
            rw [List.getElem?_eq_getElem (by rw [len1]; exact ci), List.getElem?_eq_getElem (by rw [hlen]; exact ci)]
            simp only [Option.getD_some] at r
            rw [r]
          · rw [List.getElem?_eq_none (by rw [len1]; omega), List.getElem?_eq_none (by rw [hlen]; omega)]
        have tl : ∀ y : List Int, (taken ++ [y]).length = a + 1 := fun y => by simp; omega
        have al := ip0.1
        have ff : f = Sm v.wares a := by have := ip0.2.2; omega
        refine s.still rfl rfl rfl (fun h => h) fun _ => ⟨⟨?_, ?_, ?_, ?_, ?_⟩, ?_, ?_, ?_, rfl, ?_⟩
        · show (taken ++ [_]).length ≤ _
          rw [tl]; omega
        · show taken ++ [parts ++ [b.at_ (4 * ((f + parts.length) % (2 * b.size) % b.size) + 3)]] = v.wares.take (taken ++ [_]).length
          rw [tl, List.take_succ, full, List.getD_eq_getElem?_getD, List.getElem?_eq_getElem al]
          have e := bk.eq
          rw [show Tk.taken ⟨.thing, some ((f + parts.length) % (2 * b.size)), seen, taken, some (f % (2 * b.size)), number, left, parts⟩ = taken from rfl] at e
          have e : taken = v.wares.take a := by rw [ea]; exact e
          rw [← e]; rfl
        · show Sm v.wares (taken ++ [_]).length ≤ g
          rw [tl, sm]; omega
        · show f ≤ Sm v.wares (taken ++ [_]).length
          rw [tl, sm]; omega
        · intro _
          show Sm v.wares ((taken ++ [_]).length - 1) ≤ f
          rw [tl, Nat.add_sub_cancel]; omega
        · show 0 < (taken ++ [_]).length
          rw [tl]; omega
        · show f < Sm v.wares (taken ++ [_]).length
          rw [tl, sm]; omega
        · show Sm v.wares ((taken ++ [_]).length - 1) ≤ f
          rw [tl, Nat.add_sub_cancel]; omega
        · show some ((f + parts.length) % (2 * b.size)) = some ((Sm v.wares (taken ++ [_]).length - 1) % (2 * b.size))
          rw [tl, sm]; congr 2
      · have d : ¬ number = (taken.length : Int) := d
        have ea : a + 1 = taken.length := by
          rcases bo with ⟨e, _⟩ | e
          · have e : a = taken.length := e
            omega
          · exact e
        have sf := bk.sf (by show 0 < taken.length; omega)
        refine s.still rfl rfl rfl (fun h => h) fun _ => ⟨bk, ?_, ?_, ?_, rfl, ?_⟩
        · show 0 < taken.length
          omega
        · show f < Sm v.wares taken.length
          rw [← ea, sm]; omega
        · exact sf
        · show some ((f + parts.length) % (2 * b.size)) = some ((Sm v.wares taken.length - 1) % (2 * b.size))
          rw [← ea, sm]; congr 2
  case free =>
    show Safe _ _ _ (f + 1) g
    obtain ⟨b0, lt, sm, he, hs⟩ := su
    subst he
    have sg : Sm v.wares taken.length ≤ g := bk.sg
    have lt : f < Sm v.wares taken.length := lt
    have sm : Sm v.wares (taken.length - 1) ≤ f := sm
    have gf := s.sb.gf
    have fl : f % b.size < b.size := Nat.mod_lt _ (by omega)
    have hl : 4 * (f % b.size) < b.cells.length := by rw [s.sb.len]; omega
    have hm : (some (f % (2 * b.size))).getD 0 % b.size = f % b.size := mod_two
    have e := ce_set hl (2 * ((f % (2 * b.size) / b.size : Nat) : Int))
    have old := s.sb.mks _ fl
    have may := mark_t (k := f) n2 n8 s.sb.fg s.sb.gf (Nat.le_refl _) (by omega)
    rw [decide_eq_true (show f < g by omega), ← old] at may
    have may : ce b.cells (4 * (f % b.size)) = 2 * ((f % (2 * b.size) / b.size : Nat) : Int) + 1 := of_decide_eq_true may
    have hb : (b.put (4 * ((some (f % (2 * b.size))).getD 0 % b.size)) (2 * (((some (f % (2 * b.size))).getD 0 / b.size : Nat) : Int))).cells = b.cells.set (4 * (f % b.size)) (2 * ((f % (2 * b.size) / b.size : Nat) : Int)) := by
      rw [hm]; rfl
    have slip : ∀ k, SlipAt b.size b.cells v.wares k → SlipAt b.size (b.cells.set (4 * (f % b.size)) (2 * ((f % (2 * b.size) / b.size : Nat) : Int))) v.wares k := fun k h a p ip => by
      obtain ⟨d1, d2, d3⟩ := h a p ip
      exact ⟨by rw [e, if_neg (by omega)]; exact d1, by rw [e, if_neg (by omega)]; exact d2, by rw [e, if_neg (by omega)]; exact d3⟩
    refine ⟨?_, ?_, ?_⟩
    · rw [hb]
      refine ⟨n2, n8, by rw [List.length_set]; exact s.sb.len, by omega, by show g ≤ f + 1 + b.size; omega, s.sb.gt, s.sb.ok, fun q hq => ?_, fun k k1 k2 => slip k (s.sb.sl k k1 k2), fun k k1 k2 => slip k (s.sb.sf k (by omega) k2), fun h => absurd h (by omega)⟩
      show ce (b.cells.set _ _) _ = lmark b.size (f + 1 : Nat) g q
      rw [mark_freed n2 n8 (by omega) gf hq, e]
      by_cases c : q = f % b.size
      · rw [if_pos (by omega), if_pos c]
      · rw [if_neg (by omega), if_neg c]; exact s.sb.mks q hq
    · rw [hb]
      refine s.sv.mono (show 0 < b.size by omega) (by omega) (fun i hi => ?_) fun q h1 h2 => ?_
      · rw [e]
        by_cases c : i = f % b.size
        · subst c; rw [if_pos rfl, may]; omega
        · rw [if_neg (by omega)]
      · show ce (b.cells.set _ _) (4 * (g % b.size) + q) = _
        rw [e, if_neg (by omega)]; rfl
    · rw [hb]
      exact ⟨⟨bk.le, bk.eq, bk.sg, lt, fun _ => by show Sm v.wares (taken.length - 1) ≤ f + 1; omega⟩, b0, by omega, by show Sm v.wares (taken.length - 1) ≤ f + 1 - 1; omega, rfl, hs⟩
  case card =>
    show Safe _ _ _ f g
    obtain ⟨b0, f0, sm, he, hs⟩ := su
    exact Safe.iteT (fun c => s.still rfl rfl rfl (fun h => h) fun h => h) fun c => s.still rfl rfl rfl (fun h => h) fun h => freed_safe s.sb bk b0 f0 sm he hs
  case ring =>
    show Safe _ _ _ f g
    obtain ⟨b0, f0, sm, he, hs⟩ := su
    have pl : g % b.size < b.size := Nat.mod_lt _ (by omega)
    have bl := bell_lt b.size false
    have hl : bellI b.size false < b.cells.length := by rw [s.sb.len]; exact bl.2
    have same : ∀ i, i < 4 * b.size → ce (b.cells.set (bellI b.size false) 1) i = ce b.cells i := fun i hi => by rw [ce_set hl, if_neg (by omega)]
    have sb := s.sb.write (x := 1) bl.2 (fun p hp => by omega) (Or.inl bl.1)
    exact ⟨sb, s.sv.mono (show 0 < b.size by omega) (Nat.le_refl _) (fun i (hi : i < b.size) => by show ce (b.cells.set _ _) _ / 2 = _; rw [same _ (by omega)]) (fun q h1 h2 => same _ (by show 4 * (g % b.size) + q < _; omega)), freed_safe sb bk b0 f0 sm he hs⟩
  all_goals exact su.elim
end Mi
end TxSTstep

section TxSMoves
set_option autoImplicit false
set_option linter.all false
set_option maxRecDepth 100000
set_option maxHeartbeats 4000000
namespace Mi
theorem lenO_app {ws o : List (List Int)} {a : Nat} (h : a < ws.length) : lenO (ws ++ o) a = lenO ws a := by unfold lenO; rw [getD_app _ _ h]
theorem thg_app {ws o : List (List Int)} {a p : Nat} (h : a < ws.length) : thg (ws ++ o) a p = thg ws a p := by unfold thg; rw [getD_app _ _ h]
theorem IsPos.back {ws o : List (List Int)} {k a p : Nat} (h : IsPos (ws ++ o) k a p) (hk : k < total ws) : IsPos ws k a p := by
  obtain ⟨a', p', h'⟩ := pos_of hk
  obtain ⟨rfl, rfl⟩ := h.uniq (h'.app o)
  exact h'
theorem total_app (ws o : List (List Int)) : total ws ≤ total (ws ++ o) := by
  unfold total
  rw [← Sm_app ws o ws.length (Nat.le_refl _)]
  exact Sm_mono (by rw [List.length_append]; omega)
theorem SlipAt.app {n : Nat} {cs : List Int} {ws o : List (List Int)} {k : Nat} (h : SlipAt n cs ws k) (hk : k < total ws) : SlipAt n cs (ws ++ o) k := fun a p ip => by
  have ip' := ip.back hk
  obtain ⟨h1, h2, h3⟩ := h a p ip'
  exact ⟨h1, by rw [lenO_app ip'.1]; exact h2, by rw [thg_app ip'.1]; exact h3⟩
theorem NextPos.app {ws : List (List Int)} {k a p : Nat} {x : List Int} (h : NextPos ws k a p) (hx : 1 ≤ x.length) : NextPos (ws ++ [x]) k a p := by
  obtain ⟨h1, h2, h3, h4⟩ := h
  refine ⟨by rw [List.length_append]; omega, by rw [Sm_app _ _ _ h1]; exact h2, fun ha => ?_, fun ha => ?_⟩
  · by_cases c : a < ws.length
    · rw [getD_app _ _ c]; exact h3 c
    · have e : a = ws.length := by omega
      rw [h4 e, e, List.getD_eq_getElem?_getD, List.getElem?_append_right (Nat.le_refl _), Nat.sub_self]
      exact hx
  · rw [List.length_append] at ha; simp at ha; omega
theorem SafeB.app {n : Nat} {cs : List Int} {ws : List (List Int)} {f g : Nat} {x : List Int} (s : SafeB n cs ws f g) (h1 : 1 ≤ x.length) (h2 : x.length ≤ n) : SafeB n cs (ws ++ [x]) f g :=
  ⟨s.n2, s.n8, s.len, s.fg, s.gf, Nat.le_trans s.gt (total_app _ _), fun o ho => by
    rcases List.mem_append.mp ho with h | h
    · exact s.ok o h
    · rw [List.mem_singleton.mp h]; exact ⟨h1, h2⟩, s.mks, fun k k1 k2 => (s.sl k k1 k2).app (by have := s.gt; omega), fun k k1 k2 => (s.sf k k1 k2).app (by have := s.gt; omega), s.z⟩
theorem Book.app {ws bk : List (List Int)} {f g : Nat} {x : List Int} (b : Book ws bk f g) : Book (ws ++ [x]) bk f g := by
  have le := b.le
  refine ⟨by rw [List.length_append]; omega, ?_, by rw [Sm_app _ _ _ le]; exact b.sg, by rw [Sm_app _ _ _ le]; exact b.fs, fun h => by rw [Sm_app _ _ _ (by omega)]; exact b.sf h⟩
  rw [List.take_append_of_le_length le]
  exact b.eq
theorem Reads.app {ws : List (List Int)} {f : Nat} {ps : List Int} {x : List Int} (h : Reads ws f ps) : Reads (ws ++ [x]) f ps := by
  rcases h with rfl | ⟨a, p, ip, hl, h⟩
  · exact Or.inl rfl
  · exact Or.inr ⟨a, p, ip.app _, by rw [lenO_app ip.1]; exact hl, fun i hi => by rw [thg_app ip.1]; exact h i hi⟩
/-- an order more -/
theorem Safe.add {b : Bd} {v : Gv} {u : Tk} {f g : Nat} {x : List Int} (s : Safe b v u f g) (h1 : 1 ≤ x.length) (h2 : x.length ≤ b.size) : Safe b { v with wares := v.wares ++ [x] } u f g := by
  have gt := s.sb.gt
  refine ⟨s.sb.app h1 h2, ?_, ?_⟩
  · have sv := s.sv
    obtain ⟨here, spot, seen, wares, at_, part⟩ := v
    cases here
    case rouse => exact sv
    case clear => exact sv
    case mute => exact sv
    case marks => exact sv
    case told => exact sv
    case lacks =>
      obtain ⟨q1, q2, q3⟩ := sv
      exact ⟨q1, q2, fun g0 => by obtain ⟨a, p, ip, e⟩ := q3 g0; exact ⟨a, p, ip.app _, e⟩⟩
    case number => obtain ⟨q1, q2, a, p, ip, e⟩ := sv; exact ⟨q1, q2, a, p, ip.app _, e⟩
    case left => obtain ⟨q1, q2, a, p, ip, e⟩ := sv; exact ⟨q1, q2, a, p, ip.app _, e⟩
    case thing => obtain ⟨q1, q2, a, p, ip, e1, e2, e3, e4⟩ := sv; exact ⟨q1, q2, a, p, ip.app _, e1, e2, e3, by show _ = (lenO (wares ++ [x]) a : Int) - 1 - p; rw [lenO_app ip.1]; exact e4⟩
    case mark => obtain ⟨q1, q2, a, p, ip, e1, e2, e3⟩ := sv; exact ⟨q1, q2, a, p, ip.app _, e1, e2, e3.app ip.lt⟩
    case card => obtain ⟨q1, q2, a, p, ip, e⟩ := sv; exact ⟨q1, q2, a, p, ip.app _, e⟩
    case ring => obtain ⟨q1, q2, a, p, ip, e⟩ := sv; exact ⟨q1, q2, a, p, ip.app _, e⟩
    case free => exact sv
    all_goals (obtain ⟨q1, a, p, np, e⟩ := sv; exact ⟨q1, a, p, np.app h1, e⟩)
  · obtain ⟨bk, su⟩ := s.su
    obtain ⟨here, spot, seen, taken, early, number, left, parts⟩ := u
    refine ⟨bk.app, ?_⟩
    have le : taken.length ≤ v.wares.length := bk.le
    cases here
    case rouse => exact su
    case clear => exact su
    case mute => exact su
    case marks => exact su
    case number => obtain ⟨q1, q2, q3, q4⟩ := su; exact ⟨q1, q2, q3, q4.app⟩
    case left => obtain ⟨q1, q2, q3, q4, q5⟩ := su; exact ⟨q1, q2, q3, q4.app, fun a p ip => q5 a p (ip.back (by omega))⟩
    case thing =>
      obtain ⟨q1, q2, q3, q4, q5⟩ := su
      refine ⟨q1, q2, q3, q4.app, fun a p ip => ?_⟩
      have ip' := ip.back (show _ < total v.wares by omega)
      rw [lenO_app ip'.1]
      exact q5 a p ip'
    case free =>
      obtain ⟨q1, q2, q3, q4, q5⟩ := su
      refine ⟨q1, ?_, ?_, q4, ?_⟩
      · show f < Sm (v.wares ++ [x]) taken.length
        rw [Sm_app _ _ _ le]; exact q2
      · show Sm (v.wares ++ [x]) (taken.length - 1) ≤ f
        rw [Sm_app _ _ _ (by omega)]; exact q3
      · show spot = some ((Sm (v.wares ++ [x]) taken.length - 1) % (2 * b.size))
        rw [Sm_app _ _ _ le]; exact q5
    case card =>
      obtain ⟨q1, q2, q3, q4, q5⟩ := su
      refine ⟨q1, q2, ?_, q4, ?_⟩
      · show Sm (v.wares ++ [x]) (taken.length - 1) ≤ f - 1
        rw [Sm_app _ _ _ (by omega)]; exact q3
      · show spot = some ((Sm (v.wares ++ [x]) taken.length - 1) % (2 * b.size))
        rw [Sm_app _ _ _ le]; exact q5
    case ring =>
      obtain ⟨q1, q2, q3, q4, q5⟩ := su
      refine ⟨q1, q2, ?_, q4, ?_⟩
      · show Sm (v.wares ++ [x]) (taken.length - 1) ≤ f - 1
        rw [Sm_app _ _ _ (by omega)]; exact q3
      · show spot = some ((Sm (v.wares ++ [x]) taken.length - 1) % (2 * b.size))
        rw [Sm_app _ _ _ le]; exact q5
    case told => exact su
    case lacks => exact su
    case mark => exact su
    all_goals (obtain ⟨q1, q2, q3, q4⟩ := su; exact ⟨q1, q2, q3, q4.app⟩)
theorem Safe.fallG {b : Bd} {v : Gv} {u : Tk} {f g : Nat} (s : Safe b v u f g) : Safe b (newG v.wares) u f g := ⟨s.sb, rfl, s.su⟩
theorem Safe.fallT {b : Bd} {v : Gv} {u : Tk} {f g : Nat} (s : Safe b v u f g) : Safe b v (newT u.taken) f g := ⟨s.sb, s.sv, ⟨s.su.1, rfl, rfl⟩⟩
theorem new_marks : ([2, 3, 4, 5, 6, 7, 8].all fun n => (List.range n).all fun p => decide (ce (newBd n).cells (4 * p) = lmark n 0 0 p) && (decide (ce (newBd n).cells (4 * (n - 1) + 1) = -1) && decide (ce (newBd n).cells (4 * (n - 1) + 2) = 0))) = true := by decide +kernel
theorem Safe.new {n : Nat} (n2 : 2 ≤ n) (n8 : n ≤ 8) : Safe (newBd n) (newG []) (newT []) 0 0 := by
  have h := List.all_eq_true.mp new_marks n (by simp only [List.mem_cons, List.not_mem_nil, or_false]; omega)
  have hp : ∀ p, p < n → ce (newBd n).cells (4 * p) = lmark n 0 0 p ∧ ce (newBd n).cells (4 * (n - 1) + 1) = -1 ∧ ce (newBd n).cells (4 * (n - 1) + 2) = 0 := fun p hp => by
    have := List.all_eq_true.mp h p (List.mem_range.mpr hp)
    simp only [Bool.and_eq_true, decide_eq_true_eq] at this
    exact ⟨this.1, this.2.1, this.2.2⟩
  refine ⟨⟨n2, n8, by simp [newBd]; omega, Nat.le_refl _, Nat.zero_le _, Nat.zero_le _, fun o ho => absurd ho (List.not_mem_nil), fun p h => (hp p h).1, fun k h => absurd h (Nat.not_lt_zero k), fun k _ h => absurd h (Nat.not_lt_zero k), fun _ => (hp 0 (by omega)).2⟩, rfl, ⟨Nat.zero_le _, rfl, Nat.le_refl _, Nat.le_refl _, fun h => absurd h (Nat.lt_irrefl 0)⟩, rfl, rfl⟩
/-! ### a lane, its moves -/
structure Ln where
  b : Bd
  v : Gv
  u : Tk
  tr : List (String × String × Int × Int)
def newL (n : Nat) : Ln := ⟨newBd n, newG [], newT [], []⟩
def touchOf (who : String) (b : Bd) : String × String × Int × Int := match b.last with
  | some (d, c, x) => (who, d, c, x)
  | none => (who, "", 0, 0)
def Ln.stepG (l : Ln) : Ln := if l.v.rests = true then l else { l with b := (gstep l.b l.v).1, v := (gstep l.b l.v).2, tr := l.tr ++ [touchOf "giver" (gstep l.b l.v).1] }
def Ln.stepT (l : Ln) : Ln := { l with b := (tstep l.b l.u).1, u := (tstep l.b l.u).2, tr := l.tr ++ [touchOf "taker" (tstep l.b l.u).1] }
def Ln.fallG (l : Ln) : Ln := { l with v := newG l.v.wares }
def Ln.fallT (l : Ln) : Ln := { l with u := newT l.u.taken }
def Ln.add (l : Ln) (x : List Int) : Ln := { l with v := { l.v with wares := l.v.wares ++ [x] } }
def Ln.safe (l : Ln) (f g : Nat) : Prop := Safe l.b l.v l.u f g
theorem gstep_rests {b : Bd} {v : Gv} (h : v.rests = true) : gstep b v = (b, v) := by
  unfold gstep
  have hl : v.here = .look := by unfold Gv.rests at h; simp at h; exact h.1
  rw [hl]
  simp only
  rw [if_pos h]
theorem gstep_wares (b : Bd) (v : Gv) : (gstep b v).2.wares = v.wares := by
  unfold gstep Gv.goOn
  dsimp only
  split <;> first | rfl | (split <;> first | rfl | (dsimp only; split <;> rfl))
theorem gstep_size (b : Bd) (v : Gv) : (gstep b v).1.size = b.size := by
  unfold gstep
  dsimp only
  split <;> first | rfl | (split <;> first | rfl | (dsimp only; split <;> rfl))
theorem tstep_size (b : Bd) (u : Tk) : (tstep b u).1.size = b.size := by
  unfold tstep
  dsimp only
  split <;> rfl
end Mi
end TxSMoves

section TxSHands
set_option autoImplicit false
set_option linter.all false
set_option maxRecDepth 100000
set_option maxHeartbeats 4000000
namespace Mi
/-! ### the hands in the heap -/
def handS : Bool → String
  | false => "giver"
  | true => "taker"
theorem handS_is (t : Bool) : isHand (handS t) := by cases t <;> simp [handS, isHand]
theorem bell_spec {h : MH} {n : Nat} {t : Bool} {Q : QV} {E : QX} (n2 : 2 ≤ n) (n8 : n ≤ 8) (q : Q (.int ((bellI n t : Nat) : Int)) h) : F_bell_cell [.int n, .str (handS t)] h Q E := by
  refine bell_cell_spec (by omega) (by omega) (handS_is t) ?_
  have : 4 * (n : Int) + 2 + handN (handS t) = ((bellI n t : Nat) : Int) := by cases t <;> simp [bellI, handN, handS]
  rw [this]; exact q
theorem card_spec {h : MH} {n : Nat} {t : Bool} {Q : QV} {E : QX} (n2 : 2 ≤ n) (n8 : n ≤ 8) (q : Q (.int ((cardI n t : Nat) : Int)) h) : F_card_cell [.int n, .str (handS t)] h Q E := by
  refine card_cell_spec (by omega) (by omega) (handS_is t) ?_
  have : 4 * (n : Int) + handN (handS t) = ((cardI n t : Nat) : Int) := by cases t <;> simp [cardI, handN, handS]
  rw [this]; exact q
@[simp] def spotV : Option Nat → MV
  | none => .non
  | some t => .int (t : Int)
/-- lists of whole numbers within a list -/
def Lists (h : MH) (r : Nat) : List MV → List (List Int) → Prop
  | [], [] => True
  | x :: xs, l :: ls => (∃ j, x = .ref r j ∧ rd h r j = some (.lst (l.map .int))) ∧ Lists h r xs ls
  | _, _ => False
theorem Lists.kx {S : Nat → Nat → Prop} {h h' : MH} {r : Nat} (g : Kx S h h') (hr : r ≠ 1) (hs : ∀ j, ¬ S r j) : ∀ {xs : List MV} {ls : List (List Int)}, Lists h r xs ls → Lists h' r xs ls
  | [], [], _ => True.intro
  | x :: xs, l :: ls, ⟨⟨j, e, z⟩, t⟩ => ⟨⟨j, e, g.rd z hr (hs j)⟩, Lists.kx g hr hs t⟩
  | [], _ :: _, t => t.elim
  | _ :: _, [], t => t.elim
theorem Lists.gr {h h' : MH} {r : Nat} (g : Gr h h') (hr : r ≠ 1) {xs : List MV} {ls : List (List Int)} (t : Lists h r xs ls) : Lists h' r xs ls := t.kx (g.x fun _ _ => False) hr fun _ z => z
theorem Lists.length {h : MH} {r : Nat} : ∀ {xs : List MV} {ls : List (List Int)}, Lists h r xs ls → xs.length = ls.length
  | [], [], _ => rfl
  | x :: xs, l :: ls, ⟨_, t⟩ => by rw [List.length_cons, List.length_cons, Lists.length t]
  | [], _ :: _, t => t.elim
  | _ :: _, [], t => t.elim
theorem Lists.at_ {h : MH} {r : Nat} : ∀ {xs : List MV} {ls : List (List Int)}, Lists h r xs ls → ∀ {i : Nat} {l : List Int}, ls[i]? = some l → ∃ j, xs[i]? = some (.ref r j) ∧ rd h r j = some (.lst (l.map .int))
  | x :: xs, l :: ls, ⟨⟨j, e, z⟩, t⟩, 0, l', hl => by cases hl; exact ⟨j, by rw [e]; rfl, z⟩
  | x :: xs, l :: ls, ⟨_, t⟩, i + 1, l', hl => Lists.at_ t (i := i) hl
  | [], [], _, i, l', hl => by simp at hl
  | [], _ :: _, t, _, _, _ => t.elim
  | _ :: _, [], t, _, _, _ => t.elim
theorem Lists.snoc {h : MH} {r : Nat} {j : Nat} {l : List Int} (z : rd h r j = some (.lst (l.map .int))) : ∀ {xs : List MV} {ls : List (List Int)}, Lists h r xs ls → Lists h r (xs ++ [.ref r j]) (ls ++ [l])
  | [], [], _ => ⟨⟨j, rfl, z⟩, True.intro⟩
  | x :: xs, l :: ls, ⟨a, t⟩ => ⟨a, Lists.snoc z t⟩
  | [], _ :: _, t => t.elim
  | _ :: _, [], t => t.elim
/-- what both hands have -/
abbrev hdF (b : Nat) (t : Bool) (here : String) (spot : MV) (s : Nat) (tail : List (String × MV)) : List (String × MV) :=
  ("board", .ref 10 b) :: ("name", .str (handS t)) :: ("other", .str (handS !t)) :: ("here", .str here) :: ("spot", spot) :: ("seen", .ref 22 s) :: tail
def GiverAt (h : MH) (i b s w : Nat) (v : Gv) : Prop := rd h 11 i = some (.ins "Giver" (hdF b false v.here.name (spotV v.spot) s [("wares", .ref 21 w), ("at", .int v.at_), ("part", .int v.part)])) ∧ rd h 22 s = some (.lst (v.seen.map .int)) ∧
  ∃ refs, rd h 21 w = some (.lst refs) ∧ Lists h 26 refs v.wares
def TakerAt (h : MH) (i b s w p : Nat) (u : Tk) : Prop := rd h 12 i = some (.ins "Taker" (hdF b true u.here.name (spotV u.spot) s [("taken", .ref 23 w), ("early", spotV u.early), ("number", .int u.number), ("left", .int u.left), ("parts", .ref 24 p)])) ∧ rd h 22 s = some (.lst (u.seen.map .int)) ∧
  (∃ refs, rd h 23 w = some (.lst refs) ∧ Lists h 26 refs u.taken) ∧ rd h 24 p = some (.lst (u.parts.map .int))
structure Bd.ok (b : Bd) : Prop where
  n2 : 2 ≤ b.size
  n8 : b.size ≤ 8
  len : b.cells.length = 4 * b.size + 4
  mks : ∀ p, p < b.size → 0 ≤ ce b.cells (4 * p) ∧ ce b.cells (4 * p) ≤ 3
theorem Bd.ok.at {b : Bd} (o : b.ok) {c : Nat} (hc : c < 4 * b.size + 4) : b.cells[c]? = some (b.at_ c) := by
  unfold Bd.at_
  rw [List.getD_eq_getElem?_getD, List.getElem?_eq_getElem (by rw [o.len]; exact hc)]; rfl
/-- coming up: a step ahead of the marks -/
inductive Rise (b : Bd) (t : Bool) : St → Bd → St → Prop where
  | rouse : Rise b t .rouse (b.put (bellI b.size !t) 1) .clear
  | clear : Rise b t .clear (b.put (cardI b.size t) (-1)) .mute
  | mute : Rise b t .mute (b.put (bellI b.size t) 0) .marks
/-- what a step of a hand may change -/
def SH (b k r i s : Nat) : Nat → Nat → Prop := fun q j => (q = 10 ∧ j = b) ∨ (q = 20 ∧ j = k) ∨ (q = r ∧ j = i) ∨ (q = 22 ∧ j = s)
/-- .. that leaves what it has seen -/
def SI (b k r i : Nat) : Nat → Nat → Prop := fun q j => (q = 10 ∧ j = b) ∨ (q = 20 ∧ j = k) ∨ (q = r ∧ j = i)
theorem sb_si {b k r i : Nat} : ∀ q j, SB b k q j → SI b k r i q j := fun q j h => by
  rcases h with h | h
  · exact Or.inl h
  · exact Or.inr (Or.inl h)
theorem si_sh {b k r i s : Nat} : ∀ q j, SI b k r i q j → SH b k r i s q j := fun q j h => by
  rcases h with h | h | h
  · exact Or.inl h
  · exact Or.inr (Or.inl h)
  · exact Or.inr (Or.inr (Or.inl h))
theorem sb_sh {b k r i s : Nat} : ∀ q j, SB b k q j → SH b k r i s q j := fun q j h => by
  rcases h with h | h
  · exact Or.inl h
  · exact Or.inr (Or.inl h)
theorem rise_spec {h : MH} {r i b k s : Nat} {t : Bool} {c : String} {here here' : St} {spot : MV} {tail : List (String × MV)} {seen : List Int} {bd bd' : Bd} {Q : QV} {E : QX} (hr : r = 11 ∨ r = 12) (o : bd.ok) (x : BoardAt h b k bd) (y : rd h r i = some (.ins c (hdF b t here.name spot s tail))) (z : rd h 22 s = some (.lst (seen.map .int)))
    (st : Rise bd t here bd' here') (hl : seen.length ≠ bd.size) (ht : tail.length ≤ 10) (q : ∀ h', BoardAt h' b k bd' → rd h' r i = some (.ins c (hdF b t here'.name spot s tail)) → Kx (SI b k r i) h h' → Q (.bl false) h') : F_Hand_rise [.ref r i] h Q E := by
  have hr1 : r ≠ 1 := by omega
  have n2 := o.n2
  have n8 := o.n8
  cases st with
  | rouse =>
    ((try simp [-sSeq, -dat_ref, sSeqK, small, lim, big, F_Hand_rise_eq, y, x.1]); (repeat (first | ((with_reducible refine kont_go ?_); try simp [-sSeq, -dat_ref, sSeqK, small, lim, big, F_Hand_rise_eq, y, x.1]) | ((with_reducible refine And.intro ?_ ?_); · omega))))
    refine bell_spec n2 n8 ?_
    ((try simp [-sSeq, -dat_ref, sSeqK, small, lim, big, y]); (repeat (first | ((with_reducible refine kont_go ?_); try simp [-sSeq, -dat_ref, sSeqK, small, lim, big, y]) | ((with_reducible refine And.intro ?_ ?_); · omega))))
    refine write_ok x (by rw [o.len]; exact (bell_lt _ _).2) fun h2 x2 K2 => ?_
    have y2 := K2.rd y hr1 (by simp [SB]; omega)
    have z2 := K2.rd z (by decide) (by simp [SB])
    refine kont_go ?_; simp [-sSeq, -dat_ref, sSeqK, small, lim, big, y2]
    refine ⟨by omega, ?_⟩
    generalize hh : put h2 r _ = h3
    obtain ⟨K3, y3⟩ := set_of hh y2 hr1
    have z3 := K3.rd z2 (by decide) (by omega)
    ((try simp [-sSeq, -dat_ref, sSeqK, small, lim, big, y3, z3]); (repeat (first | ((with_reducible refine kont_go ?_); try simp [-sSeq, -dat_ref, sSeqK, small, lim, big, y3, z3]) | ((with_reducible refine And.intro ?_ ?_); · omega))))
    rw [show decide ((seen.length : Int) = bd.size) = false from decide_eq_false (by omega)]
    exact q h3 ⟨K3.rd x2.1 (by decide) (by omega), K3.rd x2.2 (by decide) (by omega)⟩ y3 ((K2.mono sb_si).trans (K3.x (Or.inr (Or.inr ⟨rfl, rfl⟩))))
  | clear =>
    ((try simp [-sSeq, -dat_ref, sSeqK, small, lim, big, F_Hand_rise_eq, y, x.1]); (repeat (first | ((with_reducible refine kont_go ?_); try simp [-sSeq, -dat_ref, sSeqK, small, lim, big, F_Hand_rise_eq, y, x.1]) | ((with_reducible refine And.intro ?_ ?_); · omega))))
    refine card_spec n2 n8 ?_
    ((try simp [-sSeq, -dat_ref, sSeqK, small, lim, big, y]); (repeat (first | ((with_reducible refine kont_go ?_); try simp [-sSeq, -dat_ref, sSeqK, small, lim, big, y]) | ((with_reducible refine And.intro ?_ ?_); · omega))))
    refine write_ok x (by rw [o.len]; exact (card_lt _ _).2) fun h2 x2 K2 => ?_
    have y2 := K2.rd y hr1 (by simp [SB]; omega)
    have z2 := K2.rd z (by decide) (by simp [SB])
    refine kont_go ?_; simp [-sSeq, -dat_ref, sSeqK, small, lim, big, y2]
    refine ⟨by omega, ?_⟩
    generalize hh : put h2 r _ = h3
    obtain ⟨K3, y3⟩ := set_of hh y2 hr1
    have z3 := K3.rd z2 (by decide) (by omega)
    ((try simp [-sSeq, -dat_ref, sSeqK, small, lim, big, y3, z3]); (repeat (first | ((with_reducible refine kont_go ?_); try simp [-sSeq, -dat_ref, sSeqK, small, lim, big, y3, z3]) | ((with_reducible refine And.intro ?_ ?_); · omega))))
    rw [show decide ((seen.length : Int) = bd.size) = false from decide_eq_false (by omega)]
    exact q h3 ⟨K3.rd x2.1 (by decide) (by omega), K3.rd x2.2 (by decide) (by omega)⟩ y3 ((K2.mono sb_si).trans (K3.x (Or.inr (Or.inr ⟨rfl, rfl⟩))))
  | mute =>
    ((try simp [-sSeq, -dat_ref, sSeqK, small, lim, big, F_Hand_rise_eq, y, x.1]); (repeat (first | ((with_reducible refine kont_go ?_); try simp [-sSeq, -dat_ref, sSeqK, small, lim, big, F_Hand_rise_eq, y, x.1]) | ((with_reducible refine And.intro ?_ ?_); · omega))))
    refine bell_spec n2 n8 ?_
    ((try simp [-sSeq, -dat_ref, sSeqK, small, lim, big, y]); (repeat (first | ((with_reducible refine kont_go ?_); try simp [-sSeq, -dat_ref, sSeqK, small, lim, big, y]) | ((with_reducible refine And.intro ?_ ?_); · omega))))
    refine write_ok x (by rw [o.len]; exact (bell_lt _ _).2) fun h2 x2 K2 => ?_
    have y2 := K2.rd y hr1 (by simp [SB]; omega)
    have z2 := K2.rd z (by decide) (by simp [SB])
    refine kont_go ?_; simp [-sSeq, -dat_ref, sSeqK, small, lim, big, y2]
    refine ⟨by omega, ?_⟩
    generalize hh : put h2 r _ = h3
    obtain ⟨K3, y3⟩ := set_of hh y2 hr1
    have z3 := K3.rd z2 (by decide) (by omega)
    ((try simp [-sSeq, -dat_ref, sSeqK, small, lim, big, y3, z3]); (repeat (first | ((with_reducible refine kont_go ?_); try simp [-sSeq, -dat_ref, sSeqK, small, lim, big, y3, z3]) | ((with_reducible refine And.intro ?_ ?_); · omega))))
    rw [show decide ((seen.length : Int) = bd.size) = false from decide_eq_false (by omega)]
    exact q h3 ⟨K3.rd x2.1 (by decide) (by omega), K3.rd x2.2 (by decide) (by omega)⟩ y3 ((K2.mono sb_si).trans (K3.x (Or.inr (Or.inr ⟨rfl, rfl⟩))))
theorem rise_marks {h : MH} {r i b k s : Nat} {t : Bool} {c : String} {spot : MV} {tail : List (String × MV)} {seen : List Int} {bd : Bd} {Q : QV} {E : QX} (hr : r = 11 ∨ r = 12) (o : bd.ok) (x : BoardAt h b k bd) (y : rd h r i = some (.ins c (hdF b t "marks" spot s tail))) (z : rd h 22 s = some (.lst (seen.map .int)))
    (hl : seen.length < bd.size) (q : ∀ h', BoardAt h' b k (bd.rdd (4 * seen.length)) → rd h' r i = some (.ins c (hdF b t "marks" spot s tail)) → rd h' 22 s = some (.lst ((seen ++ [bd.at_ (4 * seen.length)]).map .int)) → Kx (SH b k r i s) h h' → Q (.bl (decide (seen.length + 1 = bd.size))) h') : F_Hand_rise [.ref r i] h Q E := by
  have hr1 : r ≠ 1 := by omega
  have n2 := o.n2
  have n8 := o.n8
  ((try simp [-sSeq, -dat_ref, sSeqK, small, lim, big, F_Hand_rise_eq, y, x.1, z]); (repeat (first | ((with_reducible refine kont_go ?_); try simp [-sSeq, -dat_ref, sSeqK, small, lim, big, F_Hand_rise_eq, y, x.1, z]) | ((with_reducible refine And.intro ?_ ?_); · omega))))
  refine mark_cell_spec ?_
  ((try simp [-sSeq, -dat_ref, sSeqK, small, lim, big, y]); (repeat (first | ((with_reducible refine kont_go ?_); try simp [-sSeq, -dat_ref, sSeqK, small, lim, big, y]) | ((with_reducible refine And.intro ?_ ?_); · omega))))
  rw [show (4 * (seen.length : Int)) = ((4 * seen.length : Nat) : Int) by omega]
  refine read_ok x (o.at (by omega)) fun h2 x2 K2 => ?_
  have y2 := K2.rd y hr1 (by simp [SB]; omega)
  have z2 := K2.rd z (by decide) (by simp [SB])
  simp [-sSeq, -dat_ref, sSeqK, small, lim, z2]
  refine ⟨by omega, ?_⟩
  rw [show seen.map MV.int ++ [.int (bd.at_ (4 * seen.length))] = (seen ++ [bd.at_ (4 * seen.length)]).map .int by simp]
  generalize hh : put h2 22 _ = h3
  obtain ⟨K3, z3⟩ := set_of hh z2 (by decide)
  have y3 := K3.rd y2 hr1 (by omega)
  ((try simp [-sSeq, -dat_ref, sSeqK, small, lim, big, y3, z3]); (repeat (first | ((with_reducible refine kont_go ?_); try simp [-sSeq, -dat_ref, sSeqK, small, lim, big, y3, z3]) | ((with_reducible refine And.intro ?_ ?_); · omega))))
  have e : decide ((seen.length : Int) + 1 = bd.size) = decide (seen.length + 1 = bd.size) := by apply decide_eq_decide.mpr; omega
  rw [e]
  exact q h3 ⟨K3.rd x2.1, K3.rd x2.2⟩ y3 z3 ((K2.mono sb_sh).trans (K3.x (Or.inr (Or.inr (Or.inr ⟨rfl, rfl⟩)))))
theorem mark_there_spec {h : MH} {r i b k s m : Nat} {t : Bool} {c : String} {here : String} {tail : List (String × MV)} {bd : Bd} {Q : QV} {E : QX} (hr : r = 11 ∨ r = 12) (o : bd.ok) (hm : m < 2 * bd.size) (x : BoardAt h b k bd) (y : rd h r i = some (.ins c (hdF b t here (.int m) s tail)))
    (q : ∀ h', BoardAt h' b k (bd.rdd (4 * (m % bd.size))) → Kx (SB b k) h h' → Q (.int (bd.at_ (4 * (m % bd.size)))) h') : F_Hand_mark_there [.ref r i] h Q E := by
  have n2 := o.n2
  have n8 := o.n8
  ((try simp [-sSeq, -dat_ref, sSeqK, small, lim, big, F_Hand_mark_there_eq, y, x.1]); (repeat (first | ((with_reducible refine kont_go ?_); try simp [-sSeq, -dat_ref, sSeqK, small, lim, big, F_Hand_mark_there_eq, y, x.1]) | ((with_reducible refine And.intro ?_ ?_); · omega))))
  refine place_ok (by omega) (by omega) (by omega) (by omega) ?_
  refine mark_cell_spec ?_
  rw [show 4 * ((m : Int) % bd.size) = ((4 * (m % bd.size) : Nat) : Int) by push_cast; rfl]
  have : m % bd.size < bd.size := Nat.mod_lt _ (by omega)
  exact read_ok x (o.at (by omega)) q
theorem may_g {h : MH} {i b k s m : Nat} {c : String} {here : String} {tail : List (String × MV)} {bd : Bd} {x : Int} {Q : QV} {E : QX} (o : bd.ok) (hm : m < 2 * bd.size) (x0 : 0 ≤ x) (x3 : x ≤ 3) (xb : BoardAt h b k bd) (y : rd h 11 i = some (.ins c (hdF b false here (.int m) s tail))) (q : Q (.bl (mayG bd.size m x)) h) : F_Giver_may [.ref 11 i, .int x] h Q E := by
  have n2 := o.n2
  have n8 := o.n8
  ((try simp [-sSeq, -dat_ref, sSeqK, small, lim, big, F_Giver_may_eq, y, xb.1]); (repeat (first | ((with_reducible refine kont_go ?_); try simp [-sSeq, -dat_ref, sSeqK, small, lim, big, F_Giver_may_eq, y, xb.1]) | ((with_reducible refine And.intro ?_ ?_); · omega))))
  refine give_v (.ok (.ok (by omega) (by omega) (by omega) (by omega)) x0 x3) (fun _ => ?_) fun c z => nomatch z
  unfold mayG at q
  rw [Int.natCast_ediv] at q
  exact q
theorem may_t {h : MH} {i b k s m : Nat} {c : String} {here : String} {tail : List (String × MV)} {bd : Bd} {x : Int} {Q : QV} {E : QX} (o : bd.ok) (hm : m < 2 * bd.size) (x0 : 0 ≤ x) (x3 : x ≤ 3) (xb : BoardAt h b k bd) (y : rd h 12 i = some (.ins c (hdF b true here (.int m) s tail))) (q : Q (.bl (mayT bd.size m x)) h) : F_Taker_may [.ref 12 i, .int x] h Q E := by
  have n2 := o.n2
  have n8 := o.n8
  ((try simp [-sSeq, -dat_ref, sSeqK, small, lim, big, F_Taker_may_eq, y, xb.1]); (repeat (first | ((with_reducible refine kont_go ?_); try simp [-sSeq, -dat_ref, sSeqK, small, lim, big, F_Taker_may_eq, y, xb.1]) | ((with_reducible refine And.intro ?_ ?_); · omega))))
  refine take_v (.ok (.ok (by omega) (by omega) (by omega) (by omega)) x0 x3) (fun _ => ?_) fun c z => nomatch z
  unfold mayT at q
  rw [Int.natCast_ediv] at q
  exact q
/-- waiting -/
inductive Wait (b : Bd) (t : Bool) (m : Nat) : St → Bd → St → Prop where
  | wish : Wait b t m .wish (b.put (cardI b.size t) m) .again
  | again : Wait b t m .again (b.rdd (4 * (m % b.size))) (if (if t then mayT b.size m (b.at_ (4 * (m % b.size))) else mayG b.size m (b.at_ (4 * (m % b.size)))) = true then .unwish else .sleep)
  | sleep : Wait b t m .sleep (b.rdd (bellI b.size t)) (if b.at_ (bellI b.size t) = 0 then .sleep else .hush)
  | hush : Wait b t m .hush (b.put (bellI b.size t) 0) .unwish
  | unwish : Wait b t m .unwish (b.put (cardI b.size t) (-1)) .look
theorem wait_g {h : MH} {i b k s m : Nat} {here here' : St} {tail : List (String × MV)} {bd bd' : Bd} {Q : QV} {E : QX} (o : bd.ok) (hm : m < 2 * bd.size) (x : BoardAt h b k bd) (y : rd h 11 i = some (.ins "Giver" (hdF b false here.name (.int m) s tail)))
    (st : Wait bd false m here bd' here') (ht : tail.length ≤ 10) (q : ∀ h', BoardAt h' b k bd' → rd h' 11 i = some (.ins "Giver" (hdF b false here'.name (.int m) s tail)) → Kx (SI b k 11 i) h h' → Q .non h') : F_Hand_wait [.ref 11 i] h Q E := by
  have n2 := o.n2
  have n8 := o.n8
  have fin : ∀ (h2 : MH) (bd2 : Bd) (st2 : St), BoardAt h2 b k bd2 → Kx (SB b k) h h2 → BoardAt h2 b k bd' → rd h2 11 i = some (.ins "Giver" (hdF b false here.name (.int m) s tail)) → Q .non (put h2 11 ((h2 11).set i (.ins "Giver" (hdF b false here'.name (.int m) s tail)))) := fun h2 bd2 st2 _ K2 x2 y2 => by
    generalize hh : put h2 11 _ = h3
    obtain ⟨K3, y3⟩ := set_of hh y2 (by decide)
    exact q h3 ⟨K3.rd x2.1, K3.rd x2.2⟩ y3 ((K2.mono sb_si).trans (K3.x (Or.inr (Or.inr ⟨rfl, rfl⟩))))
  cases st with
  | wish =>
    ((try simp [-sSeq, -dat_ref, sSeqK, small, lim, big, F_Hand_wait_eq, y, x.1]); (repeat (first | ((with_reducible refine kont_go ?_); try simp [-sSeq, -dat_ref, sSeqK, small, lim, big, F_Hand_wait_eq, y, x.1]) | ((with_reducible refine And.intro ?_ ?_); · omega))))
    refine card_spec n2 n8 ?_
    ((try simp [-sSeq, -dat_ref, sSeqK, small, lim, big, y]); (repeat (first | ((with_reducible refine kont_go ?_); try simp [-sSeq, -dat_ref, sSeqK, small, lim, big, y]) | ((with_reducible refine And.intro ?_ ?_); · omega))))
    refine write_ok x (by rw [o.len]; exact (card_lt _ _).2) fun h2 x2 K2 => ?_
    have y2 := K2.rd y (by decide) (by simp [SB])
    ((try simp [-sSeq, -dat_ref, sSeqK, small, lim, big, y2]); (repeat (first | ((with_reducible refine kont_go ?_); try simp [-sSeq, -dat_ref, sSeqK, small, lim, big, y2]) | ((with_reducible refine And.intro ?_ ?_); · omega))))
    exact fin h2 _ .look x2 K2 x2 y2
  | again =>
    ((try simp [-sSeq, -dat_ref, sSeqK, small, lim, big, F_Hand_wait_eq, y, x.1]); (repeat (first | ((with_reducible refine kont_go ?_); try simp [-sSeq, -dat_ref, sSeqK, small, lim, big, F_Hand_wait_eq, y, x.1]) | ((with_reducible refine And.intro ?_ ?_); · omega))))
    refine mark_there_spec (Or.inl rfl) o hm x y fun h2 x2 K2 => ?_
    have y2 := K2.rd y (by decide) (by simp [SB])
    ((try simp [-sSeq, -dat_ref, sSeqK, small, lim, big, y2, tb1_ne]); (repeat (first | ((with_reducible refine kont_go ?_); try simp [-sSeq, -dat_ref, sSeqK, small, lim, big, y2, tb1_ne]) | ((with_reducible refine And.intro ?_ ?_); · omega))))
    have mk := o.mks (m % bd.size) (Nat.mod_lt _ (by omega))
    refine may_g (bd := bd.rdd (4 * (m % bd.size))) ⟨n2, n8, o.len, o.mks⟩ hm mk.1 mk.2 x2 y2 ?_
    have e : (if (if false = true then mayT bd.size m (bd.at_ (4 * (m % bd.size))) else mayG bd.size m (bd.at_ (4 * (m % bd.size)))) = true then St.unwish else .sleep) = if mayG bd.size m (bd.at_ (4 * (m % bd.size))) = true then .unwish else .sleep := rfl
    have fin2 := fin h2 _ .look x2 K2 x2 y2
    rw [e] at fin2

    generalize hmm : mayG (bd.rdd (4 * (m % bd.size))).size m (bd.at_ (4 * (m % bd.size))) = mm
    have hmm2 : mayG bd.size m (bd.at_ (4 * (m % bd.size))) = mm := hmm
    rw [hmm2] at fin2
    cases mm with
    | true => ((try simp [-sSeq, -dat_ref, sSeqK, small, lim, big, y2]); (repeat (first | ((with_reducible refine kont_go ?_); try simp [-sSeq, -dat_ref, sSeqK, small, lim, big, y2]) | ((with_reducible refine And.intro ?_ ?_); · omega)))); exact fin2
    | false => ((try simp [-sSeq, -dat_ref, sSeqK, small, lim, big, y2]); (repeat (first | ((with_reducible refine kont_go ?_); try simp [-sSeq, -dat_ref, sSeqK, small, lim, big, y2]) | ((with_reducible refine And.intro ?_ ?_); · omega)))); exact fin2
  | sleep =>
    ((try simp [-sSeq, -dat_ref, sSeqK, small, lim, big, F_Hand_wait_eq, y, x.1]); (repeat (first | ((with_reducible refine kont_go ?_); try simp [-sSeq, -dat_ref, sSeqK, small, lim, big, F_Hand_wait_eq, y, x.1]) | ((with_reducible refine And.intro ?_ ?_); · omega))))
    refine bell_spec n2 n8 ?_
    ((try simp [-sSeq, -dat_ref, sSeqK, small, lim, big, y]); (repeat (first | ((with_reducible refine kont_go ?_); try simp [-sSeq, -dat_ref, sSeqK, small, lim, big, y]) | ((with_reducible refine And.intro ?_ ?_); · omega))))
    refine read_ok x (o.at (bell_lt _ _).2) fun h2 x2 K2 => ?_
    have y2 := K2.rd y (by decide) (by simp [SB])
    have fin2 := fin h2 _ .look x2 K2 x2 y2
    by_cases c : bd.at_ (bellI bd.size false) = 0
    · ((try simp [-sSeq, -dat_ref, sSeqK, small, lim, big, c, y2]); (repeat (first | ((with_reducible refine kont_go ?_); try simp [-sSeq, -dat_ref, sSeqK, small, lim, big, c, y2]) | ((with_reducible refine And.intro ?_ ?_); · omega))))
      rw [if_pos c] at fin2 q
      exact q h2 x2 y2 (K2.mono sb_si)
    · ((try simp [-sSeq, -dat_ref, sSeqK, small, lim, big, c, y2]); (repeat (first | ((with_reducible refine kont_go ?_); try simp [-sSeq, -dat_ref, sSeqK, small, lim, big, c, y2]) | ((with_reducible refine And.intro ?_ ?_); · omega))))
      rw [if_neg c] at fin2
      exact fin2
  | hush =>
    ((try simp [-sSeq, -dat_ref, sSeqK, small, lim, big, F_Hand_wait_eq, y, x.1]); (repeat (first | ((with_reducible refine kont_go ?_); try simp [-sSeq, -dat_ref, sSeqK, small, lim, big, F_Hand_wait_eq, y, x.1]) | ((with_reducible refine And.intro ?_ ?_); · omega))))
    refine bell_spec n2 n8 ?_
    ((try simp [-sSeq, -dat_ref, sSeqK, small, lim, big, y]); (repeat (first | ((with_reducible refine kont_go ?_); try simp [-sSeq, -dat_ref, sSeqK, small, lim, big, y]) | ((with_reducible refine And.intro ?_ ?_); · omega))))
    refine write_ok x (by rw [o.len]; exact (bell_lt _ _).2) fun h2 x2 K2 => ?_
    have y2 := K2.rd y (by decide) (by simp [SB])
    ((try simp [-sSeq, -dat_ref, sSeqK, small, lim, big, y2]); (repeat (first | ((with_reducible refine kont_go ?_); try simp [-sSeq, -dat_ref, sSeqK, small, lim, big, y2]) | ((with_reducible refine And.intro ?_ ?_); · omega))))
    exact fin h2 _ .look x2 K2 x2 y2
  | unwish =>
    ((try simp [-sSeq, -dat_ref, sSeqK, small, lim, big, F_Hand_wait_eq, y, x.1]); (repeat (first | ((with_reducible refine kont_go ?_); try simp [-sSeq, -dat_ref, sSeqK, small, lim, big, F_Hand_wait_eq, y, x.1]) | ((with_reducible refine And.intro ?_ ?_); · omega))))
    refine card_spec n2 n8 ?_
    ((try simp [-sSeq, -dat_ref, sSeqK, small, lim, big, y]); (repeat (first | ((with_reducible refine kont_go ?_); try simp [-sSeq, -dat_ref, sSeqK, small, lim, big, y]) | ((with_reducible refine And.intro ?_ ?_); · omega))))
    refine write_ok x (by rw [o.len]; exact (card_lt _ _).2) fun h2 x2 K2 => ?_
    have y2 := K2.rd y (by decide) (by simp [SB])
    ((try simp [-sSeq, -dat_ref, sSeqK, small, lim, big, y2]); (repeat (first | ((with_reducible refine kont_go ?_); try simp [-sSeq, -dat_ref, sSeqK, small, lim, big, y2]) | ((with_reducible refine And.intro ?_ ?_); · omega))))
    exact fin h2 _ .look x2 K2 x2 y2
theorem wait_t {h : MH} {i b k s m : Nat} {here here' : St} {tail : List (String × MV)} {bd bd' : Bd} {Q : QV} {E : QX} (o : bd.ok) (hm : m < 2 * bd.size) (x : BoardAt h b k bd) (y : rd h 12 i = some (.ins "Taker" (hdF b true here.name (.int m) s tail)))
    (st : Wait bd true m here bd' here') (ht : tail.length ≤ 10) (q : ∀ h', BoardAt h' b k bd' → rd h' 12 i = some (.ins "Taker" (hdF b true here'.name (.int m) s tail)) → Kx (SI b k 12 i) h h' → Q .non h') : F_Hand_wait [.ref 12 i] h Q E := by
  have n2 := o.n2
  have n8 := o.n8
  have fin : ∀ (h2 : MH) (bd2 : Bd) (st2 : St), BoardAt h2 b k bd2 → Kx (SB b k) h h2 → BoardAt h2 b k bd' → rd h2 12 i = some (.ins "Taker" (hdF b true here.name (.int m) s tail)) → Q .non (put h2 12 ((h2 12).set i (.ins "Taker" (hdF b true here'.name (.int m) s tail)))) := fun h2 bd2 st2 _ K2 x2 y2 => by
    generalize hh : put h2 12 _ = h3
    obtain ⟨K3, y3⟩ := set_of hh y2 (by decide)
    exact q h3 ⟨K3.rd x2.1, K3.rd x2.2⟩ y3 ((K2.mono sb_si).trans (K3.x (Or.inr (Or.inr ⟨rfl, rfl⟩))))
  cases st with
  | wish =>
    ((try simp [-sSeq, -dat_ref, sSeqK, small, lim, big, F_Hand_wait_eq, y, x.1]); (repeat (first | ((with_reducible refine kont_go ?_); try simp [-sSeq, -dat_ref, sSeqK, small, lim, big, F_Hand_wait_eq, y, x.1]) | ((with_reducible refine And.intro ?_ ?_); · omega))))
    refine card_spec n2 n8 ?_
    ((try simp [-sSeq, -dat_ref, sSeqK, small, lim, big, y]); (repeat (first | ((with_reducible refine kont_go ?_); try simp [-sSeq, -dat_ref, sSeqK, small, lim, big, y]) | ((with_reducible refine And.intro ?_ ?_); · omega))))
    refine write_ok x (by rw [o.len]; exact (card_lt _ _).2) fun h2 x2 K2 => ?_
    have y2 := K2.rd y (by decide) (by simp [SB])
    ((try simp [-sSeq, -dat_ref, sSeqK, small, lim, big, y2]); (repeat (first | ((with_reducible refine kont_go ?_); try simp [-sSeq, -dat_ref, sSeqK, small, lim, big, y2]) | ((with_reducible refine And.intro ?_ ?_); · omega))))
    exact fin h2 _ .look x2 K2 x2 y2
  | again =>
    ((try simp [-sSeq, -dat_ref, sSeqK, small, lim, big, F_Hand_wait_eq, y, x.1]); (repeat (first | ((with_reducible refine kont_go ?_); try simp [-sSeq, -dat_ref, sSeqK, small, lim, big, F_Hand_wait_eq, y, x.1]) | ((with_reducible refine And.intro ?_ ?_); · omega))))
    refine mark_there_spec (Or.inr rfl) o hm x y fun h2 x2 K2 => ?_
    have y2 := K2.rd y (by decide) (by simp [SB])
    ((try simp [-sSeq, -dat_ref, sSeqK, small, lim, big, y2, tb1_ne]); (repeat (first | ((with_reducible refine kont_go ?_); try simp [-sSeq, -dat_ref, sSeqK, small, lim, big, y2, tb1_ne]) | ((with_reducible refine And.intro ?_ ?_); · omega))))
    have mk := o.mks (m % bd.size) (Nat.mod_lt _ (by omega))
    refine may_t (bd := bd.rdd (4 * (m % bd.size))) ⟨n2, n8, o.len, o.mks⟩ hm mk.1 mk.2 x2 y2 ?_
    have e : (if (if true = true then mayT bd.size m (bd.at_ (4 * (m % bd.size))) else mayG bd.size m (bd.at_ (4 * (m % bd.size)))) = true then St.unwish else .sleep) = if mayT bd.size m (bd.at_ (4 * (m % bd.size))) = true then .unwish else .sleep := rfl
    have fin2 := fin h2 _ .look x2 K2 x2 y2
    rw [e] at fin2

    generalize hmm : mayT (bd.rdd (4 * (m % bd.size))).size m (bd.at_ (4 * (m % bd.size))) = mm
    have hmm2 : mayT bd.size m (bd.at_ (4 * (m % bd.size))) = mm := hmm
    rw [hmm2] at fin2
    cases mm with
    | true => ((try simp [-sSeq, -dat_ref, sSeqK, small, lim, big, y2]); (repeat (first | ((with_reducible refine kont_go ?_); try simp [-sSeq, -dat_ref, sSeqK, small, lim, big, y2]) | ((with_reducible refine And.intro ?_ ?_); · omega)))); exact fin2
    | false => ((try simp [-sSeq, -dat_ref, sSeqK, small, lim, big, y2]); (repeat (first | ((with_reducible refine kont_go ?_); try simp [-sSeq, -dat_ref, sSeqK, small, lim, big, y2]) | ((with_reducible refine And.intro ?_ ?_); · omega)))); exact fin2
  | sleep =>
    ((try simp [-sSeq, -dat_ref, sSeqK, small, lim, big, F_Hand_wait_eq, y, x.1]); (repeat (first | ((with_reducible refine kont_go ?_); try simp [-sSeq, -dat_ref, sSeqK, small, lim, big, F_Hand_wait_eq, y, x.1]) | ((with_reducible refine And.intro ?_ ?_); · omega))))
    refine bell_spec n2 n8 ?_
    ((try simp [-sSeq, -dat_ref, sSeqK, small, lim, big, y]); (repeat (first | ((with_reducible refine kont_go ?_); try simp [-sSeq, -dat_ref, sSeqK, small, lim, big, y]) | ((with_reducible refine And.intro ?_ ?_); · omega))))
    refine read_ok x (o.at (bell_lt _ _).2) fun h2 x2 K2 => ?_
    have y2 := K2.rd y (by decide) (by simp [SB])
    have fin2 := fin h2 _ .look x2 K2 x2 y2
    by_cases c : bd.at_ (bellI bd.size true) = 0
    · ((try simp [-sSeq, -dat_ref, sSeqK, small, lim, big, c, y2]); (repeat (first | ((with_reducible refine kont_go ?_); try simp [-sSeq, -dat_ref, sSeqK, small, lim, big, c, y2]) | ((with_reducible refine And.intro ?_ ?_); · omega))))
      rw [if_pos c] at fin2 q
      exact q h2 x2 y2 (K2.mono sb_si)
    · ((try simp [-sSeq, -dat_ref, sSeqK, small, lim, big, c, y2]); (repeat (first | ((with_reducible refine kont_go ?_); try simp [-sSeq, -dat_ref, sSeqK, small, lim, big, c, y2]) | ((with_reducible refine And.intro ?_ ?_); · omega))))
      rw [if_neg c] at fin2
      exact fin2
  | hush =>
    ((try simp [-sSeq, -dat_ref, sSeqK, small, lim, big, F_Hand_wait_eq, y, x.1]); (repeat (first | ((with_reducible refine kont_go ?_); try simp [-sSeq, -dat_ref, sSeqK, small, lim, big, F_Hand_wait_eq, y, x.1]) | ((with_reducible refine And.intro ?_ ?_); · omega))))
    refine bell_spec n2 n8 ?_
    ((try simp [-sSeq, -dat_ref, sSeqK, small, lim, big, y]); (repeat (first | ((with_reducible refine kont_go ?_); try simp [-sSeq, -dat_ref, sSeqK, small, lim, big, y]) | ((with_reducible refine And.intro ?_ ?_); · omega))))
    refine write_ok x (by rw [o.len]; exact (bell_lt _ _).2) fun h2 x2 K2 => ?_
    have y2 := K2.rd y (by decide) (by simp [SB])
    ((try simp [-sSeq, -dat_ref, sSeqK, small, lim, big, y2]); (repeat (first | ((with_reducible refine kont_go ?_); try simp [-sSeq, -dat_ref, sSeqK, small, lim, big, y2]) | ((with_reducible refine And.intro ?_ ?_); · omega))))
    exact fin h2 _ .look x2 K2 x2 y2
  | unwish =>
    ((try simp [-sSeq, -dat_ref, sSeqK, small, lim, big, F_Hand_wait_eq, y, x.1]); (repeat (first | ((with_reducible refine kont_go ?_); try simp [-sSeq, -dat_ref, sSeqK, small, lim, big, F_Hand_wait_eq, y, x.1]) | ((with_reducible refine And.intro ?_ ?_); · omega))))
    refine card_spec n2 n8 ?_
    ((try simp [-sSeq, -dat_ref, sSeqK, small, lim, big, y]); (repeat (first | ((with_reducible refine kont_go ?_); try simp [-sSeq, -dat_ref, sSeqK, small, lim, big, y]) | ((with_reducible refine And.intro ?_ ?_); · omega))))
    refine write_ok x (by rw [o.len]; exact (card_lt _ _).2) fun h2 x2 K2 => ?_
    have y2 := K2.rd y (by decide) (by simp [SB])
    ((try simp [-sSeq, -dat_ref, sSeqK, small, lim, big, y2]); (repeat (first | ((with_reducible refine kont_go ?_); try simp [-sSeq, -dat_ref, sSeqK, small, lim, big, y2]) | ((with_reducible refine And.intro ?_ ?_); · omega))))
    exact fin h2 _ .look x2 K2 x2 y2
end Mi
end TxSHands

section TxSGiver
set_option autoImplicit false
set_option linter.all false
set_option maxRecDepth 100000
set_option maxHeartbeats 4000000
namespace Mi
abbrev gInst (b s w : Nat) (v : Gv) : MO := .ins "Giver" (hdF b false v.here.name (spotV v.spot) s [("wares", .ref 21 w), ("at", .int v.at_), ("part", .int v.part)])
/-- the giver's own object is changed -/
theorem gset {h h' : MH} {i b s w : Nat} {v v' : Gv} (y : GiverAt h i b s w v) (e : put h 11 ((h 11).set i (gInst b s w v')) = h') (hs : v'.seen = v.seen) (hw : v'.wares = v.wares) : GiverAt h' i b s w v' ∧ Ke 11 i h h' := by
  obtain ⟨K, z⟩ := set_of e y.1 (by decide)
  obtain ⟨refs, r1, r2⟩ := y.2.2
  exact ⟨⟨z, by rw [hs]; exact K.rd y.2.1, refs, K.rd r1, by rw [hw]; exact r2.kx (K.x (S := fun q j => q = 11) rfl) (by decide) (by simp)⟩, K⟩
theorem GiverAt.kx {S : Nat → Nat → Prop} {h h' : MH} {i b s w : Nat} {v : Gv} (y : GiverAt h i b s w v) (g : Kx S h h') (h1 : ¬ S 11 i) (h2 : ¬ S 22 s) (h3 : ¬ S 21 w) (h4 : ∀ j, ¬ S 26 j) : GiverAt h' i b s w v := by
  obtain ⟨refs, r1, r2⟩ := y.2.2
  exact ⟨g.rd y.1 (by decide) h1, g.rd y.2.1 (by decide) h2, refs, g.rd r1 (by decide) h3, r2.kx g (by decide) h4⟩
theorem GiverAt.sb {h h' : MH} {i b s w k : Nat} {v : Gv} (y : GiverAt h i b s w v) (g : Kx (SB b k) h h') : GiverAt h' i b s w v := y.kx g (by simp [SB]) (by simp [SB]) (by simp [SB]) (by simp [SB])
theorem BoardAt.ke {h h' : MH} {b k r i : Nat} {bd : Bd} (x : BoardAt h b k bd) (g : Ke r i h h') (h1 : r ≠ 10) (h2 : r ≠ 20) : BoardAt h' b k bd := ⟨g.rd x.1 (by decide) (Or.inl (fun e => h1 e.symm)), g.rd x.2 (by decide) (Or.inl (fun e => h2 e.symm))⟩
theorem rests_spec {h : MH} {i b s w : Nat} {v : Gv} {Q : QV} {E : QX} (y : GiverAt h i b s w v) (q : Q (.bl v.rests) h) : F_Giver_rests [.ref 11 i] h Q E := by
  obtain ⟨refs, r1, r2⟩ := y.2.2
  have hl := r2.length
  ((try simp [-sSeq, -dat_ref, sSeqK, small, lim, big, F_Giver_rests_eq, y.1]); (repeat (first | ((with_reducible refine kont_go ?_); try simp [-sSeq, -dat_ref, sSeqK, small, lim, big, F_Giver_rests_eq, y.1]) | ((with_reducible refine And.intro ?_ ?_); · omega))))
  unfold Gv.rests at q
  obtain ⟨here, spot, seen, wares, at_, part⟩ := v
  cases here <;> simp at q ⊢ <;> try exact q
  simp [y.1, r1, hl]
  exact q
theorem go_on_spec {h : MH} {i b k s w m a : Nat} {bd : Bd} {v : Gv} {Q : QV} {E : QX} (o : bd.ok) (hm : m < 2 * bd.size) (hs : v.spot = some m) (ha : v.at_ = (a : Int)) (al : a < v.wares.length) (x : BoardAt h b k bd) (y : GiverAt h i b s w v)
    (q : ∀ h', BoardAt h' b k bd → GiverAt h' i b s w (v.goOn bd.size) → Kx (SI b k 11 i) h h' → Q .non h') : F_Giver_go_on [.ref 11 i] h Q E := by
  have n2 := o.n2
  have n8 := o.n8
  obtain ⟨here, spot, seen, wares, at_, part⟩ := v
  subst hs ha
  have al : a < wares.length := al
  have hi := rd_lt y.1
  obtain ⟨refs, r1, r2⟩ := y.2.2
  obtain ⟨l, hl⟩ : ∃ l, wares[a]? = some l := ⟨_, List.getElem?_eq_getElem al⟩
  obtain ⟨j, j1, j2⟩ := r2.at_ hl
  have ol : (Gv.order ⟨here, some m, seen, wares, (a : Int), part⟩).length = l.length := by
    unfold Gv.order; simp [List.getD_eq_getElem?_getD, hl]
  ((try simp [-sSeq, -dat_ref, sSeqK, small, lim, big, F_Giver_go_on_eq, y.1, x.1, hi]); (repeat (first | ((with_reducible refine kont_go ?_); try simp [-sSeq, -dat_ref, sSeqK, small, lim, big, F_Giver_go_on_eq, y.1, x.1, hi]) | ((with_reducible refine And.intro ?_ ?_); · omega))))
  refine onward_ok (by omega) (by omega) (by omega) (by omega) ?_
  rw [show ((m : Int) + 1) % (2 * bd.size) = (((m + 1) % (2 * bd.size) : Nat) : Int) by push_cast; rfl]
  ((try simp [-sSeq, -dat_ref, sSeqK, small, lim, big, y.1, x.1, hi, r1, atI_nat, j1, j2]); (repeat (first | ((with_reducible refine kont_go ?_); try simp [-sSeq, -dat_ref, sSeqK, small, lim, big, y.1, x.1, hi, r1, atI_nat, j1, j2]) | ((with_reducible refine And.intro ?_ ?_); · omega))))
  have fin : ∀ v' : Gv, v' = Gv.goOn bd.size ⟨here, some m, seen, wares, (a : Int), part⟩ → Q .non (put h 11 ((h 11).set i (gInst b s w v'))) := fun v' e => by
    generalize hh : put h 11 _ = h2
    obtain ⟨y2, K2⟩ := gset y hh (by rw [e]; rfl) (by rw [e]; rfl)
    rw [← e] at q
    exact q h2 (x.ke K2 (by decide) (by decide)) y2 (K2.x (Or.inr (Or.inr ⟨rfl, rfl⟩)))
  have hcast : ((m : Int) + 1) % (2 * (bd.size : Int)) = (((m + 1) % (2 * bd.size) : Nat) : Int) := by push_cast; rfl
  rw [hcast]
  by_cases c : part + 1 = l.length
  · rw [if_pos c]
    ((try simp [-sSeq, -dat_ref, sSeqK, small, lim, big, y.1, hi]); (repeat (first | ((with_reducible refine kont_go ?_); try simp [-sSeq, -dat_ref, sSeqK, small, lim, big, y.1, hi]) | ((with_reducible refine And.intro ?_ ?_); · omega))))
    rw [hcast]
    refine fin ⟨.look, some ((m + 1) % (2 * bd.size)), seen, wares, (a : Int) + 1, 0⟩ ?_
    unfold Gv.goOn
    simp only [ol]
    rw [if_pos c, if_pos c]; rfl
  · rw [if_neg c]
    refine fin ⟨.look, some ((m + 1) % (2 * bd.size)), seen, wares, (a : Int), part + 1⟩ ?_
    unfold Gv.goOn
    simp only [ol]
    rw [if_neg c, if_neg c]; rfl
/-- what a step of the giver asks for -/
def Tn (n : Nat) (o : Option Nat) : Prop := ∃ t, o = some t ∧ t < 2 * n
def GOk (b : Bd) (v : Gv) : Prop := match v.here with
  | .rouse | .clear | .mute => v.seen.length ≠ b.size
  | .marks => v.seen.length < b.size ∧ (v.seen.length + 1 = b.size → ∃ t : Nat, giverF (v.seen ++ [b.at_ (4 * v.seen.length)]) = .inr (t : Int))
  | .wish | .again | .sleep | .hush | .unwish | .told => Tn b.size v.spot
  | .lacks => Tn b.size v.spot ∧ (0 ≤ v.at_ → 0 < b.at_ (4 * (prevT b.size (v.spot.getD 0) % b.size) + 2) → v.at_.toNat < v.wares.length)
  | .look => v.rests = true ∨ (Tn b.size v.spot ∧ ∃ a : Nat, v.at_ = (a : Int) ∧ a < v.wares.length)
  | .number | .left | .thing | .mark | .card | .ring => Tn b.size v.spot ∧ ∃ a p : Nat, v.at_ = (a : Int) ∧ v.part = (p : Int) ∧ a < v.wares.length ∧ p < lenO v.wares a
  | .free => False
theorem give_spec {h : MH} {i b k s w : Nat} {bd : Bd} {v : Gv} {Q : QV} {E : QX} (o : bd.ok) (x : BoardAt h b k bd) (y : GiverAt h i b s w v) (ok : GOk bd v) (hh : v.here = .look ∧ v.rests = false ∨ v.here = .number ∨ v.here = .left ∨ v.here = .thing ∨ v.here = .mark ∨ v.here = .card ∨ v.here = .ring)
    (q : ∀ h', BoardAt h' b k (gstep bd v).1 → GiverAt h' i b s w (gstep bd v).2 → Kx (SI b k 11 i) h h' → Q .non h') : F_Giver_give [.ref 11 i] h Q E := by
  have n2 := o.n2
  have n8 := o.n8
  have hi := rd_lt y.1
  have hex : Tn bd.size v.spot ∧ ∃ a : Nat, v.at_ = (a : Int) ∧ a < v.wares.length := by
    obtain ⟨here, spot, seen, wares, at_, part⟩ := v
    rcases hh with ⟨e, r⟩ | e | e | e | e | e | e <;> (have e : here = _ := e; subst e; simp only [GOk] at ok)
    · rcases ok with ok | ok
      · rw [r] at ok; cases ok
      · exact ok
    all_goals (obtain ⟨t, a, p, e1, e2, e3, e4⟩ := ok; exact ⟨t, a, e1, e3⟩)
  obtain ⟨⟨m, hs, hm⟩, a, ha, al⟩ := hex
  obtain ⟨refs, r1, r2⟩ := y.2.2
  obtain ⟨l, hl⟩ : ∃ l, v.wares[a]? = some l := ⟨_, List.getElem?_eq_getElem al⟩
  obtain ⟨j, j1, j2⟩ := r2.at_ hl
  obtain ⟨here, spot, seen, wares, at_, part⟩ := v
  have hs : spot = some m := hs
  have ha : at_ = (a : Int) := ha
  subst hs ha
  have ol : (Gv.order ⟨here, some m, seen, wares, (a : Int), part⟩) = l := by
    unfold Gv.order; simp [List.getD_eq_getElem?_getD, hl]
  have pl : m % bd.size < bd.size := Nat.mod_lt _ (by omega)
  have hcast : (m : Int) % (bd.size : Int) = ((m % bd.size : Nat) : Int) := by push_cast; rfl
  have fin : ∀ (h2 : MH) (bd2 : Bd) (v' : Gv), Kx (SB b k) h h2 → BoardAt h2 b k bd2 → GiverAt h2 i b s w ⟨here, some m, seen, wares, (a : Int), part⟩ → v'.seen = seen → v'.wares = wares → gstep bd ⟨here, some m, seen, wares, (a : Int), part⟩ = (bd2, v') → Q .non (put h2 11 ((h2 11).set i (gInst b s w v'))) := fun h2 bd2 v' K2 x2 y2 e1 e2 e => by
    generalize hh : put h2 11 _ = h3
    obtain ⟨y3, K3⟩ := gset y2 hh e1 e2
    rw [e] at q
    exact q h3 (x2.ke K3 (by decide) (by decide)) y3 ((K2.mono sb_si).trans (K3.x (Or.inr (Or.inr ⟨rfl, rfl⟩))))
  ((try simp [-sSeq, -dat_ref, sSeqK, small, lim, big, F_Giver_give_eq, y.1, x.1]); (repeat (first | ((with_reducible refine kont_go ?_); try simp [-sSeq, -dat_ref, sSeqK, small, lim, big, F_Giver_give_eq, y.1, x.1]) | ((with_reducible refine And.intro ?_ ?_); · omega))))
  refine place_ok (by omega) (by omega) (by omega) (by omega) ?_
  rcases hh with ⟨e, r⟩ | e | e | e | e | e | e <;> (have e : here = _ := e; subst e)
  · ((try simp [-sSeq, -dat_ref, sSeqK, small, lim, big, y.1, x.1, r1, atI_nat, j1, hi]); (repeat (first | ((with_reducible refine kont_go ?_); try simp [-sSeq, -dat_ref, sSeqK, small, lim, big, y.1, x.1, r1, atI_nat, j1, hi]) | ((with_reducible refine And.intro ?_ ?_); · omega))))
    refine mark_there_spec (Or.inl rfl) o hm x y.1 fun h2 x2 K2 => ?_
    have y2 := y.sb K2
    have mk := o.mks (m % bd.size) pl
    ((try simp [-sSeq, -dat_ref, sSeqK, small, lim, big]); (repeat (first | ((with_reducible refine kont_go ?_); try simp [-sSeq, -dat_ref, sSeqK, small, lim, big]) | ((with_reducible refine And.intro ?_ ?_); · omega))))
    refine may_g (bd := bd.rdd (4 * (m % bd.size))) ⟨n2, n8, o.len, o.mks⟩ hm mk.1 mk.2 x2 y2.1 ?_
    generalize hmm : mayG (bd.rdd (4 * (m % bd.size))).size m (bd.at_ (4 * (m % bd.size))) = mm
    have hmm2 : mayG bd.size m (bd.at_ (4 * (m % bd.size))) = mm := hmm
    have gs : gstep bd ⟨.look, some m, seen, wares, (a : Int), part⟩ = (bd.rdd (4 * (m % bd.size)), if mm = true then ⟨.number, some m, seen, wares, (a : Int), part⟩ else ⟨.wish, some m, seen, wares, (a : Int), part⟩) := by
      rw [← hmm2]
      unfold gstep
      simp only
      rw [r]; rfl
    cases mm with
    | true => ((try simp [-sSeq, -dat_ref, sSeqK, small, lim, big, y2.1]); (repeat (first | ((with_reducible refine kont_go ?_); try simp [-sSeq, -dat_ref, sSeqK, small, lim, big, y2.1]) | ((with_reducible refine And.intro ?_ ?_); · omega)))); exact fin h2 _ ⟨.number, some m, seen, wares, (a : Int), part⟩ K2 x2 y2 rfl rfl gs
    | false => ((try simp [-sSeq, -dat_ref, sSeqK, small, lim, big, y2.1]); (repeat (first | ((with_reducible refine kont_go ?_); try simp [-sSeq, -dat_ref, sSeqK, small, lim, big, y2.1]) | ((with_reducible refine And.intro ?_ ?_); · omega)))); exact fin h2 _ ⟨.wish, some m, seen, wares, (a : Int), part⟩ K2 x2 y2 rfl rfl gs
  · ((try simp [-sSeq, -dat_ref, sSeqK, small, lim, big, y.1, x.1, r1, atI_nat, j1, hi]); (repeat (first | ((with_reducible refine kont_go ?_); try simp [-sSeq, -dat_ref, sSeqK, small, lim, big, y.1, x.1, r1, atI_nat, j1, hi]) | ((with_reducible refine And.intro ?_ ?_); · omega))))
    refine number_cell_spec ?_
    ((try simp [-sSeq, -dat_ref, sSeqK, small, lim, big, y.1]); (repeat (first | ((with_reducible refine kont_go ?_); try simp [-sSeq, -dat_ref, sSeqK, small, lim, big, y.1]) | ((with_reducible refine And.intro ?_ ?_); · omega))))
    rw [hcast, show 4 * ((m % bd.size : Nat) : Int) + 1 = ((4 * (m % bd.size) + 1 : Nat) : Int) by omega]
    refine write_ok x (by rw [o.len]; omega) fun h2 x2 K2 => ?_
    have y2 := y.sb K2
    ((try simp [-sSeq, -dat_ref, sSeqK, small, lim, big, y2.1]); (repeat (first | ((with_reducible refine kont_go ?_); try simp [-sSeq, -dat_ref, sSeqK, small, lim, big, y2.1]) | ((with_reducible refine And.intro ?_ ?_); · omega))))
    exact fin h2 _ ⟨.left, some m, seen, wares, (a : Int), part⟩ K2 x2 y2 rfl rfl rfl
  · ((try simp [-sSeq, -dat_ref, sSeqK, small, lim, big, y.1, x.1, r1, atI_nat, j1, hi]); (repeat (first | ((with_reducible refine kont_go ?_); try simp [-sSeq, -dat_ref, sSeqK, small, lim, big, y.1, x.1, r1, atI_nat, j1, hi]) | ((with_reducible refine And.intro ?_ ?_); · omega))))
    refine left_cell_spec ?_
    ((try simp [-sSeq, -dat_ref, sSeqK, small, lim, big, y.1, j2]); (repeat (first | ((with_reducible refine kont_go ?_); try simp [-sSeq, -dat_ref, sSeqK, small, lim, big, y.1, j2]) | ((with_reducible refine And.intro ?_ ?_); · omega))))
    rw [hcast, show 4 * ((m % bd.size : Nat) : Int) + 2 = ((4 * (m % bd.size) + 2 : Nat) : Int) by omega]
    refine write_ok x (by rw [o.len]; omega) fun h2 x2 K2 => ?_
    have y2 := y.sb K2
    ((try simp [-sSeq, -dat_ref, sSeqK, small, lim, big, y2.1]); (repeat (first | ((with_reducible refine kont_go ?_); try simp [-sSeq, -dat_ref, sSeqK, small, lim, big, y2.1]) | ((with_reducible refine And.intro ?_ ?_); · omega))))
    exact fin h2 _ ⟨.thing, some m, seen, wares, (a : Int), part⟩ K2 x2 y2 rfl rfl (by unfold gstep; simp only; rw [ol]; rfl)
  · simp only [GOk] at ok
    obtain ⟨_, a', p, e1, e2, e3, e4⟩ := ok
    have e2 : part = (p : Int) := e2
    subst e2
    have e1 : a = a' := by
      have : (a : Int) = (a' : Int) := e1
      omega
    subst e1
    have hp : p < l.length := by
      have : lenO wares a = l.length := by unfold lenO; simp [List.getD_eq_getElem?_getD, hl]
      have e4 : p < lenO wares a := e4
      omega
    obtain ⟨xv, hx⟩ : ∃ xv, l[p]? = some xv := ⟨_, List.getElem?_eq_getElem hp⟩
    ((try simp [-sSeq, -dat_ref, sSeqK, small, lim, big, y.1, x.1, r1, atI_nat, j1, hi]); (repeat (first | ((with_reducible refine kont_go ?_); try simp [-sSeq, -dat_ref, sSeqK, small, lim, big, y.1, x.1, r1, atI_nat, j1, hi]) | ((with_reducible refine And.intro ?_ ?_); · omega))))
    refine thing_cell_spec ?_
    ((try simp [-sSeq, -dat_ref, sSeqK, small, lim, big, y.1, j2, atI_nat, hx]); (repeat (first | ((with_reducible refine kont_go ?_); try simp [-sSeq, -dat_ref, sSeqK, small, lim, big, y.1, j2, atI_nat, hx]) | ((with_reducible refine And.intro ?_ ?_); · omega))))
    rw [hcast, show 4 * ((m % bd.size : Nat) : Int) + 3 = ((4 * (m % bd.size) + 3 : Nat) : Int) by omega]
    refine write_ok x (by rw [o.len]; omega) fun h2 x2 K2 => ?_
    have y2 := y.sb K2
    ((try simp [-sSeq, -dat_ref, sSeqK, small, lim, big, y2.1]); (repeat (first | ((with_reducible refine kont_go ?_); try simp [-sSeq, -dat_ref, sSeqK, small, lim, big, y2.1]) | ((with_reducible refine And.intro ?_ ?_); · omega))))
    exact fin h2 _ ⟨.mark, some m, seen, wares, (a : Int), (p : Int)⟩ K2 x2 y2 rfl rfl (by unfold gstep; simp only; rw [ol]; simp [List.getD_eq_getElem?_getD, hx])
  · ((try simp [-sSeq, -dat_ref, sSeqK, small, lim, big, y.1, x.1, r1, atI_nat, j1, hi]); (repeat (first | ((with_reducible refine kont_go ?_); try simp [-sSeq, -dat_ref, sSeqK, small, lim, big, y.1, x.1, r1, atI_nat, j1, hi]) | ((with_reducible refine And.intro ?_ ?_); · omega))))
    refine mark_cell_spec ?_
    ((try simp [-sSeq, -dat_ref, sSeqK, small, lim, big, y.1]); (repeat (first | ((with_reducible refine kont_go ?_); try simp [-sSeq, -dat_ref, sSeqK, small, lim, big, y.1]) | ((with_reducible refine And.intro ?_ ?_); · omega))))
    refine full_v (.ok (by omega) (by omega) (by omega) (by omega)) (fun _ => ?_) fun c z => nomatch z
    rw [hcast, show 4 * ((m % bd.size : Nat) : Int) = ((4 * (m % bd.size) : Nat) : Int) by omega]
    refine write_ok x (by rw [o.len]; omega) fun h2 x2 K2 => ?_
    have y2 := y.sb K2
    ((try simp [-sSeq, -dat_ref, sSeqK, small, lim, big, y2.1]); (repeat (first | ((with_reducible refine kont_go ?_); try simp [-sSeq, -dat_ref, sSeqK, small, lim, big, y2.1]) | ((with_reducible refine And.intro ?_ ?_); · omega))))
    exact fin h2 _ ⟨.card, some m, seen, wares, (a : Int), part⟩ K2 x2 y2 rfl rfl (by unfold gstep; simp only; simp)
  · ((try simp [-sSeq, -dat_ref, sSeqK, small, lim, big, y.1, x.1, r1, atI_nat, j1, hi]); (repeat (first | ((with_reducible refine kont_go ?_); try simp [-sSeq, -dat_ref, sSeqK, small, lim, big, y.1, x.1, r1, atI_nat, j1, hi]) | ((with_reducible refine And.intro ?_ ?_); · omega))))
    refine card_spec (t := true) n2 n8 ?_
    ((try simp [-sSeq, -dat_ref, sSeqK, small, lim, big, y.1]); (repeat (first | ((with_reducible refine kont_go ?_); try simp [-sSeq, -dat_ref, sSeqK, small, lim, big, y.1]) | ((with_reducible refine And.intro ?_ ?_); · omega))))
    refine read_ok x (o.at (card_lt _ _).2) fun h2 x2 K2 => ?_
    have y2 := y.sb K2
    by_cases c : bd.at_ (cardI bd.size true) = (m : Int)
    · ((try simp [-sSeq, -dat_ref, sSeqK, small, lim, big, y2.1, c]); (repeat (first | ((with_reducible refine kont_go ?_); try simp [-sSeq, -dat_ref, sSeqK, small, lim, big, y2.1, c]) | ((with_reducible refine And.intro ?_ ?_); · omega))))
      refine fin h2 _ ⟨.ring, some m, seen, wares, (a : Int), part⟩ K2 x2 y2 rfl rfl ?_
      unfold gstep
      simp only [Option.getD_some]
      rw [if_pos c]
      rfl
    · ((try simp [-sSeq, -dat_ref, sSeqK, small, lim, big, y2.1, c]); (repeat (first | ((with_reducible refine kont_go ?_); try simp [-sSeq, -dat_ref, sSeqK, small, lim, big, y2.1, c]) | ((with_reducible refine And.intro ?_ ?_); · omega))))
      refine go_on_spec (bd := bd.rdd (cardI bd.size true)) ⟨n2, n8, o.len, o.mks⟩ hm rfl rfl al x2 y2 fun h3 x3 y3 K3 => ?_
      ((try simp [-sSeq, -dat_ref, sSeqK, small, lim, big]); (repeat (first | ((with_reducible refine kont_go ?_); try simp [-sSeq, -dat_ref, sSeqK, small, lim, big]) | ((with_reducible refine And.intro ?_ ?_); · omega))))
      have gs : gstep bd ⟨.card, some m, seen, wares, (a : Int), part⟩ = (bd.rdd (cardI bd.size true), Gv.goOn bd.size ⟨.card, some m, seen, wares, (a : Int), part⟩) := by
        unfold gstep
        simp only [Option.getD_some]
        rw [if_neg c]
      rw [gs] at q
      exact q h3 x3 y3 ((K2.mono sb_si).trans K3)
  · ((try simp [-sSeq, -dat_ref, sSeqK, small, lim, big, y.1, x.1, r1, atI_nat, j1, hi]); (repeat (first | ((with_reducible refine kont_go ?_); try simp [-sSeq, -dat_ref, sSeqK, small, lim, big, y.1, x.1, r1, atI_nat, j1, hi]) | ((with_reducible refine And.intro ?_ ?_); · omega))))
    refine bell_spec (t := true) n2 n8 ?_
    ((try simp [-sSeq, -dat_ref, sSeqK, small, lim, big, y.1]); (repeat (first | ((with_reducible refine kont_go ?_); try simp [-sSeq, -dat_ref, sSeqK, small, lim, big, y.1]) | ((with_reducible refine And.intro ?_ ?_); · omega))))
    refine write_ok x (by rw [o.len]; exact (bell_lt _ _).2) fun h2 x2 K2 => ?_
    have y2 := y.sb K2
    ((try simp [-sSeq, -dat_ref, sSeqK, small, lim, big, y2.1]); (repeat (first | ((with_reducible refine kont_go ?_); try simp [-sSeq, -dat_ref, sSeqK, small, lim, big, y2.1]) | ((with_reducible refine And.intro ?_ ?_); · omega))))
    have hmk : ∀ p, p < bd.size → ce (bd.put (bellI bd.size true) 1).cells (4 * p) = ce bd.cells (4 * p) := fun p hp => by
      show ce (bd.cells.set _ _) _ = _
      rw [ce_set (by rw [o.len]; exact (bell_lt _ _).2), if_neg (by have := (bell_lt bd.size true).1; omega)]
    refine go_on_spec (bd := bd.put (bellI bd.size true) 1) ⟨n2, n8, by show (bd.cells.set _ _).length = _; rw [List.length_set]; exact o.len, fun p hp => by rw [hmk p hp]; exact o.mks p hp⟩ hm rfl rfl al x2 y2 fun h3 x3 y3 K3 => ?_
    ((try simp [-sSeq, -dat_ref, sSeqK, small, lim, big]); (repeat (first | ((with_reducible refine kont_go ?_); try simp [-sSeq, -dat_ref, sSeqK, small, lim, big]) | ((with_reducible refine And.intro ?_ ?_); · omega))))
    exact q h3 x3 y3 ((K2.mono sb_si).trans K3)
theorem prev_cast {n m : Nat} (n2 : 2 ≤ n) (hm : m < 2 * n) : ((m : Int) + -1) % (2 * n) = ((prevT n m : Nat) : Int) := by
  unfold prevT
  rw [Int.natCast_emod]
  have : ((m + 2 * n - 1 : Nat) : Int) = (m : Int) + -1 + (2 * n) * 1 := by omega
  rw [this]
  push_cast
  rw [Int.add_mul_emod_self_left]
theorem remember_spec {h : MH} {i b k s w : Nat} {bd : Bd} {v : Gv} {Q : QV} {E : QX} (o : bd.ok) (x : BoardAt h b k bd) (y : GiverAt h i b s w v) (ok : GOk bd v) (hh : v.here = .told ∨ v.here = .lacks)
    (q : ∀ h', BoardAt h' b k (gstep bd v).1 → GiverAt h' i b s w (gstep bd v).2 → Kx (SI b k 11 i) h h' → Q .non h') : F_Giver_remember [.ref 11 i] h Q E := by
  have n2 := o.n2
  have n8 := o.n8
  have hi := rd_lt y.1
  obtain ⟨refs, r1, r2⟩ := y.2.2
  have hex : Tn bd.size v.spot := by
    obtain ⟨here, spot, seen, wares, at_, part⟩ := v
    rcases hh with e | e <;> (have e : here = _ := e; subst e; simp only [GOk] at ok)
    · exact ok
    · exact ok.1
  obtain ⟨m, hs, hm⟩ := hex
  obtain ⟨here, spot, seen, wares, at_, part⟩ := v
  have hs : spot = some m := hs
  subst hs
  have pm : prevT bd.size m < 2 * bd.size := Nat.mod_lt _ (by omega)
  have pl : prevT bd.size m % bd.size < bd.size := Nat.mod_lt _ (by omega)
  have hcast : ((prevT bd.size m : Nat) : Int) % (bd.size : Int) = ((prevT bd.size m % bd.size : Nat) : Int) := by push_cast; rfl
  have fin : ∀ (h2 : MH) (bd2 : Bd) (v' : Gv), Kx (SB b k) h h2 → BoardAt h2 b k bd2 → GiverAt h2 i b s w ⟨here, some m, seen, wares, at_, part⟩ → v'.seen = seen → v'.wares = wares → gstep bd ⟨here, some m, seen, wares, at_, part⟩ = (bd2, v') → Q .non (put h2 11 ((h2 11).set i (gInst b s w v'))) := fun h2 bd2 v' K2 x2 y2 e1 e2 e => by
    generalize hh : put h2 11 _ = h3
    obtain ⟨y3, K3⟩ := gset y2 hh e1 e2
    rw [e] at q
    exact q h3 (x2.ke K3 (by decide) (by decide)) y3 ((K2.mono sb_si).trans (K3.x (Or.inr (Or.inr ⟨rfl, rfl⟩))))
  ((try simp [-sSeq, -dat_ref, sSeqK, small, lim, big, F_Giver_remember_eq, y.1, x.1]); (repeat (first | ((with_reducible refine kont_go ?_); try simp [-sSeq, -dat_ref, sSeqK, small, lim, big, F_Giver_remember_eq, y.1, x.1]) | ((with_reducible refine And.intro ?_ ?_); · omega))))
  refine onward_ok (by omega) (by omega) (by omega) (by omega) ?_
  rw [prev_cast n2 hm]
  refine place_ok (by omega) (by omega) (by omega) (by omega) ?_
  rcases hh with e | e <;> (have e : here = _ := e; subst e)
  · ((try simp [-sSeq, -dat_ref, sSeqK, small, lim, big, y.1, x.1, hi]); (repeat (first | ((with_reducible refine kont_go ?_); try simp [-sSeq, -dat_ref, sSeqK, small, lim, big, y.1, x.1, hi]) | ((with_reducible refine And.intro ?_ ?_); · omega))))
    refine number_cell_spec ?_
    ((try simp [-sSeq, -dat_ref, sSeqK, small, lim, big, y.1]); (repeat (first | ((with_reducible refine kont_go ?_); try simp [-sSeq, -dat_ref, sSeqK, small, lim, big, y.1]) | ((with_reducible refine And.intro ?_ ?_); · omega))))
    rw [hcast, show 4 * ((prevT bd.size m % bd.size : Nat) : Int) + 1 = ((4 * (prevT bd.size m % bd.size) + 1 : Nat) : Int) by omega]
    refine read_ok x (o.at (by omega)) fun h2 x2 K2 => ?_
    have y2 := y.sb K2
    have hi2 := rd_lt y2.1
    ((try simp [-sSeq, -dat_ref, sSeqK, small, lim, big, y2.1, hi2]); (repeat (first | ((with_reducible refine kont_go ?_); try simp [-sSeq, -dat_ref, sSeqK, small, lim, big, y2.1, hi2]) | ((with_reducible refine And.intro ?_ ?_); · omega))))
    exact fin h2 _ ⟨.lacks, some m, seen, wares, bd.at_ (4 * (prevT bd.size m % bd.size) + 1), part⟩ K2 x2 y2 rfl rfl rfl
  · ((try simp [-sSeq, -dat_ref, sSeqK, small, lim, big, y.1, x.1, hi]); (repeat (first | ((with_reducible refine kont_go ?_); try simp [-sSeq, -dat_ref, sSeqK, small, lim, big, y.1, x.1, hi]) | ((with_reducible refine And.intro ?_ ?_); · omega))))
    refine left_cell_spec ?_
    ((try simp [-sSeq, -dat_ref, sSeqK, small, lim, big, y.1]); (repeat (first | ((with_reducible refine kont_go ?_); try simp [-sSeq, -dat_ref, sSeqK, small, lim, big, y.1]) | ((with_reducible refine And.intro ?_ ?_); · omega))))
    rw [hcast, show 4 * ((prevT bd.size m % bd.size : Nat) : Int) + 2 = ((4 * (prevT bd.size m % bd.size) + 2 : Nat) : Int) by omega]
    refine read_ok x (o.at (by omega)) fun h2 x2 K2 => ?_
    have y2 := y.sb K2
    have hi2 := rd_lt y2.1
    have r1' : rd h2 21 w = some (.lst refs) := K2.rd r1 (by decide) (by simp [SB])
    have r2' : Lists h2 26 refs wares := r2.kx K2 (by decide) (by simp [SB])
    simp only [GOk] at ok
    obtain ⟨_, ok⟩ := ok
    have ok : 0 ≤ at_ → 0 < bd.at_ (4 * (prevT bd.size m % bd.size) + 2) → at_.toNat < wares.length := ok
    have gs : gstep bd ⟨.lacks, some m, seen, wares, at_, part⟩ = (bd.rdd (4 * (prevT bd.size m % bd.size) + 2), if 0 ≤ at_ ∧ 0 < bd.at_ (4 * (prevT bd.size m % bd.size) + 2) then ⟨.look, some m, seen, wares, at_, (Gv.order ⟨.lacks, some m, seen, wares, at_, part⟩).length - bd.at_ (4 * (prevT bd.size m % bd.size) + 2)⟩ else ⟨.look, some m, seen, wares, at_ + 1, 0⟩) := rfl
    by_cases c1 : 0 ≤ at_
    · by_cases c2 : 0 < bd.at_ (4 * (prevT bd.size m % bd.size) + 2)
      · obtain ⟨a, rfl⟩ : ∃ a : Nat, at_ = a := ⟨at_.toNat, by omega⟩
        have al : a < wares.length := by have := ok c1 c2; omega
        obtain ⟨l, hl⟩ : ∃ l, wares[a]? = some l := ⟨_, List.getElem?_eq_getElem al⟩
        obtain ⟨j, j1, j2⟩ := r2'.at_ hl
        have ol : (Gv.order ⟨.lacks, some m, seen, wares, (a : Int), part⟩) = l := by
          unfold Gv.order; simp [List.getD_eq_getElem?_getD, hl]
        ((try simp [-sSeq, -dat_ref, sSeqK, small, lim, big, y2.1, hi2, c2, r1', atI_nat, j1, j2]); (repeat (first | ((with_reducible refine kont_go ?_); try simp [-sSeq, -dat_ref, sSeqK, small, lim, big, y2.1, hi2, c2, r1', atI_nat, j1, j2]) | ((with_reducible refine And.intro ?_ ?_); · omega))))
        rw [if_pos ⟨c1, c2⟩, ol] at gs
        exact fin h2 _ ⟨.look, some m, seen, wares, (a : Int), l.length - bd.at_ (4 * (prevT bd.size m % bd.size) + 2)⟩ K2 x2 y2 rfl rfl gs
      · ((try simp [-sSeq, -dat_ref, sSeqK, small, lim, big, y2.1, hi2, c1, c2]); (repeat (first | ((with_reducible refine kont_go ?_); try simp [-sSeq, -dat_ref, sSeqK, small, lim, big, y2.1, hi2, c1, c2]) | ((with_reducible refine And.intro ?_ ?_); · omega))))
        rw [if_neg (fun z => c2 z.2)] at gs
        exact fin h2 _ ⟨.look, some m, seen, wares, at_ + 1, 0⟩ K2 x2 y2 rfl rfl gs
    · ((try simp [-sSeq, -dat_ref, sSeqK, small, lim, big, y2.1, hi2, c1]); (repeat (first | ((with_reducible refine kont_go ?_); try simp [-sSeq, -dat_ref, sSeqK, small, lim, big, y2.1, hi2, c1]) | ((with_reducible refine And.intro ?_ ?_); · omega))))
      rw [if_neg (fun z => c1 z.1)] at gs
      exact fin h2 _ ⟨.look, some m, seen, wares, at_ + 1, 0⟩ K2 x2 y2 rfl rfl gs
theorem gstep_seen {b : Bd} {v : Gv} (h : v.here ≠ .marks) : (gstep b v).2.seen = v.seen := by
  unfold gstep Gv.goOn
  dsimp only
  split <;> first | rfl | (split <;> first | rfl | (dsimp only; split <;> rfl)) | (rename_i e; exact absurd e h)
theorem giver_step {h : MH} {i b k s w : Nat} {bd : Bd} {v : Gv} {Q : QV} {E : QX} (o : bd.ok) (x : BoardAt h b k bd) (y : GiverAt h i b s w v) (ok : GOk bd v)
    (q : ∀ h', BoardAt h' b k (gstep bd v).1 → GiverAt h' i b s w (gstep bd v).2 → Kx (SH b k 11 i s) h h' → Q (.bl (!v.rests)) h') : F_Giver_step [.ref 11 i] h Q E := by
  have n2 := o.n2
  have n8 := o.n8
  ((try simp [-sSeq, -dat_ref, sSeqK, small, lim, big, F_Giver_step_eq, y.1]); (repeat (first | ((with_reducible refine kont_go ?_); try simp [-sSeq, -dat_ref, sSeqK, small, lim, big, F_Giver_step_eq, y.1]) | ((with_reducible refine And.intro ?_ ?_); · omega))))
  refine rests_spec y ?_
  by_cases r : v.rests = true
  · rw [r] at q ⊢
    ((try simp [-sSeq, -dat_ref, sSeqK, small, lim, big]); (repeat (first | ((with_reducible refine kont_go ?_); try simp [-sSeq, -dat_ref, sSeqK, small, lim, big]) | ((with_reducible refine And.intro ?_ ?_); · omega))))
    rw [gstep_rests r] at q
    exact q h x y (Kx.refl _ _)
  · have r : v.rests = false := by simpa using r
    rw [r] at q ⊢
    have q : ∀ h', BoardAt h' b k (gstep bd v).1 → GiverAt h' i b s w (gstep bd v).2 → Kx (SH b k 11 i s) h h' → Q (.bl true) h' := q
    ((try simp [-sSeq, -dat_ref, sSeqK, small, lim, big]); (repeat (first | ((with_reducible refine kont_go ?_); try simp [-sSeq, -dat_ref, sSeqK, small, lim, big]) | ((with_reducible refine And.intro ?_ ?_); · omega))))
    have refs := y.2.2
    have yk : ∀ (h' : MH) (v' : Gv), rd h' 11 i = some (gInst b s w v') → Kx (SI b k 11 i) h h' → v'.seen = v.seen → v'.wares = v.wares → GiverAt h' i b s w v' := fun h' v' z K e1 e2 => by
      obtain ⟨rf, r1, r2⟩ := y.2.2
      exact ⟨z, by rw [e1]; exact K.rd y.2.1 (by decide) (by simp [SI]), rf, K.rd r1 (by decide) (by simp [SI]), by rw [e2]; exact r2.kx K (by decide) (by simp [SI])⟩
    obtain ⟨here, spot, seen, wares, at_, part⟩ := v
    cases here
    case rouse =>
      ((try simp [-sSeq, -dat_ref, sSeqK, small, lim, big, y.1, inB]); (repeat (first | ((with_reducible refine kont_go ?_); try simp [-sSeq, -dat_ref, sSeqK, small, lim, big, y.1, inB]) | ((with_reducible refine And.intro ?_ ?_); · omega))))
      refine rise_spec (t := false) (here := .rouse) (Or.inl rfl) o x y.1 y.2.1 .rouse ok (by simp) fun h' x' z' K' => ?_
      ((try simp [-sSeq, -dat_ref, sSeqK, small, lim, big]); (repeat (first | ((with_reducible refine kont_go ?_); try simp [-sSeq, -dat_ref, sSeqK, small, lim, big]) | ((with_reducible refine And.intro ?_ ?_); · omega))))
      exact q h' x' (yk h' ⟨.clear, spot, seen, wares, at_, part⟩ z' K' rfl rfl) (K'.mono si_sh)
    case clear =>
      ((try simp [-sSeq, -dat_ref, sSeqK, small, lim, big, y.1, inB]); (repeat (first | ((with_reducible refine kont_go ?_); try simp [-sSeq, -dat_ref, sSeqK, small, lim, big, y.1, inB]) | ((with_reducible refine And.intro ?_ ?_); · omega))))
      refine rise_spec (t := false) (here := .clear) (Or.inl rfl) o x y.1 y.2.1 .clear ok (by simp) fun h' x' z' K' => ?_
      ((try simp [-sSeq, -dat_ref, sSeqK, small, lim, big]); (repeat (first | ((with_reducible refine kont_go ?_); try simp [-sSeq, -dat_ref, sSeqK, small, lim, big]) | ((with_reducible refine And.intro ?_ ?_); · omega))))
      exact q h' x' (yk h' ⟨.mute, spot, seen, wares, at_, part⟩ z' K' rfl rfl) (K'.mono si_sh)
    case mute =>
      ((try simp [-sSeq, -dat_ref, sSeqK, small, lim, big, y.1, inB]); (repeat (first | ((with_reducible refine kont_go ?_); try simp [-sSeq, -dat_ref, sSeqK, small, lim, big, y.1, inB]) | ((with_reducible refine And.intro ?_ ?_); · omega))))
      refine rise_spec (t := false) (here := .mute) (Or.inl rfl) o x y.1 y.2.1 .mute ok (by simp) fun h' x' z' K' => ?_
      ((try simp [-sSeq, -dat_ref, sSeqK, small, lim, big]); (repeat (first | ((with_reducible refine kont_go ?_); try simp [-sSeq, -dat_ref, sSeqK, small, lim, big]) | ((with_reducible refine And.intro ?_ ?_); · omega))))
      exact q h' x' (yk h' ⟨.marks, spot, seen, wares, at_, part⟩ z' K' rfl rfl) (K'.mono si_sh)
    case marks =>
      obtain ⟨ok1, ok2⟩ := ok
      have ok1 : seen.length < bd.size := ok1
      ((try simp [-sSeq, -dat_ref, sSeqK, small, lim, big, y.1, inB]); (repeat (first | ((with_reducible refine kont_go ?_); try simp [-sSeq, -dat_ref, sSeqK, small, lim, big, y.1, inB]) | ((with_reducible refine And.intro ?_ ?_); · omega))))
      refine rise_marks (t := false) (Or.inl rfl) o x y.1 y.2.1 ok1 fun h' x' z' s' K' => ?_
      have y' : GiverAt h' i b s w ⟨.marks, spot, seen ++ [bd.at_ (4 * seen.length)], wares, at_, part⟩ := by
        obtain ⟨rf, r1, r2⟩ := y.2.2
        exact ⟨z', s', rf, K'.rd r1 (by decide) (by simp [SH]), r2.kx K' (by decide) (by simp [SH])⟩
      by_cases c : seen.length + 1 = bd.size
      · obtain ⟨t, ht⟩ := ok2 c
        have ht : giverF (seen ++ [bd.at_ (4 * seen.length)]) = .inr (t : Int) := ht
        have gs : gstep bd ⟨.marks, spot, seen, wares, at_, part⟩ = (bd.rdd (4 * seen.length), ⟨.told, some t, seen ++ [bd.at_ (4 * seen.length)], wares, at_, part⟩) := by
          unfold gstep
          simp only
          rw [if_pos c, ht]; simp [turnOf]
        rw [gs] at q
        ((try simp [-sSeq, -dat_ref, sSeqK, small, lim, big, c, y'.1]); (repeat (first | ((with_reducible refine kont_go ?_); try simp [-sSeq, -dat_ref, sSeqK, small, lim, big, c, y'.1]) | ((with_reducible refine And.intro ?_ ?_); · omega))))
        refine giver_spec ⟨22, s, by decide, rfl, y'.2.1⟩ (fun t' e h2 G2 k2 => ?_) fun d e => by rw [ht] at e; cases e
        rw [ht] at e
        cases e
        have G2 := gr_of G2 k2
        have x2 := x'.gr G2
        have y2 : GiverAt h2 i b s w ⟨.marks, spot, seen ++ [bd.at_ (4 * seen.length)], wares, at_, part⟩ := by
          obtain ⟨rf, r1, r2⟩ := y'.2.2
          exact ⟨G2.rd y'.1, G2.rd y'.2.1, rf, G2.rd r1, r2.gr G2 (by decide)⟩
        have hi2 := rd_lt y2.1
        ((try simp [-sSeq, -dat_ref, sSeqK, small, lim, big, y2.1, hi2]); (repeat (first | ((with_reducible refine kont_go ?_); try simp [-sSeq, -dat_ref, sSeqK, small, lim, big, y2.1, hi2]) | ((with_reducible refine And.intro ?_ ?_); · omega))))
        generalize hh : put h2 11 _ = h3
        obtain ⟨y3, K3⟩ := gset (v' := ⟨.told, some t, seen ++ [bd.at_ (4 * seen.length)], wares, at_, part⟩) y2 hh rfl rfl
        exact q h3 (x2.ke K3 (by decide) (by decide)) y3 ((K'.trans (G2.x _)).trans (K3.x (Or.inr (Or.inr (Or.inl ⟨rfl, rfl⟩)))))
      · have gs : gstep bd ⟨.marks, spot, seen, wares, at_, part⟩ = (bd.rdd (4 * seen.length), ⟨.marks, spot, seen ++ [bd.at_ (4 * seen.length)], wares, at_, part⟩) := by
          unfold gstep
          simp only
          rw [if_neg c]
        rw [gs] at q
        ((try simp [-sSeq, -dat_ref, sSeqK, small, lim, big, c]); (repeat (first | ((with_reducible refine kont_go ?_); try simp [-sSeq, -dat_ref, sSeqK, small, lim, big, c]) | ((with_reducible refine And.intro ?_ ?_); · omega))))
        exact q h' x' y' K'
    case wish =>
      obtain ⟨m, hs, hm⟩ := ok
      have hs : spot = some m := hs
      subst hs
      ((try simp [-sSeq, -dat_ref, sSeqK, small, lim, big, y.1, inB]); (repeat (first | ((with_reducible refine kont_go ?_); try simp [-sSeq, -dat_ref, sSeqK, small, lim, big, y.1, inB]) | ((with_reducible refine And.intro ?_ ?_); · omega))))
      refine wait_g (here := .wish) o hm x y.1 .wish (by simp) fun h' x' z' K' => ?_
      ((try simp [-sSeq, -dat_ref, sSeqK, small, lim, big]); (repeat (first | ((with_reducible refine kont_go ?_); try simp [-sSeq, -dat_ref, sSeqK, small, lim, big]) | ((with_reducible refine And.intro ?_ ?_); · omega))))
      exact q h' x' (yk h' ⟨.again, some m, seen, wares, at_, part⟩ z' K' rfl rfl) (K'.mono si_sh)
    case again =>
      obtain ⟨m, hs, hm⟩ := ok
      have hs : spot = some m := hs
      subst hs
      ((try simp [-sSeq, -dat_ref, sSeqK, small, lim, big, y.1, inB]); (repeat (first | ((with_reducible refine kont_go ?_); try simp [-sSeq, -dat_ref, sSeqK, small, lim, big, y.1, inB]) | ((with_reducible refine And.intro ?_ ?_); · omega))))
      refine wait_g (here := .again) o hm x y.1 .again (by simp) fun h' x' z' K' => ?_
      ((try simp [-sSeq, -dat_ref, sSeqK, small, lim, big]); (repeat (first | ((with_reducible refine kont_go ?_); try simp [-sSeq, -dat_ref, sSeqK, small, lim, big]) | ((with_reducible refine And.intro ?_ ?_); · omega))))
      by_cases c : mayG bd.size m (bd.at_ (4 * (m % bd.size))) = true
      · have gs : gstep bd ⟨.again, some m, seen, wares, at_, part⟩ = (bd.rdd (4 * (m % bd.size)), ⟨.unwish, some m, seen, wares, at_, part⟩) := by
          unfold gstep
          simp only [Option.getD_some]
          rw [if_pos c]
        rw [gs] at q
        rw [if_pos (show (if false = true then mayT bd.size m (bd.at_ (4 * (m % bd.size))) else mayG bd.size m (bd.at_ (4 * (m % bd.size)))) = true from c)] at z'
        exact q h' x' (yk h' ⟨.unwish, some m, seen, wares, at_, part⟩ z' K' rfl rfl) (K'.mono si_sh)
      · have gs : gstep bd ⟨.again, some m, seen, wares, at_, part⟩ = (bd.rdd (4 * (m % bd.size)), ⟨.sleep, some m, seen, wares, at_, part⟩) := by
          unfold gstep
          simp only [Option.getD_some]
          rw [if_neg c]
        rw [gs] at q
        rw [if_neg (show ¬ (if false = true then mayT bd.size m (bd.at_ (4 * (m % bd.size))) else mayG bd.size m (bd.at_ (4 * (m % bd.size)))) = true from c)] at z'
        exact q h' x' (yk h' ⟨.sleep, some m, seen, wares, at_, part⟩ z' K' rfl rfl) (K'.mono si_sh)
    case sleep =>
      obtain ⟨m, hs, hm⟩ := ok
      have hs : spot = some m := hs
      subst hs
      ((try simp [-sSeq, -dat_ref, sSeqK, small, lim, big, y.1, inB]); (repeat (first | ((with_reducible refine kont_go ?_); try simp [-sSeq, -dat_ref, sSeqK, small, lim, big, y.1, inB]) | ((with_reducible refine And.intro ?_ ?_); · omega))))
      refine wait_g (here := .sleep) o hm x y.1 .sleep (by simp) fun h' x' z' K' => ?_
      ((try simp [-sSeq, -dat_ref, sSeqK, small, lim, big]); (repeat (first | ((with_reducible refine kont_go ?_); try simp [-sSeq, -dat_ref, sSeqK, small, lim, big]) | ((with_reducible refine And.intro ?_ ?_); · omega))))
      by_cases c : bd.at_ (bellI bd.size false) = 0
      · have gs : gstep bd ⟨.sleep, some m, seen, wares, at_, part⟩ = (bd.rdd (bellI bd.size false), ⟨.sleep, some m, seen, wares, at_, part⟩) := by
          unfold gstep
          simp only
          rw [if_pos c]
        rw [gs] at q
        rw [if_pos c] at z'
        exact q h' x' (yk h' ⟨.sleep, some m, seen, wares, at_, part⟩ z' K' rfl rfl) (K'.mono si_sh)
      · have gs : gstep bd ⟨.sleep, some m, seen, wares, at_, part⟩ = (bd.rdd (bellI bd.size false), ⟨.hush, some m, seen, wares, at_, part⟩) := by
          unfold gstep
          simp only
          rw [if_neg c]
        rw [gs] at q
        rw [if_neg c] at z'
        exact q h' x' (yk h' ⟨.hush, some m, seen, wares, at_, part⟩ z' K' rfl rfl) (K'.mono si_sh)
    case hush =>
      obtain ⟨m, hs, hm⟩ := ok
      have hs : spot = some m := hs
      subst hs
      ((try simp [-sSeq, -dat_ref, sSeqK, small, lim, big, y.1, inB]); (repeat (first | ((with_reducible refine kont_go ?_); try simp [-sSeq, -dat_ref, sSeqK, small, lim, big, y.1, inB]) | ((with_reducible refine And.intro ?_ ?_); · omega))))
      refine wait_g (here := .hush) o hm x y.1 .hush (by simp) fun h' x' z' K' => ?_
      ((try simp [-sSeq, -dat_ref, sSeqK, small, lim, big]); (repeat (first | ((with_reducible refine kont_go ?_); try simp [-sSeq, -dat_ref, sSeqK, small, lim, big]) | ((with_reducible refine And.intro ?_ ?_); · omega))))
      exact q h' x' (yk h' ⟨.unwish, some m, seen, wares, at_, part⟩ z' K' rfl rfl) (K'.mono si_sh)
    case unwish =>
      obtain ⟨m, hs, hm⟩ := ok
      have hs : spot = some m := hs
      subst hs
      ((try simp [-sSeq, -dat_ref, sSeqK, small, lim, big, y.1, inB]); (repeat (first | ((with_reducible refine kont_go ?_); try simp [-sSeq, -dat_ref, sSeqK, small, lim, big, y.1, inB]) | ((with_reducible refine And.intro ?_ ?_); · omega))))
      refine wait_g (here := .unwish) o hm x y.1 .unwish (by simp) fun h' x' z' K' => ?_
      ((try simp [-sSeq, -dat_ref, sSeqK, small, lim, big]); (repeat (first | ((with_reducible refine kont_go ?_); try simp [-sSeq, -dat_ref, sSeqK, small, lim, big]) | ((with_reducible refine And.intro ?_ ?_); · omega))))
      exact q h' x' (yk h' ⟨.look, some m, seen, wares, at_, part⟩ z' K' rfl rfl) (K'.mono si_sh)
    case told =>
      ((try simp [-sSeq, -dat_ref, sSeqK, small, lim, big, y.1, inB]); (repeat (first | ((with_reducible refine kont_go ?_); try simp [-sSeq, -dat_ref, sSeqK, small, lim, big, y.1, inB]) | ((with_reducible refine And.intro ?_ ?_); · omega))))
      refine remember_spec o x y ok (by simp) fun h' x' y' K' => ?_
      ((try simp [-sSeq, -dat_ref, sSeqK, small, lim, big]); (repeat (first | ((with_reducible refine kont_go ?_); try simp [-sSeq, -dat_ref, sSeqK, small, lim, big]) | ((with_reducible refine And.intro ?_ ?_); · omega))))
      exact q h' x' y' (K'.mono si_sh)
    case lacks =>
      ((try simp [-sSeq, -dat_ref, sSeqK, small, lim, big, y.1, inB]); (repeat (first | ((with_reducible refine kont_go ?_); try simp [-sSeq, -dat_ref, sSeqK, small, lim, big, y.1, inB]) | ((with_reducible refine And.intro ?_ ?_); · omega))))
      refine remember_spec o x y ok (by simp) fun h' x' y' K' => ?_
      ((try simp [-sSeq, -dat_ref, sSeqK, small, lim, big]); (repeat (first | ((with_reducible refine kont_go ?_); try simp [-sSeq, -dat_ref, sSeqK, small, lim, big]) | ((with_reducible refine And.intro ?_ ?_); · omega))))
      exact q h' x' y' (K'.mono si_sh)
    case look =>
      ((try simp [-sSeq, -dat_ref, sSeqK, small, lim, big, y.1, inB]); (repeat (first | ((with_reducible refine kont_go ?_); try simp [-sSeq, -dat_ref, sSeqK, small, lim, big, y.1, inB]) | ((with_reducible refine And.intro ?_ ?_); · omega))))
      refine give_spec o x y ok (by first | exact Or.inl ⟨rfl, r⟩ | simp) fun h' x' y' K' => ?_
      ((try simp [-sSeq, -dat_ref, sSeqK, small, lim, big]); (repeat (first | ((with_reducible refine kont_go ?_); try simp [-sSeq, -dat_ref, sSeqK, small, lim, big]) | ((with_reducible refine And.intro ?_ ?_); · omega))))
      exact q h' x' y' (K'.mono si_sh)
    case number =>
      ((try simp [-sSeq, -dat_ref, sSeqK, small, lim, big, y.1, inB]); (repeat (first | ((with_reducible refine kont_go ?_); try simp [-sSeq, -dat_ref, sSeqK, small, lim, big, y.1, inB]) | ((with_reducible refine And.intro ?_ ?_); · omega))))
      refine give_spec o x y ok (by first | exact Or.inl ⟨rfl, r⟩ | simp) fun h' x' y' K' => ?_
      ((try simp [-sSeq, -dat_ref, sSeqK, small, lim, big]); (repeat (first | ((with_reducible refine kont_go ?_); try simp [-sSeq, -dat_ref, sSeqK, small, lim, big]) | ((with_reducible refine And.intro ?_ ?_); · omega))))
      exact q h' x' y' (K'.mono si_sh)
    case left =>
      ((try simp [-sSeq, -dat_ref, sSeqK, small, lim, big, y.1, inB]); (repeat (first | ((with_reducible refine kont_go ?_); try simp [-sSeq, -dat_ref, sSeqK, small, lim, big, y.1, inB]) | ((with_reducible refine And.intro ?_ ?_); · omega))))
      refine give_spec o x y ok (by first | exact Or.inl ⟨rfl, r⟩ | simp) fun h' x' y' K' => ?_
      ((try simp [-sSeq, -dat_ref, sSeqK, small, lim, big]); (repeat (first | ((with_reducible refine kont_go ?_); try simp [-sSeq, -dat_ref, sSeqK, small, lim, big]) | ((with_reducible refine And.intro ?_ ?_); · omega))))
      exact q h' x' y' (K'.mono si_sh)
    case thing =>
      ((try simp [-sSeq, -dat_ref, sSeqK, small, lim, big, y.1, inB]); (repeat (first | ((with_reducible refine kont_go ?_); try simp [-sSeq, -dat_ref, sSeqK, small, lim, big, y.1, inB]) | ((with_reducible refine And.intro ?_ ?_); · omega))))
      refine give_spec o x y ok (by first | exact Or.inl ⟨rfl, r⟩ | simp) fun h' x' y' K' => ?_
      ((try simp [-sSeq, -dat_ref, sSeqK, small, lim, big]); (repeat (first | ((with_reducible refine kont_go ?_); try simp [-sSeq, -dat_ref, sSeqK, small, lim, big]) | ((with_reducible refine And.intro ?_ ?_); · omega))))
      exact q h' x' y' (K'.mono si_sh)
    case mark =>
      ((try simp [-sSeq, -dat_ref, sSeqK, small, lim, big, y.1, inB]); (repeat (first | ((with_reducible refine kont_go ?_); try simp [-sSeq, -dat_ref, sSeqK, small, lim, big, y.1, inB]) | ((with_reducible refine And.intro ?_ ?_); · omega))))
      refine give_spec o x y ok (by first | exact Or.inl ⟨rfl, r⟩ | simp) fun h' x' y' K' => ?_
      ((try simp [-sSeq, -dat_ref, sSeqK, small, lim, big]); (repeat (first | ((with_reducible refine kont_go ?_); try simp [-sSeq, -dat_ref, sSeqK, small, lim, big]) | ((with_reducible refine And.intro ?_ ?_); · omega))))
      exact q h' x' y' (K'.mono si_sh)
    case card =>
      ((try simp [-sSeq, -dat_ref, sSeqK, small, lim, big, y.1, inB]); (repeat (first | ((with_reducible refine kont_go ?_); try simp [-sSeq, -dat_ref, sSeqK, small, lim, big, y.1, inB]) | ((with_reducible refine And.intro ?_ ?_); · omega))))
      refine give_spec o x y ok (by first | exact Or.inl ⟨rfl, r⟩ | simp) fun h' x' y' K' => ?_
      ((try simp [-sSeq, -dat_ref, sSeqK, small, lim, big]); (repeat (first | ((with_reducible refine kont_go ?_); try simp [-sSeq, -dat_ref, sSeqK, small, lim, big]) | ((with_reducible refine And.intro ?_ ?_); · omega))))
      exact q h' x' y' (K'.mono si_sh)
    case ring =>
      ((try simp [-sSeq, -dat_ref, sSeqK, small, lim, big, y.1, inB]); (repeat (first | ((with_reducible refine kont_go ?_); try simp [-sSeq, -dat_ref, sSeqK, small, lim, big, y.1, inB]) | ((with_reducible refine And.intro ?_ ?_); · omega))))
      refine give_spec o x y ok (by first | exact Or.inl ⟨rfl, r⟩ | simp) fun h' x' y' K' => ?_
      ((try simp [-sSeq, -dat_ref, sSeqK, small, lim, big]); (repeat (first | ((with_reducible refine kont_go ?_); try simp [-sSeq, -dat_ref, sSeqK, small, lim, big]) | ((with_reducible refine And.intro ?_ ?_); · omega))))
      exact q h' x' y' (K'.mono si_sh)
    case free => exact ok.elim
end Mi
end TxSGiver

section TxSTaker
set_option autoImplicit false
set_option linter.all false
set_option maxRecDepth 100000
set_option maxHeartbeats 4000000
namespace Mi
abbrev tInst (b s w p : Nat) (u : Tk) : MO := .ins "Taker" (hdF b true u.here.name (spotV u.spot) s [("taken", .ref 23 w), ("early", spotV u.early), ("number", .int u.number), ("left", .int u.left), ("parts", .ref 24 p)])
theorem tset {h h' : MH} {i b s w p : Nat} {u u' : Tk} (y : TakerAt h i b s w p u) (e : put h 12 ((h 12).set i (tInst b s w p u')) = h') (hs : u'.seen = u.seen) (hw : u'.taken = u.taken) (hp : u'.parts = u.parts) : TakerAt h' i b s w p u' ∧ Ke 12 i h h' := by
  obtain ⟨K, z⟩ := set_of e y.1 (by decide)
  obtain ⟨refs, r1, r2⟩ := y.2.2.1
  exact ⟨⟨z, by rw [hs]; exact K.rd y.2.1, ⟨refs, K.rd r1, by rw [hw]; exact r2.kx (K.x (S := fun q j => q = 12) rfl) (by decide) (by simp)⟩, by rw [hp]; exact K.rd y.2.2.2⟩, K⟩
theorem TakerAt.kx {S : Nat → Nat → Prop} {h h' : MH} {i b s w p : Nat} {u : Tk} (y : TakerAt h i b s w p u) (g : Kx S h h') (h1 : ¬ S 12 i) (h2 : ¬ S 22 s) (h3 : ¬ S 23 w) (h5 : ¬ S 24 p) (h4 : ∀ j, ¬ S 26 j) : TakerAt h' i b s w p u := by
  obtain ⟨refs, r1, r2⟩ := y.2.2.1
  exact ⟨g.rd y.1 (by decide) h1, g.rd y.2.1 (by decide) h2, ⟨refs, g.rd r1 (by decide) h3, r2.kx g (by decide) h4⟩, g.rd y.2.2.2 (by decide) h5⟩
theorem TakerAt.sb {h h' : MH} {i b s w p k : Nat} {u : Tk} (y : TakerAt h i b s w p u) (g : Kx (SB b k) h h') : TakerAt h' i b s w p u := y.kx g (by simp [SB]) (by simp [SB]) (by simp [SB]) (by simp [SB]) (by simp [SB])
theorem TakerAt.gr {h h' : MH} {i b s w p : Nat} {u : Tk} (y : TakerAt h i b s w p u) (g : Gr h h') : TakerAt h' i b s w p u := y.kx (g.x fun _ _ => False) (fun z => z) (fun z => z) (fun z => z) (fun z => z) fun _ z => z
theorem GiverAt.gr {h h' : MH} {i b s w : Nat} {v : Gv} (y : GiverAt h i b s w v) (g : Gr h h') : GiverAt h' i b s w v := y.kx (g.x fun _ _ => False) (fun z => z) (fun z => z) (fun z => z) fun _ z => z
/-- what a step of the taker may change -/
def ST (b k i s w p : Nat) : Nat → Nat → Prop := fun q j => (q = 10 ∧ j = b) ∨ (q = 20 ∧ j = k) ∨ (q = 12 ∧ j = i) ∨ (q = 22 ∧ j = s) ∨ (q = 23 ∧ j = w) ∨ (q = 24 ∧ j = p)
theorem sb_st {b k i s w p : Nat} : ∀ q j, SB b k q j → ST b k i s w p q j := fun q j h => by
  rcases h with h | h
  · exact Or.inl h
  · exact Or.inr (Or.inl h)
theorem si_st {b k i s w p : Nat} : ∀ q j, SI b k 12 i q j → ST b k i s w p q j := fun q j h => by
  rcases h with h | h | h
  · exact Or.inl h
  · exact Or.inr (Or.inl h)
  · exact Or.inr (Or.inr (Or.inl h))
theorem sh_st {b k i s w p : Nat} : ∀ q j, SH b k 12 i s q j → ST b k i s w p q j := fun q j h => by
  rcases h with h | h | h | h
  · exact Or.inl h
  · exact Or.inr (Or.inl h)
  · exact Or.inr (Or.inr (Or.inl h))
  · exact Or.inr (Or.inr (Or.inr (Or.inl h)))
def TOk (b : Bd) (u : Tk) : Prop := match u.here with
  | .rouse | .clear | .mute => u.seen.length ≠ b.size
  | .marks => u.seen.length < b.size ∧ (u.seen.length + 1 = b.size → ∃ t : Nat, takerF (u.seen ++ [b.at_ (4 * u.seen.length)]) = .inr (t : Int))
  | .wish | .again | .sleep | .hush | .unwish | .look | .number | .left => Tn b.size u.spot
  | .thing => Tn b.size u.spot ∧ u.parts.length < 1000 ∧ u.taken.length < 100000
  | .free | .card | .ring => Tn b.size u.early ∧ Tn b.size u.spot
  | _ => False
theorem put_shadow (h : MH) {r q : Nat} (l m l' : List MO) (e : q ≠ r) : put (put (put h r l) q m) r l' = put (put h q m) r l' := by
  funext p; unfold put
  by_cases c : p = r
  · simp only [c, if_true]
  · by_cases d : p = q
    · simp only [c, d, if_true, if_false]
    · simp only [c, d, if_false]
theorem freed_spec {h : MH} {i b k s w p e m : Nat} {bd : Bd} {u : Tk} {Q : QV} {E : QX} (o : bd.ok) (he : u.early = some e) (el : e < 2 * bd.size) (hm : u.spot = some m) (x : BoardAt h b k bd) (y : TakerAt h i b s w p u)
    (q : ∀ h' p', (p' = p ∨ (h 24).length ≤ p') → BoardAt h' b k bd → TakerAt h' i b s w p' (u.freed bd.size) → Kx (SI b k 12 i) h h' → Q .non h') : F_Taker_freed [.ref 12 i] h Q E := by
  have n2 := o.n2
  have n8 := o.n8
  have hi := rd_lt y.1
  obtain ⟨here, spot, seen, taken, early, number, left, parts⟩ := u
  have he : early = some e := he
  have hm : spot = some m := hm
  subst he hm
  have hcast : ((e : Int) + 1) % (2 * (bd.size : Int)) = (((e + 1) % (2 * bd.size) : Nat) : Int) := by push_cast; rfl
  ((try simp [-sSeq, -dat_ref, sSeqK, small, lim, big, F_Taker_freed_eq, y.1, x.1, hi]); (repeat (first | ((with_reducible refine kont_go ?_); try simp [-sSeq, -dat_ref, sSeqK, small, lim, big, F_Taker_freed_eq, y.1, x.1, hi]) | ((with_reducible refine And.intro ?_ ?_); · omega))))
  refine onward_ok (by omega) (by omega) (by omega) (by omega) ?_
  by_cases c : e = m
  · subst c
    rw [hcast]
    ((try simp [-sSeq, -dat_ref, sSeqK, small, lim, big, y.1, x.1, hi]); (repeat (first | ((with_reducible refine kont_go ?_); try simp [-sSeq, -dat_ref, sSeqK, small, lim, big, y.1, x.1, hi]) | ((with_reducible refine And.intro ?_ ?_); · omega))))
    rw [put_shadow _ _ _ _ (by decide), hcast]
    have e12 : h 12 = (put h 24 (h 24 ++ [.lst []])) 12 := (put_ne _ _ (by decide)).symm
    rw [e12]
    (try dsimp only); generalize hh : put h 24 _ = h2 at *; obtain ⟨G2, z2⟩ := new_of hh (by decide); clear hh
    have y2 := y.gr G2
    generalize hh : put h2 12 _ = h3
    obtain ⟨K3, i3⟩ := set_of hh y2.1 (by decide)
    have fr : Tk.freed bd.size ⟨here, some e, seen, taken, some e, number, left, parts⟩ = ⟨.look, some ((e + 1) % (2 * bd.size)), seen, taken, some ((e + 1) % (2 * bd.size)), number, left, []⟩ := by
      unfold Tk.freed
      simp only [Option.getD_some, if_true]
    rw [fr] at q
    obtain ⟨refs, r1, r2⟩ := y2.2.2.1
    exact q h3 (h 24).length (Or.inr (Nat.le_refl _)) ((x.gr G2).ke K3 (by decide) (by decide)) ⟨i3, K3.rd y2.2.1, ⟨refs, K3.rd r1, r2.kx (K3.x (S := fun q j => q = 12) rfl) (by decide) (by simp)⟩, K3.rd z2⟩ ((G2.x _).trans (K3.x (Or.inr (Or.inr ⟨rfl, rfl⟩))))
  · have c' : ¬ (e : Int) = (m : Int) := by omega
    ((try simp [-sSeq, -dat_ref, sSeqK, small, lim, big, y.1, x.1, hi, c']); (repeat (first | ((with_reducible refine kont_go ?_); try simp [-sSeq, -dat_ref, sSeqK, small, lim, big, y.1, x.1, hi, c']) | ((with_reducible refine And.intro ?_ ?_); · omega))))
    rw [hcast]
    generalize hh : put h 12 _ = h2
    obtain ⟨y2, K2⟩ := tset (u' := ⟨.free, some m, seen, taken, some ((e + 1) % (2 * bd.size)), number, left, parts⟩) y hh rfl rfl rfl
    have fr : Tk.freed bd.size ⟨here, some m, seen, taken, some e, number, left, parts⟩ = ⟨.free, some m, seen, taken, some ((e + 1) % (2 * bd.size)), number, left, parts⟩ := by
      unfold Tk.freed
      simp only [Option.getD_some]
      rw [if_neg (fun z => c (Option.some.inj z))]
    rw [fr] at q
    exact q h2 p (Or.inl rfl) (x.ke K2 (by decide) (by decide)) y2 (K2.x (Or.inr (Or.inr ⟨rfl, rfl⟩)))
theorem Bd.ok.rdd {b : Bd} (o : b.ok) (c : Nat) : (b.rdd c).ok := ⟨o.n2, o.n8, o.len, o.mks⟩
theorem Bd.ok.high {b : Bd} (o : b.ok) {c : Nat} (h1 : 4 * b.size ≤ c) (h2 : c < 4 * b.size + 4) (v : Int) : (b.put c v).ok := by
  have hmk : ∀ p, p < b.size → ce (b.put c v).cells (4 * p) = ce b.cells (4 * p) := fun p hp => by
    show ce (b.cells.set _ _) _ = _
    rw [ce_set (by rw [o.len]; exact h2), if_neg (by omega)]
  exact ⟨o.n2, o.n8, by show (b.cells.set _ _).length = _; rw [List.length_set]; exact o.len, fun p hp => by rw [hmk p hp]; exact o.mks p hp⟩
theorem release_spec {h : MH} {i b k s w p : Nat} {bd : Bd} {u : Tk} {Q : QV} {E : QX} (o : bd.ok) (x : BoardAt h b k bd) (y : TakerAt h i b s w p u) (ok : TOk bd u) (hh : u.here = .free ∨ u.here = .card ∨ u.here = .ring)
    (q : ∀ h' p', (p' = p ∨ (h 24).length ≤ p') → BoardAt h' b k (tstep bd u).1 → TakerAt h' i b s w p' (tstep bd u).2 → Kx (SI b k 12 i) h h' → Q .non h') : F_Taker_release [.ref 12 i] h Q E := by
  have n2 := o.n2
  have n8 := o.n8
  have hi := rd_lt y.1
  obtain ⟨here, spot, seen, taken, early, number, left, parts⟩ := u
  have hex : Tn bd.size early ∧ Tn bd.size spot := by
    rcases hh with e | e | e <;> (have e : here = _ := e; subst e; exact ok)
  obtain ⟨⟨e, he, el⟩, ⟨m, hm, ml⟩⟩ := hex
  subst he hm
  have pl : e % bd.size < bd.size := Nat.mod_lt _ (by omega)
  have hcast : (e : Int) % (bd.size : Int) = ((e % bd.size : Nat) : Int) := by push_cast; rfl
  have fin : ∀ (h2 : MH) (bd2 : Bd) (u' : Tk), Kx (SB b k) h h2 → BoardAt h2 b k bd2 → TakerAt h2 i b s w p ⟨here, some m, seen, taken, some e, number, left, parts⟩ → u'.seen = seen → u'.taken = taken → u'.parts = parts → tstep bd ⟨here, some m, seen, taken, some e, number, left, parts⟩ = (bd2, u') → Q .non (put h2 12 ((h2 12).set i (tInst b s w p u'))) := fun h2 bd2 u' K2 x2 y2 e1 e2 e3 e => by
    generalize hh : put h2 12 _ = h3
    obtain ⟨y3, K3⟩ := tset y2 hh e1 e2 e3
    rw [e] at q
    exact q h3 p (Or.inl rfl) (x2.ke K3 (by decide) (by decide)) y3 ((K2.mono sb_si).trans (K3.x (Or.inr (Or.inr ⟨rfl, rfl⟩))))
  have len24 : ∀ h2, Kx (SB b k) h h2 → ∀ p', (p' = p ∨ (h2 24).length ≤ p') → (p' = p ∨ (h 24).length ≤ p') := fun h2 K2 p' hp => by
    rcases hp with hp | hp
    · exact Or.inl hp
    · refine Or.inr (Nat.le_trans ?_ hp)
      cases hl : (h 24).length with
      | zero => exact Nat.zero_le _
      | succ n =>
        have hn : n < (h 24).length := by omega
        have := K2.rd (q := 24) (j := n) (List.getElem?_eq_getElem hn) (by decide) (by simp [SB])
        exact rd_lt this
  rcases hh with e1 | e1 | e1 <;> (have e1 : here = _ := e1; subst e1)
  · ((try simp [-sSeq, -dat_ref, sSeqK, small, lim, big, F_Taker_release_eq, y.1, x.1, hi]); (repeat (first | ((with_reducible refine kont_go ?_); try simp [-sSeq, -dat_ref, sSeqK, small, lim, big, F_Taker_release_eq, y.1, x.1, hi]) | ((with_reducible refine And.intro ?_ ?_); · omega))))
    refine place_ok (by omega) (by omega) (by omega) (by omega) ?_
    refine mark_cell_spec ?_
    ((try simp [-sSeq, -dat_ref, sSeqK, small, lim, big, y.1]); (repeat (first | ((with_reducible refine kont_go ?_); try simp [-sSeq, -dat_ref, sSeqK, small, lim, big, y.1]) | ((with_reducible refine And.intro ?_ ?_); · omega))))
    refine free_v (.ok (by omega) (by omega) (by omega) (by omega)) (fun _ => ?_) fun c z => nomatch z
    rw [hcast, show 4 * ((e % bd.size : Nat) : Int) = ((4 * (e % bd.size) : Nat) : Int) by omega]
    refine write_ok x (by rw [o.len]; omega) fun h2 x2 K2 => ?_
    have y2 := y.sb K2
    ((try simp [-sSeq, -dat_ref, sSeqK, small, lim, big, y2.1]); (repeat (first | ((with_reducible refine kont_go ?_); try simp [-sSeq, -dat_ref, sSeqK, small, lim, big, y2.1]) | ((with_reducible refine And.intro ?_ ?_); · omega))))
    exact fin h2 _ ⟨.card, some m, seen, taken, some e, number, left, parts⟩ K2 x2 y2 rfl rfl rfl (by unfold tstep; simp only; simp)
  · ((try simp [-sSeq, -dat_ref, sSeqK, small, lim, big, F_Taker_release_eq, y.1, x.1, hi]); (repeat (first | ((with_reducible refine kont_go ?_); try simp [-sSeq, -dat_ref, sSeqK, small, lim, big, F_Taker_release_eq, y.1, x.1, hi]) | ((with_reducible refine And.intro ?_ ?_); · omega))))
    refine card_spec (t := false) n2 n8 ?_
    refine read_ok x (o.at (card_lt _ _).2) fun h2 x2 K2 => ?_
    have y2 := y.sb K2
    ((try simp [-sSeq, -dat_ref, sSeqK, small, lim, big, y2.1]); (repeat (first | ((with_reducible refine kont_go ?_); try simp [-sSeq, -dat_ref, sSeqK, small, lim, big, y2.1]) | ((with_reducible refine And.intro ?_ ?_); · omega))))
    refine onward_ok (by omega) (by omega) (by omega) (by omega) ?_
    have ecast : ((e : Int) + bd.size) % (2 * bd.size) = (((e + bd.size) % (2 * bd.size) : Nat) : Int) := by push_cast; rfl
    rw [ecast]
    by_cases c : bd.at_ (cardI bd.size false) = (((e + bd.size) % (2 * bd.size) : Nat) : Int)
    · simp [-sSeq, -dat_ref, sSeqK, small, lim, c]
      have gs : tstep bd ⟨.card, some m, seen, taken, some e, number, left, parts⟩ = (bd.rdd (cardI bd.size false), ⟨.ring, some m, seen, taken, some e, number, left, parts⟩) := by
        unfold tstep
        simp only [Option.getD_some]
        rw [if_pos c]
      have fin2 := fin h2 _ ⟨.ring, some m, seen, taken, some e, number, left, parts⟩ K2 x2 y2 rfl rfl rfl gs
      ((try simp [-sSeq, -dat_ref, sSeqK, small, lim, big, y2.1]); (repeat (first | ((with_reducible refine kont_go ?_); try simp [-sSeq, -dat_ref, sSeqK, small, lim, big, y2.1]) | ((with_reducible refine And.intro ?_ ?_); · omega))))
      exact fin2
    · have gs : tstep bd ⟨.card, some m, seen, taken, some e, number, left, parts⟩ = (bd.rdd (cardI bd.size false), Tk.freed bd.size ⟨.card, some m, seen, taken, some e, number, left, parts⟩) := by
        unfold tstep
        simp only [Option.getD_some]
        rw [if_neg c]
      rw [gs] at q
      simp only [dat_int, eqv_int]
      rw [decide_eq_false c]
      ((try simp [-sSeq, -dat_ref, sSeqK, small, lim, big, y2.1]); (repeat (first | ((with_reducible refine kont_go ?_); try simp [-sSeq, -dat_ref, sSeqK, small, lim, big, y2.1]) | ((with_reducible refine And.intro ?_ ?_); · omega))))
      refine freed_spec (o.rdd _) rfl el rfl x2 y2 fun h3 p' hp x3 y3 K3 => ?_
      ((try simp [-sSeq, -dat_ref, sSeqK, small, lim, big]); (repeat (first | ((with_reducible refine kont_go ?_); try simp [-sSeq, -dat_ref, sSeqK, small, lim, big]) | ((with_reducible refine And.intro ?_ ?_); · omega))))
      exact q h3 p' (len24 h2 K2 p' hp) x3 y3 ((K2.mono sb_si).trans K3)
  · ((try simp [-sSeq, -dat_ref, sSeqK, small, lim, big, F_Taker_release_eq, y.1, x.1, hi]); (repeat (first | ((with_reducible refine kont_go ?_); try simp [-sSeq, -dat_ref, sSeqK, small, lim, big, F_Taker_release_eq, y.1, x.1, hi]) | ((with_reducible refine And.intro ?_ ?_); · omega))))
    refine bell_spec (t := false) n2 n8 ?_
    refine write_ok x (by rw [o.len]; exact (bell_lt _ _).2) fun h2 x2 K2 => ?_
    have y2 := y.sb K2
    ((try simp [-sSeq, -dat_ref, sSeqK, small, lim, big, y2.1]); (repeat (first | ((with_reducible refine kont_go ?_); try simp [-sSeq, -dat_ref, sSeqK, small, lim, big, y2.1]) | ((with_reducible refine And.intro ?_ ?_); · omega))))
    refine freed_spec (o.high (bell_lt _ _).1 (bell_lt _ _).2 1) rfl el rfl x2 y2 fun h3 p' hp x3 y3 K3 => ?_
    ((try simp [-sSeq, -dat_ref, sSeqK, small, lim, big]); (repeat (first | ((with_reducible refine kont_go ?_); try simp [-sSeq, -dat_ref, sSeqK, small, lim, big]) | ((with_reducible refine And.intro ?_ ?_); · omega))))
    exact q h3 p' (len24 h2 K2 p' hp) x3 y3 ((K2.mono sb_si).trans K3)
theorem len_kx {S : Nat → Nat → Prop} {h h' : MH} {r : Nat} (hr : r ≠ 1) (K : Kx S h h') (hs : ∀ j, ¬ S r j) : (h r).length ≤ (h' r).length := by
  cases hl : (h r).length with
  | zero => exact Nat.zero_le _
  | succ n =>
    have hn : n < (h r).length := by omega
    exact rd_lt (K.rd (q := r) (j := n) (List.getElem?_eq_getElem hn) hr (hs n))
theorem put_down_spec {h : MH} {i b k s w p : Nat} {bd : Bd} {u : Tk} {Q : QV} {E : QX} (x : BoardAt h b k bd) (y : TakerAt h i b s w p u) (hl : u.taken.length < 100000)
    (q : ∀ h', BoardAt h' b k bd → TakerAt h' i b s w p (if u.number = u.taken.length then { u with here := .free, taken := u.taken ++ [u.parts] } else { u with here := .free }) → Kx (ST b k i s w p) h h' → Q .non h') : F_Taker_put_down [.ref 12 i] h Q E := by
  have hi := rd_lt y.1
  obtain ⟨here, spot, seen, taken, early, number, left, parts⟩ := u
  obtain ⟨refs, r1, r2⟩ := y.2.2.1
  have rl := r2.length
  have hl : taken.length < 100000 := hl
  simp [-sSeq, -dat_ref, sSeqK, small, lim, F_Taker_put_down_eq, y.1, hi]
  generalize hh : put h 12 _ = h2
  obtain ⟨y2, K2⟩ := tset (u' := ⟨.free, spot, seen, taken, early, number, left, parts⟩) y hh rfl rfl rfl
  have x2 := x.ke K2 (by decide) (by decide)
  have KS : Kx (ST b k i s w p) h h2 := K2.x (Or.inr (Or.inr (Or.inl ⟨rfl, rfl⟩)))
  have r1' := K2.rd r1
  have r2' : Lists h2 26 refs taken := r2.kx (K2.x (S := fun q j => q = 12) rfl) (by decide) (by simp)
  have p2 := y2.2.2.2
  by_cases c : number = (taken.length : Int)
  · have c' : number = (refs.length : Int) := by rw [rl]; exact c
    ((try simp [-sSeq, -dat_ref, sSeqK, small, lim, big, y2.1, r1', c', p2]); (repeat (first | ((with_reducible refine kont_go ?_); try simp [-sSeq, -dat_ref, sSeqK, small, lim, big, y2.1, r1', c', p2]) | ((with_reducible refine And.intro ?_ ?_); · omega))))
    have e23 : (put h2 26 (h2 26 ++ [.lst (parts.map .int)])) 23 = h2 23 := put_ne _ _ (by decide)
    rw [← e23]
    (try dsimp only); generalize hh : put h2 26 _ = h3 at *; obtain ⟨G3, z3⟩ := new_of hh (by decide); clear hh
    have y3 := y2.gr G3
    have r1'' := G3.rd r1'
    have r2'' : Lists h3 26 refs taken := r2'.gr G3 (by decide)
    generalize hh2 : put h3 23 _ = h4
    obtain ⟨K4, z4⟩ := set_of hh2 r1'' (by decide)
    rw [if_pos c] at q
    refine q h4 ((x2.gr G3).ke K4 (by decide) (by decide)) ⟨K4.rd y3.1, K4.rd y3.2.1, ⟨_, z4, ?_⟩, K4.rd y3.2.2.2⟩ ((KS.trans (G3.x _)).trans (K4.x (Or.inr (Or.inr (Or.inr (Or.inr (Or.inl ⟨rfl, rfl⟩)))))))
    have := Lists.snoc z3 r2''
    exact this.kx (K4.x (S := fun q j => q = 23) rfl) (by decide) (by simp)
  · have c' : ¬ number = (refs.length : Int) := by rw [rl]; exact c
    ((try simp [-sSeq, -dat_ref, sSeqK, small, lim, big, y2.1, r1', c']); (repeat (first | ((with_reducible refine kont_go ?_); try simp [-sSeq, -dat_ref, sSeqK, small, lim, big, y2.1, r1', c']) | ((with_reducible refine And.intro ?_ ?_); · omega))))
    rw [if_neg c] at q
    exact q h2 x2 y2 KS
theorem take_spec2 {h : MH} {i b k s w p : Nat} {bd : Bd} {u : Tk} {Q : QV} {E : QX} (o : bd.ok) (x : BoardAt h b k bd) (y : TakerAt h i b s w p u) (ok : TOk bd u) (hh : u.here = .look ∨ u.here = .number ∨ u.here = .left ∨ u.here = .thing)
    (q : ∀ h', BoardAt h' b k (tstep bd u).1 → TakerAt h' i b s w p (tstep bd u).2 → Kx (ST b k i s w p) h h' → Q .non h') : F_Taker_take [.ref 12 i] h Q E := by
  have n2 := o.n2
  have n8 := o.n8
  have hi := rd_lt y.1
  obtain ⟨here, spot, seen, taken, early, number, left, parts⟩ := u
  have hex : Tn bd.size spot := by
    rcases hh with e | e | e | e <;> (have e : here = _ := e; subst e)
    · exact ok
    · exact ok
    · exact ok
    · exact ok.1
  obtain ⟨m, hm, ml⟩ := hex
  subst hm
  have pl : m % bd.size < bd.size := Nat.mod_lt _ (by omega)
  have hcast : (m : Int) % (bd.size : Int) = ((m % bd.size : Nat) : Int) := by push_cast; rfl
  have fin : ∀ (h2 : MH) (bd2 : Bd) (u' : Tk), Kx (SB b k) h h2 → BoardAt h2 b k bd2 → TakerAt h2 i b s w p ⟨here, some m, seen, taken, early, number, left, parts⟩ → u'.seen = seen → u'.taken = taken → u'.parts = parts → tstep bd ⟨here, some m, seen, taken, early, number, left, parts⟩ = (bd2, u') → Q .non (put h2 12 ((h2 12).set i (tInst b s w p u'))) := fun h2 bd2 u' K2 x2 y2 e1 e2 e3 e => by
    generalize hh : put h2 12 _ = h3
    obtain ⟨y3, K3⟩ := tset y2 hh e1 e2 e3
    rw [e] at q
    exact q h3 (x2.ke K3 (by decide) (by decide)) y3 ((K2.mono sb_st).trans (K3.x (Or.inr (Or.inr (Or.inl ⟨rfl, rfl⟩)))))
  ((try simp [-sSeq, -dat_ref, sSeqK, small, lim, big, F_Taker_take_eq, y.1, x.1, hi]); (repeat (first | ((with_reducible refine kont_go ?_); try simp [-sSeq, -dat_ref, sSeqK, small, lim, big, F_Taker_take_eq, y.1, x.1, hi]) | ((with_reducible refine And.intro ?_ ?_); · omega))))
  refine place_ok (by omega) (by omega) (by omega) (by omega) ?_
  rcases hh with e1 | e1 | e1 | e1 <;> (have e1 : here = _ := e1; subst e1)
  · ((try simp [-sSeq, -dat_ref, sSeqK, small, lim, big, y.1, x.1, hi]); (repeat (first | ((with_reducible refine kont_go ?_); try simp [-sSeq, -dat_ref, sSeqK, small, lim, big, y.1, x.1, hi]) | ((with_reducible refine And.intro ?_ ?_); · omega))))
    refine mark_there_spec (Or.inr rfl) o ml x y.1 fun h2 x2 K2 => ?_
    have y2 := y.sb K2
    have mk := o.mks (m % bd.size) pl
    ((try simp [-sSeq, -dat_ref, sSeqK, small, lim, big]); (repeat (first | ((with_reducible refine kont_go ?_); try simp [-sSeq, -dat_ref, sSeqK, small, lim, big]) | ((with_reducible refine And.intro ?_ ?_); · omega))))
    refine may_t (o.rdd _) ml mk.1 mk.2 x2 y2.1 ?_
    generalize hmm : mayT (bd.rdd (4 * (m % bd.size))).size m (bd.at_ (4 * (m % bd.size))) = mm
    have hmm2 : mayT bd.size m (bd.at_ (4 * (m % bd.size))) = mm := hmm
    have gs : tstep bd ⟨.look, some m, seen, taken, early, number, left, parts⟩ = (bd.rdd (4 * (m % bd.size)), if mm = true then ⟨.number, some m, seen, taken, early, number, left, parts⟩ else ⟨.wish, some m, seen, taken, early, number, left, parts⟩) := by
      rw [← hmm2]; rfl
    cases mm with
    | true => ((try simp [-sSeq, -dat_ref, sSeqK, small, lim, big, y2.1]); (repeat (first | ((with_reducible refine kont_go ?_); try simp [-sSeq, -dat_ref, sSeqK, small, lim, big, y2.1]) | ((with_reducible refine And.intro ?_ ?_); · omega)))); exact fin h2 _ ⟨.number, some m, seen, taken, early, number, left, parts⟩ K2 x2 y2 rfl rfl rfl gs
    | false => ((try simp [-sSeq, -dat_ref, sSeqK, small, lim, big, y2.1]); (repeat (first | ((with_reducible refine kont_go ?_); try simp [-sSeq, -dat_ref, sSeqK, small, lim, big, y2.1]) | ((with_reducible refine And.intro ?_ ?_); · omega)))); exact fin h2 _ ⟨.wish, some m, seen, taken, early, number, left, parts⟩ K2 x2 y2 rfl rfl rfl gs
  · ((try simp [-sSeq, -dat_ref, sSeqK, small, lim, big, y.1, x.1, hi]); (repeat (first | ((with_reducible refine kont_go ?_); try simp [-sSeq, -dat_ref, sSeqK, small, lim, big, y.1, x.1, hi]) | ((with_reducible refine And.intro ?_ ?_); · omega))))
    refine number_cell_spec ?_
    rw [hcast, show 4 * ((m % bd.size : Nat) : Int) + 1 = ((4 * (m % bd.size) + 1 : Nat) : Int) by omega]
    refine read_ok x (o.at (by omega)) fun h2 x2 K2 => ?_
    have y2 := y.sb K2
    have hi2 := rd_lt y2.1
    ((try simp [-sSeq, -dat_ref, sSeqK, small, lim, big, y2.1, hi2]); (repeat (first | ((with_reducible refine kont_go ?_); try simp [-sSeq, -dat_ref, sSeqK, small, lim, big, y2.1, hi2]) | ((with_reducible refine And.intro ?_ ?_); · omega))))
    exact fin h2 _ ⟨.left, some m, seen, taken, early, bd.at_ (4 * (m % bd.size) + 1), left, parts⟩ K2 x2 y2 rfl rfl rfl rfl
  · ((try simp [-sSeq, -dat_ref, sSeqK, small, lim, big, y.1, x.1, hi]); (repeat (first | ((with_reducible refine kont_go ?_); try simp [-sSeq, -dat_ref, sSeqK, small, lim, big, y.1, x.1, hi]) | ((with_reducible refine And.intro ?_ ?_); · omega))))
    refine left_cell_spec ?_
    rw [hcast, show 4 * ((m % bd.size : Nat) : Int) + 2 = ((4 * (m % bd.size) + 2 : Nat) : Int) by omega]
    refine read_ok x (o.at (by omega)) fun h2 x2 K2 => ?_
    have y2 := y.sb K2
    have hi2 := rd_lt y2.1
    ((try simp [-sSeq, -dat_ref, sSeqK, small, lim, big, y2.1, hi2]); (repeat (first | ((with_reducible refine kont_go ?_); try simp [-sSeq, -dat_ref, sSeqK, small, lim, big, y2.1, hi2]) | ((with_reducible refine And.intro ?_ ?_); · omega))))
    exact fin h2 _ ⟨.thing, some m, seen, taken, early, number, bd.at_ (4 * (m % bd.size) + 2), parts⟩ K2 x2 y2 rfl rfl rfl rfl
  · obtain ⟨_, ok1, ok2⟩ := ok
    have ok1 : parts.length < 1000 := ok1
    have ok2 : taken.length < 100000 := ok2
    ((try simp [-sSeq, -dat_ref, sSeqK, small, lim, big, y.1, x.1, hi, y.2.2.2]); (repeat (first | ((with_reducible refine kont_go ?_); try simp [-sSeq, -dat_ref, sSeqK, small, lim, big, y.1, x.1, hi, y.2.2.2]) | ((with_reducible refine And.intro ?_ ?_); · omega))))
    refine thing_cell_spec ?_
    rw [hcast, show 4 * ((m % bd.size : Nat) : Int) + 3 = ((4 * (m % bd.size) + 3 : Nat) : Int) by omega]
    refine read_ok x (o.at (by omega)) fun h2 x2 K2 => ?_
    have y2 := y.sb K2
    have p2 := y2.2.2.2
    simp [-sSeq, -dat_ref, sSeqK, small, lim, p2]
    refine ⟨by omega, ?_⟩
    rw [show parts.map MV.int ++ [.int (bd.at_ (4 * (m % bd.size) + 3))] = (parts ++ [bd.at_ (4 * (m % bd.size) + 3)]).map .int by simp]
    generalize hh : put h2 24 _ = h3
    obtain ⟨K3, z3⟩ := set_of hh p2 (by decide)
    obtain ⟨refs, r1, r2⟩ := y2.2.2.1
    have y3 : TakerAt h3 i b s w p ⟨.thing, some m, seen, taken, early, number, left, parts ++ [bd.at_ (4 * (m % bd.size) + 3)]⟩ := ⟨K3.rd y2.1, K3.rd y2.2.1, ⟨refs, K3.rd r1, r2.kx (K3.x (S := fun q j => q = 24) rfl) (by decide) (by simp)⟩, z3⟩
    have x3 : BoardAt h3 b k (bd.rdd (4 * (m % bd.size) + 3)) := x2.ke K3 (by decide) (by decide)
    have KS : Kx (ST b k i s w p) h h3 := (K2.mono sb_st).trans (K3.x (Or.inr (Or.inr (Or.inr (Or.inr (Or.inr ⟨rfl, rfl⟩))))))
    have hi3 := rd_lt y3.1
    by_cases c : 0 < left
    · ((try simp [-sSeq, -dat_ref, sSeqK, small, lim, big, y3.1, hi3, c]); (repeat (first | ((with_reducible refine kont_go ?_); try simp [-sSeq, -dat_ref, sSeqK, small, lim, big, y3.1, hi3, c]) | ((with_reducible refine And.intro ?_ ?_); · omega))))
      refine onward_ok (by omega) (by omega) (by omega) (by omega) ?_
      ((try simp [-sSeq, -dat_ref, sSeqK, small, lim, big, y3.1, hi3]); (repeat (first | ((with_reducible refine kont_go ?_); try simp [-sSeq, -dat_ref, sSeqK, small, lim, big, y3.1, hi3]) | ((with_reducible refine And.intro ?_ ?_); · omega))))
      have mcast : ((m : Int) + 1) % (2 * (bd.size : Int)) = (((m + 1) % (2 * bd.size) : Nat) : Int) := by push_cast; rfl
      rw [mcast]
      generalize hh2 : put h3 12 _ = h4
      obtain ⟨y4, K4⟩ := tset (u' := ⟨.look, some ((m + 1) % (2 * bd.size)), seen, taken, early, number, left, parts ++ [bd.at_ (4 * (m % bd.size) + 3)]⟩) y3 hh2 rfl rfl rfl
      have gs : tstep bd ⟨.thing, some m, seen, taken, early, number, left, parts⟩ = (bd.rdd (4 * (m % bd.size) + 3), ⟨.look, some ((m + 1) % (2 * bd.size)), seen, taken, early, number, left, parts ++ [bd.at_ (4 * (m % bd.size) + 3)]⟩) := by
        unfold tstep
        simp only [Option.getD_some]
        rw [if_pos c]
      rw [gs] at q
      exact q h4 (x3.ke K4 (by decide) (by decide)) y4 (KS.trans (K4.x (Or.inr (Or.inr (Or.inl ⟨rfl, rfl⟩)))))
    · ((try simp [-sSeq, -dat_ref, sSeqK, small, lim, big, y3.1, hi3, c]); (repeat (first | ((with_reducible refine kont_go ?_); try simp [-sSeq, -dat_ref, sSeqK, small, lim, big, y3.1, hi3, c]) | ((with_reducible refine And.intro ?_ ?_); · omega))))
      refine put_down_spec x3 y3 ok2 fun h4 x4 y4 K4 => ?_
      ((try simp [-sSeq, -dat_ref, sSeqK, small, lim, big]); (repeat (first | ((with_reducible refine kont_go ?_); try simp [-sSeq, -dat_ref, sSeqK, small, lim, big]) | ((with_reducible refine And.intro ?_ ?_); · omega))))
      have gs : tstep bd ⟨.thing, some m, seen, taken, early, number, left, parts⟩ = (bd.rdd (4 * (m % bd.size) + 3), if number = (taken.length : Int) then ⟨.free, some m, seen, taken ++ [parts ++ [bd.at_ (4 * (m % bd.size) + 3)]], early, number, left, parts ++ [bd.at_ (4 * (m % bd.size) + 3)]⟩ else ⟨.free, some m, seen, taken, early, number, left, parts ++ [bd.at_ (4 * (m % bd.size) + 3)]⟩) := by
        unfold tstep
        simp only [Option.getD_some]
        rw [if_neg c]
      rw [gs] at q
      exact q h4 x4 y4 (KS.trans K4)
theorem taker_step {h : MH} {i b k s w p : Nat} {bd : Bd} {u : Tk} {Q : QV} {E : QX} (o : bd.ok) (x : BoardAt h b k bd) (y : TakerAt h i b s w p u) (ok : TOk bd u)
    (q : ∀ h' p', (p' = p ∨ (h 24).length ≤ p') → BoardAt h' b k (tstep bd u).1 → TakerAt h' i b s w p' (tstep bd u).2 → Kx (ST b k i s w p) h h' → Q (.bl true) h') : F_Taker_step [.ref 12 i] h Q E := by
  have n2 := o.n2
  have n8 := o.n8
  have yk : ∀ (h' : MH) (u' : Tk), rd h' 12 i = some (tInst b s w p u') → Kx (SI b k 12 i) h h' → u'.seen = u.seen → u'.taken = u.taken → u'.parts = u.parts → TakerAt h' i b s w p u' := fun h' u' z K e1 e2 e3 => by
    obtain ⟨rf, r1, r2⟩ := y.2.2.1
    exact ⟨z, by rw [e1]; exact K.rd y.2.1 (by decide) (by simp [SI]), ⟨rf, K.rd r1 (by decide) (by simp [SI]), by rw [e2]; exact r2.kx K (by decide) (by simp [SI])⟩, by rw [e3]; exact K.rd y.2.2.2 (by decide) (by simp [SI])⟩
  obtain ⟨here, spot, seen, taken, early, number, left, parts⟩ := u
  cases here
  case rouse =>
    ((try simp [-sSeq, -dat_ref, sSeqK, small, lim, big, F_Taker_step_eq, y.1, inB]); (repeat (first | ((with_reducible refine kont_go ?_); try simp [-sSeq, -dat_ref, sSeqK, small, lim, big, F_Taker_step_eq, y.1, inB]) | ((with_reducible refine And.intro ?_ ?_); · omega))))
    refine rise_spec (t := true) (here := .rouse) (Or.inr rfl) o x y.1 y.2.1 .rouse ok (by simp) fun h' x' z' K' => ?_
    ((try simp [-sSeq, -dat_ref, sSeqK, small, lim, big]); (repeat (first | ((with_reducible refine kont_go ?_); try simp [-sSeq, -dat_ref, sSeqK, small, lim, big]) | ((with_reducible refine And.intro ?_ ?_); · omega))))
    exact q h' p (Or.inl rfl) x' (yk h' ⟨.clear, spot, seen, taken, early, number, left, parts⟩ z' K' rfl rfl rfl) (K'.mono si_st)
  case clear =>
    ((try simp [-sSeq, -dat_ref, sSeqK, small, lim, big, F_Taker_step_eq, y.1, inB]); (repeat (first | ((with_reducible refine kont_go ?_); try simp [-sSeq, -dat_ref, sSeqK, small, lim, big, F_Taker_step_eq, y.1, inB]) | ((with_reducible refine And.intro ?_ ?_); · omega))))
    refine rise_spec (t := true) (here := .clear) (Or.inr rfl) o x y.1 y.2.1 .clear ok (by simp) fun h' x' z' K' => ?_
    ((try simp [-sSeq, -dat_ref, sSeqK, small, lim, big]); (repeat (first | ((with_reducible refine kont_go ?_); try simp [-sSeq, -dat_ref, sSeqK, small, lim, big]) | ((with_reducible refine And.intro ?_ ?_); · omega))))
    exact q h' p (Or.inl rfl) x' (yk h' ⟨.mute, spot, seen, taken, early, number, left, parts⟩ z' K' rfl rfl rfl) (K'.mono si_st)
  case mute =>
    ((try simp [-sSeq, -dat_ref, sSeqK, small, lim, big, F_Taker_step_eq, y.1, inB]); (repeat (first | ((with_reducible refine kont_go ?_); try simp [-sSeq, -dat_ref, sSeqK, small, lim, big, F_Taker_step_eq, y.1, inB]) | ((with_reducible refine And.intro ?_ ?_); · omega))))
    refine rise_spec (t := true) (here := .mute) (Or.inr rfl) o x y.1 y.2.1 .mute ok (by simp) fun h' x' z' K' => ?_
    ((try simp [-sSeq, -dat_ref, sSeqK, small, lim, big]); (repeat (first | ((with_reducible refine kont_go ?_); try simp [-sSeq, -dat_ref, sSeqK, small, lim, big]) | ((with_reducible refine And.intro ?_ ?_); · omega))))
    exact q h' p (Or.inl rfl) x' (yk h' ⟨.marks, spot, seen, taken, early, number, left, parts⟩ z' K' rfl rfl rfl) (K'.mono si_st)
  case marks =>
    obtain ⟨ok1, ok2⟩ := ok
    have ok1 : seen.length < bd.size := ok1
    ((try simp [-sSeq, -dat_ref, sSeqK, small, lim, big, F_Taker_step_eq, y.1, inB]); (repeat (first | ((with_reducible refine kont_go ?_); try simp [-sSeq, -dat_ref, sSeqK, small, lim, big, F_Taker_step_eq, y.1, inB]) | ((with_reducible refine And.intro ?_ ?_); · omega))))
    refine rise_marks (t := true) (Or.inr rfl) o x y.1 y.2.1 ok1 fun h' x' z' s' K' => ?_
    have y' : TakerAt h' i b s w p ⟨.marks, spot, seen ++ [bd.at_ (4 * seen.length)], taken, early, number, left, parts⟩ := by
      obtain ⟨rf, r1, r2⟩ := y.2.2.1
      exact ⟨z', s', ⟨rf, K'.rd r1 (by decide) (by simp [SH]), r2.kx K' (by decide) (by simp [SH])⟩, K'.rd y.2.2.2 (by decide) (by simp [SH])⟩
    by_cases c : seen.length + 1 = bd.size
    · obtain ⟨t, ht⟩ := ok2 c
      have ht : takerF (seen ++ [bd.at_ (4 * seen.length)]) = .inr (t : Int) := ht
      have gs : tstep bd ⟨.marks, spot, seen, taken, early, number, left, parts⟩ = (bd.rdd (4 * seen.length), ⟨.look, some t, seen ++ [bd.at_ (4 * seen.length)], taken, some t, number, left, parts⟩) := by
        unfold tstep
        simp only
        rw [if_pos c, ht]; simp [turnOf]
      rw [gs] at q
      ((try simp [-sSeq, -dat_ref, sSeqK, small, lim, big, c, y'.1]); (repeat (first | ((with_reducible refine kont_go ?_); try simp [-sSeq, -dat_ref, sSeqK, small, lim, big, c, y'.1]) | ((with_reducible refine And.intro ?_ ?_); · omega))))
      refine taker_spec ⟨22, s, by decide, rfl, y'.2.1⟩ (fun t' e h2 G2 k2 => ?_) fun d e => by rw [ht] at e; cases e
      rw [ht] at e
      cases e
      have G2 := gr_of G2 k2
      have x2 := x'.gr G2
      have y2 := y'.gr G2
      have hi2 := rd_lt y2.1
      ((try simp [-sSeq, -dat_ref, sSeqK, small, lim, big, y2.1, hi2]); (repeat (first | ((with_reducible refine kont_go ?_); try simp [-sSeq, -dat_ref, sSeqK, small, lim, big, y2.1, hi2]) | ((with_reducible refine And.intro ?_ ?_); · omega))))
      generalize hh : put h2 12 _ = h3
      obtain ⟨y3, K3⟩ := tset (u' := ⟨.look, some t, seen ++ [bd.at_ (4 * seen.length)], taken, some t, number, left, parts⟩) y2 hh rfl rfl rfl
      exact q h3 p (Or.inl rfl) (x2.ke K3 (by decide) (by decide)) y3 (((K'.mono sh_st).trans (G2.x _)).trans (K3.x (Or.inr (Or.inr (Or.inl ⟨rfl, rfl⟩)))))
    · have gs : tstep bd ⟨.marks, spot, seen, taken, early, number, left, parts⟩ = (bd.rdd (4 * seen.length), ⟨.marks, spot, seen ++ [bd.at_ (4 * seen.length)], taken, early, number, left, parts⟩) := by
        unfold tstep
        simp only
        rw [if_neg c]
      rw [gs] at q
      ((try simp [-sSeq, -dat_ref, sSeqK, small, lim, big, c]); (repeat (first | ((with_reducible refine kont_go ?_); try simp [-sSeq, -dat_ref, sSeqK, small, lim, big, c]) | ((with_reducible refine And.intro ?_ ?_); · omega))))
      exact q h' p (Or.inl rfl) x' y' (K'.mono sh_st)
  case wish =>
    obtain ⟨m, hs, hm⟩ := ok
    have hs : spot = some m := hs
    subst hs
    ((try simp [-sSeq, -dat_ref, sSeqK, small, lim, big, F_Taker_step_eq, y.1, inB]); (repeat (first | ((with_reducible refine kont_go ?_); try simp [-sSeq, -dat_ref, sSeqK, small, lim, big, F_Taker_step_eq, y.1, inB]) | ((with_reducible refine And.intro ?_ ?_); · omega))))
    refine wait_t (here := .wish) o hm x y.1 .wish (by simp) fun h' x' z' K' => ?_
    ((try simp [-sSeq, -dat_ref, sSeqK, small, lim, big]); (repeat (first | ((with_reducible refine kont_go ?_); try simp [-sSeq, -dat_ref, sSeqK, small, lim, big]) | ((with_reducible refine And.intro ?_ ?_); · omega))))
    exact q h' p (Or.inl rfl) x' (yk h' ⟨.again, some m, seen, taken, early, number, left, parts⟩ z' K' rfl rfl rfl) (K'.mono si_st)
  case again =>
    obtain ⟨m, hs, hm⟩ := ok
    have hs : spot = some m := hs
    subst hs
    ((try simp [-sSeq, -dat_ref, sSeqK, small, lim, big, F_Taker_step_eq, y.1, inB]); (repeat (first | ((with_reducible refine kont_go ?_); try simp [-sSeq, -dat_ref, sSeqK, small, lim, big, F_Taker_step_eq, y.1, inB]) | ((with_reducible refine And.intro ?_ ?_); · omega))))
    refine wait_t (here := .again) o hm x y.1 .again (by simp) fun h' x' z' K' => ?_
    ((try simp [-sSeq, -dat_ref, sSeqK, small, lim, big]); (repeat (first | ((with_reducible refine kont_go ?_); try simp [-sSeq, -dat_ref, sSeqK, small, lim, big]) | ((with_reducible refine And.intro ?_ ?_); · omega))))
    by_cases c : mayT bd.size m (bd.at_ (4 * (m % bd.size))) = true
    · have gs : tstep bd ⟨.again, some m, seen, taken, early, number, left, parts⟩ = (bd.rdd (4 * (m % bd.size)), ⟨.unwish, some m, seen, taken, early, number, left, parts⟩) := by
        unfold tstep
        simp only [Option.getD_some]
        rw [if_pos c]
      rw [gs] at q
      rw [if_pos (show ((if true = true then mayT bd.size m (bd.at_ (4 * (m % bd.size))) else mayG bd.size m (bd.at_ (4 * (m % bd.size)))) = true) from c)] at z'
      exact q h' p (Or.inl rfl) x' (yk h' ⟨.unwish, some m, seen, taken, early, number, left, parts⟩ z' K' rfl rfl rfl) (K'.mono si_st)
    · have gs : tstep bd ⟨.again, some m, seen, taken, early, number, left, parts⟩ = (bd.rdd (4 * (m % bd.size)), ⟨.sleep, some m, seen, taken, early, number, left, parts⟩) := by
        unfold tstep
        simp only [Option.getD_some]
        rw [if_neg c]
      rw [gs] at q
      rw [if_neg (show ¬ ((if true = true then mayT bd.size m (bd.at_ (4 * (m % bd.size))) else mayG bd.size m (bd.at_ (4 * (m % bd.size)))) = true) from c)] at z'
      exact q h' p (Or.inl rfl) x' (yk h' ⟨.sleep, some m, seen, taken, early, number, left, parts⟩ z' K' rfl rfl rfl) (K'.mono si_st)
  case sleep =>
    obtain ⟨m, hs, hm⟩ := ok
    have hs : spot = some m := hs
    subst hs
    ((try simp [-sSeq, -dat_ref, sSeqK, small, lim, big, F_Taker_step_eq, y.1, inB]); (repeat (first | ((with_reducible refine kont_go ?_); try simp [-sSeq, -dat_ref, sSeqK, small, lim, big, F_Taker_step_eq, y.1, inB]) | ((with_reducible refine And.intro ?_ ?_); · omega))))
    refine wait_t (here := .sleep) o hm x y.1 .sleep (by simp) fun h' x' z' K' => ?_
    ((try simp [-sSeq, -dat_ref, sSeqK, small, lim, big]); (repeat (first | ((with_reducible refine kont_go ?_); try simp [-sSeq, -dat_ref, sSeqK, small, lim, big]) | ((with_reducible refine And.intro ?_ ?_); · omega))))
    by_cases c : bd.at_ (bellI bd.size true) = 0
    · have gs : tstep bd ⟨.sleep, some m, seen, taken, early, number, left, parts⟩ = (bd.rdd (bellI bd.size true), ⟨.sleep, some m, seen, taken, early, number, left, parts⟩) := by
        unfold tstep
        simp only [Option.getD_some]
        rw [if_pos c]
      rw [gs] at q
      rw [if_pos (show (bd.at_ (bellI bd.size true) = 0) from c)] at z'
      exact q h' p (Or.inl rfl) x' (yk h' ⟨.sleep, some m, seen, taken, early, number, left, parts⟩ z' K' rfl rfl rfl) (K'.mono si_st)
    · have gs : tstep bd ⟨.sleep, some m, seen, taken, early, number, left, parts⟩ = (bd.rdd (bellI bd.size true), ⟨.hush, some m, seen, taken, early, number, left, parts⟩) := by
        unfold tstep
        simp only [Option.getD_some]
        rw [if_neg c]
      rw [gs] at q
      rw [if_neg (show ¬ (bd.at_ (bellI bd.size true) = 0) from c)] at z'
      exact q h' p (Or.inl rfl) x' (yk h' ⟨.hush, some m, seen, taken, early, number, left, parts⟩ z' K' rfl rfl rfl) (K'.mono si_st)
  case hush =>
    obtain ⟨m, hs, hm⟩ := ok
    have hs : spot = some m := hs
    subst hs
    ((try simp [-sSeq, -dat_ref, sSeqK, small, lim, big, F_Taker_step_eq, y.1, inB]); (repeat (first | ((with_reducible refine kont_go ?_); try simp [-sSeq, -dat_ref, sSeqK, small, lim, big, F_Taker_step_eq, y.1, inB]) | ((with_reducible refine And.intro ?_ ?_); · omega))))
    refine wait_t (here := .hush) o hm x y.1 .hush (by simp) fun h' x' z' K' => ?_
    ((try simp [-sSeq, -dat_ref, sSeqK, small, lim, big]); (repeat (first | ((with_reducible refine kont_go ?_); try simp [-sSeq, -dat_ref, sSeqK, small, lim, big]) | ((with_reducible refine And.intro ?_ ?_); · omega))))
    exact q h' p (Or.inl rfl) x' (yk h' ⟨.unwish, some m, seen, taken, early, number, left, parts⟩ z' K' rfl rfl rfl) (K'.mono si_st)
  case unwish =>
    obtain ⟨m, hs, hm⟩ := ok
    have hs : spot = some m := hs
    subst hs
    ((try simp [-sSeq, -dat_ref, sSeqK, small, lim, big, F_Taker_step_eq, y.1, inB]); (repeat (first | ((with_reducible refine kont_go ?_); try simp [-sSeq, -dat_ref, sSeqK, small, lim, big, F_Taker_step_eq, y.1, inB]) | ((with_reducible refine And.intro ?_ ?_); · omega))))
    refine wait_t (here := .unwish) o hm x y.1 .unwish (by simp) fun h' x' z' K' => ?_
    ((try simp [-sSeq, -dat_ref, sSeqK, small, lim, big]); (repeat (first | ((with_reducible refine kont_go ?_); try simp [-sSeq, -dat_ref, sSeqK, small, lim, big]) | ((with_reducible refine And.intro ?_ ?_); · omega))))
    exact q h' p (Or.inl rfl) x' (yk h' ⟨.look, some m, seen, taken, early, number, left, parts⟩ z' K' rfl rfl rfl) (K'.mono si_st)
  case free =>
    ((try simp [-sSeq, -dat_ref, sSeqK, small, lim, big, F_Taker_step_eq, y.1, inB]); (repeat (first | ((with_reducible refine kont_go ?_); try simp [-sSeq, -dat_ref, sSeqK, small, lim, big, F_Taker_step_eq, y.1, inB]) | ((with_reducible refine And.intro ?_ ?_); · omega))))
    refine release_spec o x y ok (by simp) fun h' p' hp x' y' K' => ?_
    ((try simp [-sSeq, -dat_ref, sSeqK, small, lim, big]); (repeat (first | ((with_reducible refine kont_go ?_); try simp [-sSeq, -dat_ref, sSeqK, small, lim, big]) | ((with_reducible refine And.intro ?_ ?_); · omega))))
    exact q h' p' hp x' y' (K'.mono si_st)
  case card =>
    ((try simp [-sSeq, -dat_ref, sSeqK, small, lim, big, F_Taker_step_eq, y.1, inB]); (repeat (first | ((with_reducible refine kont_go ?_); try simp [-sSeq, -dat_ref, sSeqK, small, lim, big, F_Taker_step_eq, y.1, inB]) | ((with_reducible refine And.intro ?_ ?_); · omega))))
    refine release_spec o x y ok (by simp) fun h' p' hp x' y' K' => ?_
    ((try simp [-sSeq, -dat_ref, sSeqK, small, lim, big]); (repeat (first | ((with_reducible refine kont_go ?_); try simp [-sSeq, -dat_ref, sSeqK, small, lim, big]) | ((with_reducible refine And.intro ?_ ?_); · omega))))
    exact q h' p' hp x' y' (K'.mono si_st)
  case ring =>
    ((try simp [-sSeq, -dat_ref, sSeqK, small, lim, big, F_Taker_step_eq, y.1, inB]); (repeat (first | ((with_reducible refine kont_go ?_); try simp [-sSeq, -dat_ref, sSeqK, small, lim, big, F_Taker_step_eq, y.1, inB]) | ((with_reducible refine And.intro ?_ ?_); · omega))))
    refine release_spec o x y ok (by simp) fun h' p' hp x' y' K' => ?_
    ((try simp [-sSeq, -dat_ref, sSeqK, small, lim, big]); (repeat (first | ((with_reducible refine kont_go ?_); try simp [-sSeq, -dat_ref, sSeqK, small, lim, big]) | ((with_reducible refine And.intro ?_ ?_); · omega))))
    exact q h' p' hp x' y' (K'.mono si_st)
  case look =>
    ((try simp [-sSeq, -dat_ref, sSeqK, small, lim, big, F_Taker_step_eq, y.1, inB]); (repeat (first | ((with_reducible refine kont_go ?_); try simp [-sSeq, -dat_ref, sSeqK, small, lim, big, F_Taker_step_eq, y.1, inB]) | ((with_reducible refine And.intro ?_ ?_); · omega))))
    refine take_spec2 o x y ok (by simp) fun h' x' y' K' => ?_
    ((try simp [-sSeq, -dat_ref, sSeqK, small, lim, big]); (repeat (first | ((with_reducible refine kont_go ?_); try simp [-sSeq, -dat_ref, sSeqK, small, lim, big]) | ((with_reducible refine And.intro ?_ ?_); · omega))))
    exact q h' p (Or.inl rfl) x' y' K'
  case number =>
    ((try simp [-sSeq, -dat_ref, sSeqK, small, lim, big, F_Taker_step_eq, y.1, inB]); (repeat (first | ((with_reducible refine kont_go ?_); try simp [-sSeq, -dat_ref, sSeqK, small, lim, big, F_Taker_step_eq, y.1, inB]) | ((with_reducible refine And.intro ?_ ?_); · omega))))
    refine take_spec2 o x y ok (by simp) fun h' x' y' K' => ?_
    ((try simp [-sSeq, -dat_ref, sSeqK, small, lim, big]); (repeat (first | ((with_reducible refine kont_go ?_); try simp [-sSeq, -dat_ref, sSeqK, small, lim, big]) | ((with_reducible refine And.intro ?_ ?_); · omega))))
    exact q h' p (Or.inl rfl) x' y' K'
  case left =>
    ((try simp [-sSeq, -dat_ref, sSeqK, small, lim, big, F_Taker_step_eq, y.1, inB]); (repeat (first | ((with_reducible refine kont_go ?_); try simp [-sSeq, -dat_ref, sSeqK, small, lim, big, F_Taker_step_eq, y.1, inB]) | ((with_reducible refine And.intro ?_ ?_); · omega))))
    refine take_spec2 o x y ok (by simp) fun h' x' y' K' => ?_
    ((try simp [-sSeq, -dat_ref, sSeqK, small, lim, big]); (repeat (first | ((with_reducible refine kont_go ?_); try simp [-sSeq, -dat_ref, sSeqK, small, lim, big]) | ((with_reducible refine And.intro ?_ ?_); · omega))))
    exact q h' p (Or.inl rfl) x' y' K'
  case thing =>
    ((try simp [-sSeq, -dat_ref, sSeqK, small, lim, big, F_Taker_step_eq, y.1, inB]); (repeat (first | ((with_reducible refine kont_go ?_); try simp [-sSeq, -dat_ref, sSeqK, small, lim, big, F_Taker_step_eq, y.1, inB]) | ((with_reducible refine And.intro ?_ ?_); · omega))))
    refine take_spec2 o x y ok (by simp) fun h' x' y' K' => ?_
    ((try simp [-sSeq, -dat_ref, sSeqK, small, lim, big]); (repeat (first | ((with_reducible refine kont_go ?_); try simp [-sSeq, -dat_ref, sSeqK, small, lim, big]) | ((with_reducible refine And.intro ?_ ?_); · omega))))
    exact q h' p (Or.inl rfl) x' y' K'
  all_goals exact ok.elim
/-! ### what safety gives -/
theorem Safe.bok {b : Bd} {v : Gv} {u : Tk} {f g : Nat} (s : Safe b v u f g) : b.ok := ⟨s.sb.n2, s.sb.n8, s.sb.len, fun p hp => marks_of_safe s.sb hp⟩
theorem Safe.gok {b : Bd} {v : Gv} {u : Tk} {f g : Nat} (s : Safe b v u f g) : GOk b v := by
  have n2 := s.sb.n2
  have sv := s.sv
  have tn : ∀ t, t % (2 * b.size) < 2 * b.size := fun t => Nat.mod_lt _ (by omega)
  obtain ⟨here, spot, seen, wares, at_, part⟩ := v
  cases here
  case rouse => show seen.length ≠ b.size; rw [show seen = [] from sv]; simp; omega
  case clear => show seen.length ≠ b.size; rw [show seen = [] from sv]; simp; omega
  case mute => show seen.length ≠ b.size; rw [show seen = [] from sv]; simp; omega
  case marks =>
    obtain ⟨h1, h2⟩ := sv
    refine ⟨h1, fun c => ⟨g % (2 * b.size), ?_⟩⟩
    refine (seen_g s.sb (ns := seen ++ [b.at_ (4 * seen.length)]) (by simp; exact c) fun i hi => ?_).2
    rw [getD_snoc]
    by_cases ci : i < seen.length
    · rw [if_pos ci]; exact h2 i ci
    · have c : seen.length + 1 = b.size := c
      rw [if_neg ci, if_pos (by omega)]
      have e : i = seen.length := by omega
      rw [e]
      exact ⟨rfl, marks_of_safe s.sb h1⟩
  case told => exact ⟨_, sv, tn _⟩
  case lacks =>
    obtain ⟨h1, h2, h3⟩ := sv
    refine ⟨⟨_, h1, tn _⟩, fun a0 _ => ?_⟩
    by_cases g0 : g = 0
    · have := h2 g0; omega
    · obtain ⟨a, p, ip, ha⟩ := h3 (by omega)
      rw [ha, Int.toNat_natCast]
      exact ip.1
  case look =>
    obtain ⟨h1, a, p, np, ha, hp⟩ := sv
    by_cases c : a < wares.length
    · exact Or.inr ⟨⟨_, h1, tn _⟩, a, ha, c⟩
    · refine Or.inl ?_
      have ha : at_ = (a : Int) := ha
      simp [Gv.rests, ha]; omega
  case number => obtain ⟨h1, _, a, p, ip, ha, hp⟩ := sv; exact ⟨⟨_, h1, tn _⟩, a, p, ha, hp, ip.1, ip.2.1⟩
  case left => obtain ⟨h1, _, a, p, ip, ha, hp, _⟩ := sv; exact ⟨⟨_, h1, tn _⟩, a, p, ha, hp, ip.1, ip.2.1⟩
  case thing => obtain ⟨h1, _, a, p, ip, ha, hp, _⟩ := sv; exact ⟨⟨_, h1, tn _⟩, a, p, ha, hp, ip.1, ip.2.1⟩
  case mark => obtain ⟨h1, _, a, p, ip, ha, hp, _⟩ := sv; exact ⟨⟨_, h1, tn _⟩, a, p, ha, hp, ip.1, ip.2.1⟩
  case card => obtain ⟨_, h1, a, p, ip, ha, hp⟩ := sv; exact ⟨⟨_, h1, tn _⟩, a, p, ha, hp, ip.1, ip.2.1⟩
  case ring => obtain ⟨_, h1, a, p, ip, ha, hp⟩ := sv; exact ⟨⟨_, h1, tn _⟩, a, p, ha, hp, ip.1, ip.2.1⟩
  case free => exact sv
  all_goals exact ⟨_, sv.1, tn _⟩
theorem Safe.tok {b : Bd} {v : Gv} {u : Tk} {f g : Nat} (s : Safe b v u f g) (hl : v.wares.length < 100000) : TOk b u := by
  have n2 := s.sb.n2
  have n8 := s.sb.n8
  obtain ⟨bk, su⟩ := s.su
  have le := bk.le
  have tn : ∀ t, t % (2 * b.size) < 2 * b.size := fun t => Nat.mod_lt _ (by omega)
  obtain ⟨here, spot, seen, taken, early, number, left, parts⟩ := u
  have le : taken.length ≤ v.wares.length := le
  cases here
  case rouse => show seen.length ≠ b.size; rw [show seen = [] from su.1]; simp; omega
  case clear => show seen.length ≠ b.size; rw [show seen = [] from su.1]; simp; omega
  case mute => show seen.length ≠ b.size; rw [show seen = [] from su.1]; simp; omega
  case marks =>
    obtain ⟨h1, hp, h2⟩ := su
    refine ⟨h1, fun c => ⟨f % (2 * b.size), ?_⟩⟩
    refine (seen_t s.sb (ns := seen ++ [b.at_ (4 * seen.length)]) (by simp; exact c) fun i hi => ?_).2
    rw [getD_snoc]
    by_cases ci : i < seen.length
    · rw [if_pos ci]; exact h2 i ci
    · have c : seen.length + 1 = b.size := c
      rw [if_neg ci, if_pos (by omega)]
      have e : i = seen.length := by omega
      rw [e]
      exact ⟨rfl, marks_of_safe s.sb h1⟩
  case thing =>
    obtain ⟨h1, h2, h3, h4, _⟩ := su
    have : parts.length < b.size := h4.lt s.sb
    exact ⟨⟨_, h2, tn _⟩, by show parts.length < 1000; omega, by show taken.length < 100000; omega⟩
  case free => obtain ⟨_, _, _, h4, h5⟩ := su; exact ⟨⟨_, h4, tn _⟩, ⟨_, h5, tn _⟩⟩
  case card => obtain ⟨_, _, _, h4, h5⟩ := su; exact ⟨⟨_, h4, tn _⟩, ⟨_, h5, tn _⟩⟩
  case ring => obtain ⟨_, _, _, h4, h5⟩ := su; exact ⟨⟨_, h4, tn _⟩, ⟨_, h5, tn _⟩⟩
  case told => exact su
  case lacks => exact su
  case mark => exact su
  all_goals exact ⟨_, su.2.1, tn _⟩
end Mi
end TxSTaker

section TxSLane
set_option autoImplicit false
set_option linter.all false
set_option maxRecDepth 100000
set_option maxHeartbeats 4000000
namespace Mi
/-! ### lists of lists copied -/
theorem Lists.put_gr {h h' : MH} {r : Nat} (hr : r ≠ 1) (g : Gr h h') {xs : List MV} {ls : List (List Int)} (t : Lists h r xs ls) : Lists h' r xs ls := t.gr g hr
theorem Lists.take {h : MH} {r : Nat} : ∀ {xs : List MV} {ls : List (List Int)} (k : Nat), Lists h r xs ls → Lists h r (xs.take k) (ls.take k)
  | [], [], k, _ => by simp; exact True.intro
  | x :: xs, l :: ls, 0, _ => True.intro
  | x :: xs, l :: ls, k + 1, ⟨a, t⟩ => ⟨a, Lists.take k t⟩
  | [], _ :: _, _, t => t.elim
  | _ :: _, [], _, t => t.elim
theorem comp_lists {r r1 r2 i : Nat} {chk : MH → Prop} {σ : MS} {Q : QV} {h : MH} {refs : List MV} {ls : List (List Int)} (hr : r ≠ 1) (hr1 : r1 ≠ 1) (hr2 : r2 ≠ 1) (L : Lists h r1 refs ls) (hi : i < σ.length) (hl : ls.length < lim) (hc : ∀ h', Gr h h' → chk h')
    (q : ∀ h' refs', rd h' r (h r).length = some (.lst refs') → Lists h' r2 refs' ls → Gr h h' → Q (.ref r (h r).length) h') (hrr : r2 ≠ r) : compL r chk i tYes (wB (bList r2) (aCons (wV i) aNil)) σ Q refs [] h := by
  have len := L.length
  refine comp_inv (fun k acc h' => Gr h h' ∧ h' r = h r ∧ k ≤ ls.length ∧ Lists h' r2 acc (ls.take k)) _ 0 [] h ⟨Gr.refl h, rfl, Nat.zero_le _, by simp; exact True.intro⟩ ?_ ?_ ?_
  · rintro k acc h' ⟨G, e, a, M⟩
    refine ⟨hc h' G, ?_⟩
    have := M.length
    rw [List.length_take] at this
    omega
  · rintro j x acc h' N hj ⟨G, e, a, M⟩ hN
    have hlt : j < refs.length := (List.getElem?_eq_some_iff.mp hj).1
    have hl : ls[j]? = some (ls[j]'(by omega)) := List.getElem?_eq_getElem (by omega)
    obtain ⟨t, et, zt⟩ := L.at_ hl
    rw [et] at hj
    cases hj
    have zt := G.rd zt hr1
    simp [zt, hi]
    refine hN _ _ ⟨G.trans (gr_new h' hr2 _), by rw [put_ne _ _ (fun e => hrr e.symm)]; exact e, by omega, ?_⟩
    rw [Nat.zero_add] at M ⊢
    rw [List.take_succ, hl]
    exact Lists.snoc (l := ls[j]'(by omega)) (by simp) (M.gr (gr_new h' hr2 _) hr2)
  · rintro acc h' ⟨G, e, a, M⟩
    rw [Nat.zero_add, len, List.take_length] at M
    rw [e]
    rw [← e]
    generalize hh : put h' r _ = h2
    obtain ⟨G2, z⟩ := new_of hh hr
    rw [e] at z ⊢
    exact q h2 acc z (M.gr G2 hr2) (G.trans G2)
/-! ### orders looked at -/
theorem order_ok {h : MH} {n : Nat} {r j : Nat} {o : List Int} {Q : QV} {E : QX} (z : rd h r j = some (.lst (o.map .int))) (h1 : 1 ≤ o.length) (h2 : o.length ≤ n) (q : Q .non h) : F_look_at_order [.int n, .ref r j] h Q E := by
  ((try simp [-sSeq, -dat_ref, sSeqK, small, lim, big, F_look_at_order_eq, z]); (repeat (first | ((with_reducible refine kont_go ?_); try simp [-sSeq, -dat_ref, sSeqK, small, lim, big, F_look_at_order_eq, z]) | ((with_reducible refine And.intro ?_ ?_); · omega))))
  rw [if_neg (by omega), if_neg (by omega)]
  exact q
theorem order_bad {h : MH} {n : Nat} {r j : Nat} {o : List Int} {Q : QV} {E : QX} (z : rd h r j = some (.lst (o.map .int))) (hb : o.length < 1 ∨ n < o.length) (q : E "BadOrder" h) : F_look_at_order [.int n, .ref r j] h Q E := by
  ((try simp [-sSeq, -dat_ref, sSeqK, small, lim, big, F_look_at_order_eq, z]); (repeat (first | ((with_reducible refine kont_go ?_); try simp [-sSeq, -dat_ref, sSeqK, small, lim, big, F_look_at_order_eq, z]) | ((with_reducible refine And.intro ?_ ?_); · omega))))
  by_cases c : o.length < 1
  · rw [if_pos (by omega)]; exact q
  · rw [if_neg (by omega), if_pos (by omega)]; exact q
/-! ### hands made -/
theorem gr_ke {h h' h2 : MH} {r i : Nat} (g : Gr h h') (k : Ke r i h' h2) (e : rd h r i = none) : Gr h h2 := ⟨fun q j o hq z => k.rd (g.rd z hq) hq (by
  by_cases c : q = r
  · refine Or.inr fun d => ?_
    rw [c, d, e] at z; cases z
  · exact Or.inl c), fun j w => k.w (g.w w)⟩
theorem len_gr {h h' : MH} {r : Nat} (hr : r ≠ 1) (g : Gr h h') : (h r).length ≤ (h' r).length := len_kx hr (g.x fun _ _ => False) fun _ z => z
theorem hand_make {h : MH} {r i b : Nat} {t : Bool} {c : String} {Q : QV} {E : QX} (hr : r = 11 ∨ r = 12) (z : rd h r i = some (.ins c []))
    (q : ∀ h', rd h' r i = some (.ins c (hdF b t "rouse" .non (h 22).length [])) → rd h' 22 (h 22).length = some (.lst []) → Ke r i h h' → (h 22).length ≤ (h' 22).length → h' 24 = h 24 → h' 21 = h 21 → h' 23 = h 23 → Q .non h') : F_Hand___init [.ref r i, .ref 10 b, .str (handS t), .str (handS !t)] h Q E := by
  have hr1 : r ≠ 1 := by omega
  have hr2 : r ≠ 22 := by omega
  have hr3 : 22 ≠ r := by omega
  have hi := rd_lt z
  ((try simp [-sSeq, -dat_ref, sSeqK, small, lim, big, F_Hand___init_eq, z, hi, hr2, hr3]); (repeat (first | ((with_reducible refine kont_go ?_); try simp [-sSeq, -dat_ref, sSeqK, small, lim, big, F_Hand___init_eq, z, hi, hr2, hr3]) | ((with_reducible refine And.intro ?_ ?_); · omega))))
  rw [put_shadow _ _ _ _ hr3]
  have e1 : h r = (put h 22 (h 22 ++ [.lst []])) r := (put_ne _ _ hr2).symm
  have o21 : 21 ≠ r := by omega
  have o23 : 23 ≠ r := by omega
  have o24 : 24 ≠ r := by omega
  refine q _ (by simp [hr2, hi]) (by simp [hr3]) ?_ (by simp [hr3]) (by simp [o24]) (by simp [o21]) (by simp [o23])
  rw [e1]
  generalize hh : put h 22 _ = h2
  obtain ⟨G2, z2⟩ := new_of hh (by decide)
  generalize hh3 : put h2 r _ = h3
  obtain ⟨K3, z3⟩ := set_of hh3 (G2.rd z hr1) hr1
  exact ⟨fun q' j o hq m x => K3.1 q' j o hq m (G2.rd x hq), fun j w => K3.w (G2.w w)⟩
theorem giver_make {h h0 : MH} {b k r r1 j : Nat} {bd : Bd} {refs : List MV} {ls : List (List Int)} {Q : QV} {E : QX} (G0 : Gr h h0) (z0 : rd h0 11 (h 11).length = some (.ins "Giver" [])) (x : BoardAt h b k bd) (hr : r ≠ 1) (hr1 : r1 ≠ 1) (z : rd h r j = some (.lst refs)) (L : Lists h r1 refs ls) (hl : ls.length < lim)
    (ok : ∀ o ∈ ls, 1 ≤ o.length ∧ o.length ≤ bd.size)
    (q : ∀ h' s w, (h0 22).length ≤ s → (h0 21).length ≤ w → GiverAt h' (h 11).length b s w (newG ls) → Gr h h' → Q .non h') : F_Giver___init [.ref 11 (h 11).length, .ref 10 b, .ref r j] h0 Q E := by
  have x0 := x.gr G0
  have zz := G0.rd z hr
  have L0 := L.gr G0 hr1
  have len := L.length
  have n2 : (h 11)[(h 11).length]? = none := List.getElem?_eq_none (Nat.le_refl _)
  ((try simp [-sSeq, -dat_ref, sSeqK, small, lim, big, F_Giver___init_eq, zz]); (repeat (first | ((with_reducible refine kont_go ?_); try simp [-sSeq, -dat_ref, sSeqK, small, lim, big, F_Giver___init_eq, zz]) | ((with_reducible refine And.intro ?_ ?_); · omega))))
  refine forL_inv (fun m σ h' => h' = h0 ∧ ∃ o, σ = [some (.ref 11 (h 11).length), some (.ref 10 b), some (.ref r j), o]) _ 0 _ _ ⟨rfl, none, rfl⟩ ?_ ?_ ?_
  · rintro m σ h' ⟨rfl, _⟩; exact zz
  · rintro m y σ h' N hm ⟨rfl, o, rfl⟩ hN
    have hlt : m < refs.length := (List.getElem?_eq_some_iff.mp hm).1
    have hl2 : ls[m]? = some (ls[m]'(by omega)) := List.getElem?_eq_getElem (by omega)
    obtain ⟨t, et, zt⟩ := L0.at_ hl2
    rw [et] at hm
    cases hm
    ((try simp [-sSeq, -dat_ref, sSeqK, small, lim, big, x0.1]); (repeat (first | ((with_reducible refine kont_go ?_); try simp [-sSeq, -dat_ref, sSeqK, small, lim, big, x0.1]) | ((with_reducible refine And.intro ?_ ?_); · omega))))
    have := ok _ (List.getElem_mem (show m < ls.length by omega))
    refine order_ok zt this.1 this.2 ?_
    exact hN _ _ ⟨rfl, _, rfl⟩
  · rintro σ h' ⟨rfl, o, rfl⟩
    ((try simp [-sSeq, -dat_ref, sSeqK, small, lim, big]); (repeat (first | ((with_reducible refine kont_go ?_); try simp [-sSeq, -dat_ref, sSeqK, small, lim, big]) | ((with_reducible refine And.intro ?_ ?_); · omega))))
    refine hand_make (t := false) (Or.inl rfl) z0 fun h1 z1 s1 K1 l1 e24 e21 e23 => ?_
    have G1 := gr_ke G0 K1 n2
    have zz1 := G1.rd z hr
    have L1 := L.gr G1 hr1
    refine kont_go ?_; simp [-sSeq, -dat_ref, sSeqK, small, lim, big, zz1]
    refine comp_lists (by decide) hr1 (by decide) L1 (by simp) hl (fun h2 G2 => G2.rd zz1 hr) (fun h2 refs2 z2 L2 G2 => ?_) (by decide)
    have z3 := G2.rd z1
    have hi := rd_lt z3
    ((try simp [-sSeq, -dat_ref, sSeqK, small, lim, big, z3, hi]); (repeat (first | ((with_reducible refine kont_go ?_); try simp [-sSeq, -dat_ref, sSeqK, small, lim, big, z3, hi]) | ((with_reducible refine And.intro ?_ ?_); · omega))))
    generalize hh : put h2 11 _ = h3
    obtain ⟨K3, z4⟩ := set_of hh z3 (by decide)
    refine q h3 _ _ (Nat.le_refl _) (by rw [e21]; exact Nat.le_refl _) ⟨z4, K3.rd (G2.rd s1), refs2, K3.rd z2, L2.kx (K3.x (S := fun q j => q = 11) rfl) (by decide) (by simp)⟩ (gr_ke (G1.trans G2) K3 n2)
theorem taker_make {h h0 : MH} {b k r r1 j : Nat} {bd : Bd} {refs : List MV} {ls : List (List Int)} {Q : QV} {E : QX} (G0 : Gr h h0) (z0 : rd h0 12 (h 12).length = some (.ins "Taker" [])) (x : BoardAt h b k bd) (hr : r ≠ 1) (hr1 : r1 ≠ 1) (z : rd h r j = some (.lst refs)) (L : Lists h r1 refs ls) (hl : ls.length < lim)
    (ok : ∀ o ∈ ls, 1 ≤ o.length ∧ o.length ≤ bd.size)
    (q : ∀ h' s w p, (h0 22).length ≤ s → (h0 23).length ≤ w → (h0 24).length ≤ p → TakerAt h' (h 12).length b s w p (newT ls) → Gr h h' → Q .non h') : F_Taker___init [.ref 12 (h 12).length, .ref 10 b, .ref r j] h0 Q E := by
  have x0 := x.gr G0
  have zz := G0.rd z hr
  have L0 := L.gr G0 hr1
  have len := L.length
  have n2 : (h 12)[(h 12).length]? = none := List.getElem?_eq_none (Nat.le_refl _)
  ((try simp [-sSeq, -dat_ref, sSeqK, small, lim, big, F_Taker___init_eq, zz]); (repeat (first | ((with_reducible refine kont_go ?_); try simp [-sSeq, -dat_ref, sSeqK, small, lim, big, F_Taker___init_eq, zz]) | ((with_reducible refine And.intro ?_ ?_); · omega))))
  refine forL_inv (fun m σ h' => h' = h0 ∧ ∃ o, σ = [some (.ref 12 (h 12).length), some (.ref 10 b), some (.ref r j), o]) _ 0 _ _ ⟨rfl, none, rfl⟩ ?_ ?_ ?_
  · rintro m σ h' ⟨rfl, _⟩; exact zz
  · rintro m y σ h' N hm ⟨rfl, o, rfl⟩ hN
    have hlt : m < refs.length := (List.getElem?_eq_some_iff.mp hm).1
    have hl2 : ls[m]? = some (ls[m]'(by omega)) := List.getElem?_eq_getElem (by omega)
    obtain ⟨t, et, zt⟩ := L0.at_ hl2
    rw [et] at hm
    cases hm
    ((try simp [-sSeq, -dat_ref, sSeqK, small, lim, big, x0.1]); (repeat (first | ((with_reducible refine kont_go ?_); try simp [-sSeq, -dat_ref, sSeqK, small, lim, big, x0.1]) | ((with_reducible refine And.intro ?_ ?_); · omega))))
    have := ok _ (List.getElem_mem (show m < ls.length by omega))
    refine order_ok zt this.1 this.2 ?_
    exact hN _ _ ⟨rfl, _, rfl⟩
  · rintro σ h' ⟨rfl, o, rfl⟩
    ((try simp [-sSeq, -dat_ref, sSeqK, small, lim, big]); (repeat (first | ((with_reducible refine kont_go ?_); try simp [-sSeq, -dat_ref, sSeqK, small, lim, big]) | ((with_reducible refine And.intro ?_ ?_); · omega))))
    refine hand_make (t := true) (Or.inr rfl) z0 fun h1 z1 s1 K1 l1 e24 e21 e23 => ?_
    have G1 := gr_ke G0 K1 n2
    have zz1 := G1.rd z hr
    have L1 := L.gr G1 hr1
    refine kont_go ?_; simp [-sSeq, -dat_ref, sSeqK, small, lim, big, zz1]
    refine comp_lists (by decide) hr1 (by decide) L1 (by simp) hl (fun h2 G2 => G2.rd zz1 hr) (fun h2 refs2 z2 L2 G2 => ?_) (by decide)
    have z3 := G2.rd z1
    have hi := rd_lt z3
    ((try simp [-sSeq, -dat_ref, sSeqK, small, lim, big, z3, hi]); (repeat (first | ((with_reducible refine kont_go ?_); try simp [-sSeq, -dat_ref, sSeqK, small, lim, big, z3, hi]) | ((with_reducible refine And.intro ?_ ?_); · omega))))
    rw [put_shadow _ _ _ _ (by decide)]
    have l24 := len_gr (r := 24) (by decide) G2
    rw [e24] at l24
    have e1 : h2 12 = (put h2 24 (h2 24 ++ [.lst []])) 12 := (put_ne _ _ (by decide)).symm
    rw [e1]
    (try dsimp only); generalize hh : put h2 24 _ = h3 at *; obtain ⟨G3, z5⟩ := new_of hh (by decide); clear hh
    generalize hh : put h3 12 _ = h4
    obtain ⟨K3, z4⟩ := set_of hh (G3.rd z3) (by decide)
    refine q h4 _ _ _ (Nat.le_refl _) (by rw [e23]; exact Nat.le_refl _) l24 ⟨z4, K3.rd (G3.rd (G2.rd s1)), ⟨refs2, K3.rd (G3.rd z2), (L2.gr G3 (by decide)).kx (K3.x (S := fun q j => q = 12) rfl) (by decide) (by simp)⟩, K3.rd z5⟩ (gr_ke ((G1.trans G2).trans G3) K3 n2)
/-! ### what hands tell -/
theorem orders_spec {h : MH} {i b s w : Nat} {v : Gv} {Q : QV} {E : QX} (y : GiverAt h i b s w v) (hl : v.wares.length < lim)
    (q : ∀ h' refs, rd h' 231 (h 231).length = some (.lst refs) → Lists h' 230 refs v.wares → Gr h h' → Q (.ref 231 (h 231).length) h') : F_Giver_orders [.ref 11 i] h Q E := by
  obtain ⟨refs, r1, r2⟩ := y.2.2
  ((try simp [-sSeq, -dat_ref, sSeqK, small, lim, big, F_Giver_orders_eq, y.1, r1]); (repeat (first | ((with_reducible refine kont_go ?_); try simp [-sSeq, -dat_ref, sSeqK, small, lim, big, F_Giver_orders_eq, y.1, r1]) | ((with_reducible refine And.intro ?_ ?_); · omega))))
  exact comp_lists (by decide) (by decide) (by decide) r2 (by simp) hl (fun h2 G2 => G2.rd r1) q (by decide)
theorem book_spec {h : MH} {i b s w p : Nat} {u : Tk} {Q : QV} {E : QX} (y : TakerAt h i b s w p u) (hl : u.taken.length < lim)
    (q : ∀ h' refs, rd h' 233 (h 233).length = some (.lst refs) → Lists h' 232 refs u.taken → Gr h h' → Q (.ref 233 (h 233).length) h') : F_Taker_book [.ref 12 i] h Q E := by
  obtain ⟨refs, r1, r2⟩ := y.2.2.1
  ((try simp [-sSeq, -dat_ref, sSeqK, small, lim, big, F_Taker_book_eq, y.1, r1]); (repeat (first | ((with_reducible refine kont_go ?_); try simp [-sSeq, -dat_ref, sSeqK, small, lim, big, F_Taker_book_eq, y.1, r1]) | ((with_reducible refine And.intro ?_ ?_); · omega))))
  exact comp_lists (by decide) (by decide) (by decide) r2 (by simp) hl (fun h2 G2 => G2.rd r1) q (by decide)
theorem add_ok {h : MH} {i b k s w r j : Nat} {o : List Int} {bd : Bd} {v : Gv} {Q : QV} {E : QX} (x : BoardAt h b k bd) (y : GiverAt h i b s w v) (z : rd h r j = some (.lst (o.map .int))) (h1 : 1 ≤ o.length) (h2 : o.length ≤ bd.size) (hl : v.wares.length < 100000)
    (q : ∀ h', GiverAt h' i b s w { v with wares := v.wares ++ [o] } → Kx (fun q j => q = 21 ∧ j = w) h h' → Q (.int v.wares.length) h') : F_Giver_add [.ref 11 i, .ref r j] h Q E := by
  obtain ⟨refs, r1, r2⟩ := y.2.2
  have len := r2.length
  ((try simp [-sSeq, -dat_ref, sSeqK, small, lim, big, F_Giver_add_eq, y.1, x.1]); (repeat (first | ((with_reducible refine kont_go ?_); try simp [-sSeq, -dat_ref, sSeqK, small, lim, big, F_Giver_add_eq, y.1, x.1]) | ((with_reducible refine And.intro ?_ ?_); · omega))))
  refine order_ok z h1 h2 ?_
  have hw := rd_lt r1
  ((try simp [-sSeq, -dat_ref, sSeqK, small, lim, big, y.1, r1, z, hw]); (repeat (first | ((with_reducible refine kont_go ?_); try simp [-sSeq, -dat_ref, sSeqK, small, lim, big, y.1, r1, z, hw]) | ((with_reducible refine And.intro ?_ ?_); · omega))))
  have e1 : h 21 = (put h 26 (h 26 ++ [.lst (o.map .int)])) 21 := (put_ne _ _ (by decide)).symm
  rw [e1]
  (try dsimp only); generalize hh : put h 26 _ = h2 at *; obtain ⟨G2, z2⟩ := new_of hh (by decide); clear hh
  generalize hh : put h2 21 _ = h3
  obtain ⟨K3, z3⟩ := set_of hh (G2.rd r1) (by decide)
  rw [show (refs.length : Int) = v.wares.length by omega]
  refine q h3 ⟨K3.rd (G2.rd y.1), K3.rd (G2.rd y.2.1), _, z3, Lists.snoc (K3.rd z2) ((r2.gr G2 (by decide)).kx (K3.x (S := fun q j => q = 21 ∧ j = w) ⟨rfl, rfl⟩) (by decide) (by simp))⟩ ((G2.x _).trans (K3.x ⟨rfl, rfl⟩))
theorem add_bad {h : MH} {i b k s w r j : Nat} {o : List Int} {bd : Bd} {v : Gv} {Q : QV} {E : QX} (x : BoardAt h b k bd) (y : GiverAt h i b s w v) (z : rd h r j = some (.lst (o.map .int))) (hb : o.length < 1 ∨ bd.size < o.length)
    (q : E "BadOrder" h) : F_Giver_add [.ref 11 i, .ref r j] h Q E := by
  ((try simp [-sSeq, -dat_ref, sSeqK, small, lim, big, F_Giver_add_eq, y.1, x.1]); (repeat (first | ((with_reducible refine kont_go ?_); try simp [-sSeq, -dat_ref, sSeqK, small, lim, big, F_Giver_add_eq, y.1, x.1]) | ((with_reducible refine And.intro ?_ ?_); · omega))))
  exact order_bad z hb q
theorem peek_ok {h : MH} {i k c : Nat} {v : Int} {b : Bd} {Q : QV} {E : QX} (x : BoardAt h i k b) (e : b.cells[c]? = some v) (q : Q (.int v) h) : F_Board_peek [.ref 10 i, .int c] h Q E := by
  have hl := (List.getElem?_eq_some_iff.mp e).1
  ((try simp [-sSeq, -dat_ref, sSeqK, small, lim, big, F_Board_peek_eq, x.1]); (repeat (first | ((with_reducible refine kont_go ?_); try simp [-sSeq, -dat_ref, sSeqK, small, lim, big, F_Board_peek_eq, x.1]) | ((with_reducible refine And.intro ?_ ?_); · omega))))
  refine lookcell_ok x hl ?_
  ((try simp [-sSeq, -dat_ref, sSeqK, small, lim, big, x.1, x.2, atI_nat, e]); (repeat (first | ((with_reducible refine kont_go ?_); try simp [-sSeq, -dat_ref, sSeqK, small, lim, big, x.1, x.2, atI_nat, e]) | ((with_reducible refine And.intro ?_ ?_); · omega))))
  exact q
def Gv.sleeps (b : Bd) (v : Gv) : Bool := decide (v.here = .sleep) && decide (b.at_ (bellI b.size false) = 0)
def Tk.sleeps (b : Bd) (u : Tk) : Bool := decide (u.here = .sleep) && decide (b.at_ (bellI b.size true) = 0)
def Gv.still (b : Bd) (v : Gv) : Bool := v.rests || v.sleeps b
theorem sleeps_spec {h : MH} {r i b k s : Nat} {t : Bool} {c : String} {here : St} {spot : MV} {tail : List (String × MV)} {bd : Bd} {Q : QV} {E : QX} (o : bd.ok) (x : BoardAt h b k bd) (y : rd h r i = some (.ins c (hdF b t here.name spot s tail)))
    (q : Q (.bl (decide (here = .sleep) && decide (bd.at_ (bellI bd.size t) = 0))) h) : F_Hand_sleeps_on [.ref r i] h Q E := by
  have n2 := o.n2
  have n8 := o.n8
  by_cases c : here = .sleep
  · subst c
    ((try simp [-sSeq, -dat_ref, sSeqK, small, lim, big, F_Hand_sleeps_on_eq, y, x.1]); (repeat (first | ((with_reducible refine kont_go ?_); try simp [-sSeq, -dat_ref, sSeqK, small, lim, big, F_Hand_sleeps_on_eq, y, x.1]) | ((with_reducible refine And.intro ?_ ?_); · omega))))
    refine bell_spec n2 n8 ?_
    ((try simp [-sSeq, -dat_ref, sSeqK, small, lim, big, x.1]); (repeat (first | ((with_reducible refine kont_go ?_); try simp [-sSeq, -dat_ref, sSeqK, small, lim, big, x.1]) | ((with_reducible refine And.intro ?_ ?_); · omega))))
    refine peek_ok x (o.at (bell_lt _ _).2) ?_
    ((try simp [-sSeq, -dat_ref, sSeqK, small, lim, big]); (repeat (first | ((with_reducible refine kont_go ?_); try simp [-sSeq, -dat_ref, sSeqK, small, lim, big]) | ((with_reducible refine And.intro ?_ ?_); · omega))))
    simpa using q
  · have hn : here.name ≠ "sleep" := by cases here <;> simp_all
    have q2 : Q (.bl false) h := by simpa [c] using q
    generalize here.name = nm at *
    ((try simp [-sSeq, -dat_ref, sSeqK, small, lim, big, F_Hand_sleeps_on_eq, y, hn]); (repeat (first | ((with_reducible refine kont_go ?_); try simp [-sSeq, -dat_ref, sSeqK, small, lim, big, F_Hand_sleeps_on_eq, y, hn]) | ((with_reducible refine And.intro ?_ ?_); · omega))))
    exact q2
theorem gstill_spec {h : MH} {i b k s w : Nat} {bd : Bd} {v : Gv} {Q : QV} {E : QX} (o : bd.ok) (x : BoardAt h b k bd) (y : GiverAt h i b s w v) (q : Q (.bl (v.still bd)) h) : F_Giver_still [.ref 11 i] h Q E := by
  ((try simp [-sSeq, -dat_ref, sSeqK, small, lim, big, F_Giver_still_eq, y.1]); (repeat (first | ((with_reducible refine kont_go ?_); try simp [-sSeq, -dat_ref, sSeqK, small, lim, big, F_Giver_still_eq, y.1]) | ((with_reducible refine And.intro ?_ ?_); · omega))))
  refine rests_spec y ?_
  unfold Gv.still at q
  cases hr : v.rests with
  | true => rw [hr] at q; ((try simp [-sSeq, -dat_ref, sSeqK, small, lim, big]); (repeat (first | ((with_reducible refine kont_go ?_); try simp [-sSeq, -dat_ref, sSeqK, small, lim, big]) | ((with_reducible refine And.intro ?_ ?_); · omega)))); simpa using q
  | false =>
    rw [hr] at q
    ((try simp [-sSeq, -dat_ref, sSeqK, small, lim, big, y.1]); (repeat (first | ((with_reducible refine kont_go ?_); try simp [-sSeq, -dat_ref, sSeqK, small, lim, big, y.1]) | ((with_reducible refine And.intro ?_ ?_); · omega))))
    exact sleeps_spec o x y.1 (by simpa [Gv.sleeps] using q)
theorem tstill_spec {h : MH} {i b k s w p : Nat} {bd : Bd} {u : Tk} {Q : QV} {E : QX} (o : bd.ok) (x : BoardAt h b k bd) (y : TakerAt h i b s w p u) (q : Q (.bl (u.sleeps bd)) h) : F_Taker_still [.ref 12 i] h Q E := by
  ((try simp [-sSeq, -dat_ref, sSeqK, small, lim, big, F_Taker_still_eq, y.1]); (repeat (first | ((with_reducible refine kont_go ?_); try simp [-sSeq, -dat_ref, sSeqK, small, lim, big, F_Taker_still_eq, y.1]) | ((with_reducible refine And.intro ?_ ?_); · omega))))
  exact sleeps_spec o x y.1 (by simpa [Tk.sleeps] using q)
/-! ### lanes -/
structure Rf where
  b : Nat
  k : Nat
  g : Nat
  sg : Nat
  wg : Nat
  t : Nat
  st : Nat
  wt : Nat
  pt : Nat
  wk : Nat
def trV (x : String × String × Int × Int) : MV := .tup [.str x.1, .str x.2.1, .int x.2.2.1, .int x.2.2.2]
structure LaneAt (h : MH) (i : Nat) (ρ : Rf) (l : Ln) : Prop where
  me : rd h 13 i = some (.ins "Lane" [("board", .ref 10 ρ.b), ("giver", .ref 11 ρ.g), ("taker", .ref 12 ρ.t), ("walked", .ref 25 ρ.wk)])
  bd : BoardAt h ρ.b ρ.k l.b
  gv : GiverAt h ρ.g ρ.b ρ.sg ρ.wg l.v
  tk : TakerAt h ρ.t ρ.b ρ.st ρ.wt ρ.pt l.u
  tr : rd h 25 ρ.wk = some (.lst (l.tr.map trV))
  ne : ρ.sg ≠ ρ.st
def SLn (i : Nat) (ρ : Rf) : Nat → Nat → Prop := fun q j => (q = 10 ∧ j = ρ.b) ∨ (q = 20 ∧ j = ρ.k) ∨ (q = 11 ∧ j = ρ.g) ∨ (q = 22 ∧ (j = ρ.sg ∨ j = ρ.st)) ∨ (q = 21 ∧ j = ρ.wg) ∨ (q = 12 ∧ j = ρ.t) ∨ (q = 23 ∧ j = ρ.wt) ∨ (q = 24 ∧ j = ρ.pt) ∨ (q = 25 ∧ j = ρ.wk) ∨ (q = 13 ∧ j = i)
/-- the regions of lanes -/
def SLr : Nat → Nat → Prop := fun q _ => q = 10 ∨ q = 20 ∨ q = 11 ∨ q = 22 ∨ q = 21 ∨ q = 12 ∨ q = 23 ∨ q = 24 ∨ q = 25 ∨ q = 13
theorem sln_r {i : Nat} {ρ : Rf} : ∀ q j, SLn i ρ q j → SLr q j := fun q j h => by
  unfold SLn at h; unfold SLr; omega
theorem LaneAt.kx {S : Nat → Nat → Prop} {h h' : MH} {i : Nat} {ρ : Rf} {l : Ln} (x : LaneAt h i ρ l) (g : Kx S h h') (hs : ∀ q j, SLn i ρ q j → ¬ S q j) (h26 : ∀ j, ¬ S 26 j) : LaneAt h' i ρ l :=
  ⟨g.rd x.me (by decide) (hs _ _ (by simp [SLn])), ⟨g.rd x.bd.1 (by decide) (hs _ _ (by simp [SLn])), g.rd x.bd.2 (by decide) (hs _ _ (by simp [SLn]))⟩, x.gv.kx g (hs _ _ (by simp [SLn])) (hs _ _ (by simp [SLn])) (hs _ _ (by simp [SLn])) h26,
   x.tk.kx g (hs _ _ (by simp [SLn])) (hs _ _ (by simp [SLn])) (hs _ _ (by simp [SLn])) (hs _ _ (by simp [SLn])) h26, g.rd x.tr (by decide) (hs _ _ (by simp [SLn])), x.ne⟩
theorem LaneAt.gr {h h' : MH} {i : Nat} {ρ : Rf} {l : Ln} (x : LaneAt h i ρ l) (g : Gr h h') : LaneAt h' i ρ l := x.kx (g.x fun _ _ => False) (fun _ _ _ z => z) fun _ z => z
structure RNew (h : MH) (ρ ρ' : Rf) : Prop where
  b : ρ'.b = ρ.b ∨ (h 10).length ≤ ρ'.b
  k : ρ'.k = ρ.k ∨ (h 20).length ≤ ρ'.k
  g : ρ'.g = ρ.g ∨ (h 11).length ≤ ρ'.g
  sg : ρ'.sg = ρ.sg ∨ (h 22).length ≤ ρ'.sg
  wg : ρ'.wg = ρ.wg ∨ (h 21).length ≤ ρ'.wg
  t : ρ'.t = ρ.t ∨ (h 12).length ≤ ρ'.t
  st : ρ'.st = ρ.st ∨ (h 22).length ≤ ρ'.st
  wt : ρ'.wt = ρ.wt ∨ (h 23).length ≤ ρ'.wt
  pt : ρ'.pt = ρ.pt ∨ (h 24).length ≤ ρ'.pt
  wk : ρ'.wk = ρ.wk ∨ (h 25).length ≤ ρ'.wk
theorem RNew.refl (h : MH) (ρ : Rf) : RNew h ρ ρ := ⟨Or.inl rfl, Or.inl rfl, Or.inl rfl, Or.inl rfl, Or.inl rfl, Or.inl rfl, Or.inl rfl, Or.inl rfl, Or.inl rfl, Or.inl rfl⟩
theorem newb_len (n : Nat) : (newBd n).size = n := rfl
theorem lane_make {h : MH} {n : Nat} {K : QV} {E : QX} (n2 : 2 ≤ n) (n8 : n ≤ 8) (q : ∀ h' ρ, LaneAt h' (h 13).length ρ (newL n) → Gr h h' → (h 10).length ≤ ρ.b → (h 20).length ≤ ρ.k → (h 11).length ≤ ρ.g → (h 22).length ≤ ρ.sg → (h 22).length ≤ ρ.st → (h 21).length ≤ ρ.wg → (h 12).length ≤ ρ.t → (h 23).length ≤ ρ.wt → (h 24).length ≤ ρ.pt → (h 25).length ≤ ρ.wk → K .non h') :
    F_Lane___init [.ref 13 (h 13).length, .int n] (put h 13 (h 13 ++ [.ins "Lane" []])) K E := by
  have nn : (h 13)[(h 13).length]? = none := List.getElem?_eq_none (Nat.le_refl _)
  generalize hh : put h 13 _ = h1
  obtain ⟨G1, z1⟩ := new_of hh (by decide)
  generalize (h 13).length = i at *
  ((try simp [-sSeq, -dat_ref, sSeqK, small, lim, big, F_Lane___init_eq]); (repeat (first | ((with_reducible refine kont_go ?_); try simp [-sSeq, -dat_ref, sSeqK, small, lim, big, F_Lane___init_eq]) | ((with_reducible refine And.intro ?_ ?_); · omega))))
  refine board_make n2 n8 fun h2 x2 G2 => ?_
  have z2 := G2.rd z1
  have hi2 := rd_lt z2
  have l10 := len_gr (r := 10) (by decide) G1
  have l20 := len_gr (r := 20) (by decide) G1
  simp [-sSeq, -dat_ref, sSeqK, small, lim, z2, hi2]
  generalize hh : put h2 13 _ = h3
  obtain ⟨K3, z3⟩ := set_of hh z2 (by decide)
  have G3 := gr_ke (G1.trans G2) K3 nn
  have x3 := x2.ke K3 (by decide) (by decide)
  refine kont_go ?_; simp [-sSeq, -dat_ref, sSeqK, small, lim, big, z3]
  rw [show h3 11 = (put h3 25 (h3 25 ++ [.lst []])) 11 from (put_ne _ _ (by decide)).symm]
  (try dsimp only); generalize hh : put h3 25 _ = h4 at *; obtain ⟨G4, z4⟩ := new_of hh (by decide); clear hh
  have G34 := G3.trans G4
  generalize hh : put h4 11 _ = h5
  obtain ⟨G5, z5⟩ := new_of hh (by decide)
  refine giver_make G5 z5 (x3.gr G4) (by decide) (r1 := 26) (by decide) z4 (ls := []) True.intro (by simp [lim]) (fun o ho => absurd ho (List.not_mem_nil)) fun h6 sg wg lsg lwg y6 G6 => ?_
  have z6 := G6.rd (G4.rd z3)
  have x6 := (x3.gr G4).gr G6
  have hi6 := rd_lt z6
  have l11 := len_gr (r := 11) (by decide) G34
  have l22 := len_gr (r := 22) (by decide) (G34.trans G5)
  have l21 := len_gr (r := 21) (by decide) (G34.trans G5)
  simp [-sSeq, -dat_ref, sSeqK, small, lim, z6, hi6]
  generalize hh : put h6 13 _ = h7
  obtain ⟨K7, z7⟩ := set_of hh z6 (by decide)
  have G7 := gr_ke (G34.trans G6) K7 nn
  have x7 := x6.ke K7 (by decide) (by decide)
  have y7 : GiverAt h7 (h4 11).length (h1 10).length sg wg (newG []) := y6.kx (K7.x (S := fun q j => q = 13) rfl) (by decide) (by decide) (by decide) (by simp)
  refine kont_go ?_; simp [-sSeq, -dat_ref, sSeqK, small, lim, big, z7]
  rw [show h7 12 = (put h7 25 (h7 25 ++ [.lst []])) 12 from (put_ne _ _ (by decide)).symm]
  (try dsimp only); generalize hh : put h7 25 _ = h8 at *; obtain ⟨G8, z8⟩ := new_of hh (by decide); clear hh
  have G78 := G7.trans G8
  generalize hh : put h8 12 _ = h9
  obtain ⟨G9, z9⟩ := new_of hh (by decide)
  refine taker_make G9 z9 (x7.gr G8) (by decide) (r1 := 26) (by decide) z8 (ls := []) True.intro (by simp [lim]) (fun o ho => absurd ho (List.not_mem_nil)) fun ha st wt pt lst lwt lpt ya Ga => ?_
  have za := Ga.rd (G8.rd z7)
  have xa := (x7.gr G8).gr Ga
  have hia := rd_lt za
  have l12 := len_gr (r := 12) (by decide) G78
  have l22' := len_gr (r := 22) (by decide) (G78.trans G9)
  have l23 := len_gr (r := 23) (by decide) (G78.trans G9)
  have l24 := len_gr (r := 24) (by decide) (G78.trans G9)
  have sgl : sg < (h9 22).length := Nat.lt_of_lt_of_le (rd_lt y7.2.1) (len_gr (by decide) (G8.trans G9))
  have Gb := G78.trans Ga
  have l25 := len_gr (r := 25) (by decide) Gb
  simp [-sSeq, -dat_ref, sSeqK, small, lim, za, hia]
  generalize hh : put ha 13 _ = hb
  obtain ⟨Kb, zb⟩ := set_of hh za (by decide)
  have Gb := gr_ke Gb Kb nn
  have xb := xa.ke Kb (by decide) (by decide)
  have yb := ((y7.gr G8).gr Ga).kx (Kb.x (S := fun q j => q = 13) rfl) (by decide) (by decide) (by decide) (by simp)
  have ub := ya.kx (Kb.x (S := fun q j => q = 13) rfl) (by decide) (by decide) (by decide) (by decide) (by simp)
  have hib := rd_lt zb
  refine kont_go ?_; simp [-sSeq, -dat_ref, sSeqK, small, lim, big, zb, hib]
  rw [show hb 13 = (put hb 25 (hb 25 ++ [.lst []])) 13 from (put_ne _ _ (by decide)).symm]
  (try dsimp only); generalize hh : put hb 25 _ = hc at *; obtain ⟨Gc, zc⟩ := new_of hh (by decide); clear hh
  generalize hh : put hc 13 _ = hd
  obtain ⟨Kd, zd⟩ := set_of hh (Gc.rd zb) (by decide)
  have l25b := len_gr (r := 25) (by decide) Gb
  refine q hd ⟨(h1 10).length, (h1 20).length, (h4 11).length, sg, wg, (h8 12).length, st, wt, pt, (hb 25).length⟩ ⟨zd, (xb.gr Gc).ke Kd (by decide) (by decide), (yb.gr Gc).kx (Kd.x (S := fun q j => q = 13) rfl) (by decide) (by decide) (by decide) (by simp), (ub.gr Gc).kx (Kd.x (S := fun q j => q = 13) rfl) (by decide) (by decide) (by decide) (by decide) (by simp), Kd.rd zc, ?_⟩ (gr_ke (Gb.trans Gc) Kd nn) l10 l20 ?_ ?_ ?_ ?_ ?_ ?_ ?_ l25b
  · show sg ≠ st; omega
  · have := l11; show (h 11).length ≤ (h4 11).length; omega
  · show (h 22).length ≤ sg; omega
  · show (h 22).length ≤ st; omega
  · show (h 21).length ≤ wg; omega
  · show (h 12).length ≤ (h8 12).length; omega
  · show (h 23).length ≤ wt; omega
  · show (h 24).length ≤ pt; omega
theorem gstep_last {b : Bd} {v : Gv} (ok : GOk b v) (r : v.rests = false) : ∃ d c x, (gstep b v).1.last = some (d, c, x) := by
  obtain ⟨here, spot, seen, wares, at_, part⟩ := v
  cases here
  case free => exact ok.elim
  case look => unfold gstep; simp only [r]; exact ⟨_, _, _, rfl⟩
  all_goals exact ⟨_, _, _, rfl⟩
theorem tstep_last {b : Bd} {u : Tk} (ok : TOk b u) : ∃ d c x, (tstep b u).1.last = some (d, c, x) := by
  obtain ⟨here, spot, seen, taken, early, number, left, parts⟩ := u
  cases here
  case told => exact ok.elim
  case lacks => exact ok.elim
  case mark => exact ok.elim
  all_goals exact ⟨_, _, _, rfl⟩
theorem hand_of_g {h : MH} {i : Nat} {ρ : Rf} {l : Ln} {Q : QV} {E : QX} (x : LaneAt h i ρ l) (q : Q (.ref 11 ρ.g) h) : F_Lane_hand_of [.ref 13 i, .str "giver"] h Q E := by
  ((try simp [-sSeq, -dat_ref, sSeqK, small, lim, big, F_Lane_hand_of_eq]); (repeat (first | ((with_reducible refine kont_go ?_); try simp [-sSeq, -dat_ref, sSeqK, small, lim, big, F_Lane_hand_of_eq]) | ((with_reducible refine And.intro ?_ ?_); · omega))))
  refine hand_ok (Or.inl rfl) ?_
  ((try simp [-sSeq, -dat_ref, sSeqK, small, lim, big, x.me]); (repeat (first | ((with_reducible refine kont_go ?_); try simp [-sSeq, -dat_ref, sSeqK, small, lim, big, x.me]) | ((with_reducible refine And.intro ?_ ?_); · omega))))
  exact q
theorem hand_of_t {h : MH} {i : Nat} {ρ : Rf} {l : Ln} {Q : QV} {E : QX} (x : LaneAt h i ρ l) (q : Q (.ref 12 ρ.t) h) : F_Lane_hand_of [.ref 13 i, .str "taker"] h Q E := by
  ((try simp [-sSeq, -dat_ref, sSeqK, small, lim, big, F_Lane_hand_of_eq]); (repeat (first | ((with_reducible refine kont_go ?_); try simp [-sSeq, -dat_ref, sSeqK, small, lim, big, F_Lane_hand_of_eq]) | ((with_reducible refine And.intro ?_ ?_); · omega))))
  refine hand_ok (Or.inr rfl) ?_
  ((try simp [-sSeq, -dat_ref, sSeqK, small, lim, big, x.me]); (repeat (first | ((with_reducible refine kont_go ?_); try simp [-sSeq, -dat_ref, sSeqK, small, lim, big, x.me]) | ((with_reducible refine And.intro ?_ ?_); · omega))))
  exact q
theorem hand_of_bad {h : MH} {i : Nat} {s : String} {Q : QV} {E : QX} (hs : ¬ isHand s) (q : E "NoHand" h) : F_Lane_hand_of [.ref 13 i, .str s] h Q E := by
  ((try simp [-sSeq, -dat_ref, sSeqK, small, lim, big, F_Lane_hand_of_eq]); (repeat (first | ((with_reducible refine kont_go ?_); try simp [-sSeq, -dat_ref, sSeqK, small, lim, big, F_Lane_hand_of_eq]) | ((with_reducible refine And.intro ?_ ?_); · omega))))
  exact hand_bad hs q
theorem lane_step_g {h : MH} {i : Nat} {ρ : Rf} {l : Ln} {Q : QV} {E : QX} (x : LaneAt h i ρ l) (o : l.b.ok) (ok : GOk l.b l.v) (hl : l.tr.length < 100000)
    (q : ∀ h', LaneAt h' i ρ l.stepG → Kx (SLn i ρ) h h' → Q (.bl (!l.v.rests)) h') : F_Lane_step [.ref 13 i, .str "giver"] h Q E := by
  ((try simp [-sSeq, -dat_ref, sSeqK, small, lim, big, F_Lane_step_eq, x.me]); (repeat (first | ((with_reducible refine kont_go ?_); try simp [-sSeq, -dat_ref, sSeqK, small, lim, big, F_Lane_step_eq, x.me]) | ((with_reducible refine And.intro ?_ ?_); · omega))))
  refine hand_of_g x ?_
  ((try simp [-sSeq, -dat_ref, sSeqK, small, lim, big, x.gv.1]); (repeat (first | ((with_reducible refine kont_go ?_); try simp [-sSeq, -dat_ref, sSeqK, small, lim, big, x.gv.1]) | ((with_reducible refine And.intro ?_ ?_); · omega))))
  refine giver_step o x.bd x.gv ok fun h2 x2 y2 K2 => ?_
  have sub : ∀ q j, SH ρ.b ρ.k 11 ρ.g ρ.sg q j → SLn i ρ q j := by
    rintro q j (⟨rfl, rfl⟩ | ⟨rfl, rfl⟩ | ⟨rfl, rfl⟩ | ⟨rfl, rfl⟩) <;> simp [SLn]
  have ne := x.ne
  have me2 := K2.rd x.me (by decide) (by simp [SH])
  have tr2 := K2.rd x.tr (by decide) (by simp [SH])
  have tk2 := x.tk.kx K2 (by simp [SH]) (by simp [SH]; omega) (by simp [SH]) (by simp [SH]) (by simp [SH])
  cases hr : l.v.rests with
  | true =>
    rw [hr] at q
    have e : l.stepG = l := by unfold Ln.stepG; rw [if_pos hr]
    rw [e] at q
    rw [gstep_rests hr] at x2 y2
    ((try simp [-sSeq, -dat_ref, sSeqK, small, lim, big]); (repeat (first | ((with_reducible refine kont_go ?_); try simp [-sSeq, -dat_ref, sSeqK, small, lim, big]) | ((with_reducible refine And.intro ?_ ?_); · omega))))
    exact q h2 ⟨me2, x2, y2, tk2, tr2, ne⟩ (K2.mono sub)
  | false =>
    rw [hr] at q
    obtain ⟨d, c, v, hla⟩ := gstep_last ok hr
    have e : l.stepG = ⟨(gstep l.b l.v).1, (gstep l.b l.v).2, l.u, l.tr ++ [("giver", d, c, v)]⟩ := by
      have hr2 : ¬ l.v.rests = true := by simp [hr]
      unfold Ln.stepG
      rw [if_neg hr2]
      unfold touchOf
      rw [hla]
    rw [e] at q
    have hw := rd_lt tr2
    ((try simp [-sSeq, -dat_ref, sSeqK, small, lim, big, me2, x2.1, tr2]); (repeat (first | ((with_reducible refine kont_go ?_); try simp [-sSeq, -dat_ref, sSeqK, small, lim, big, me2, x2.1, tr2]) | ((with_reducible refine And.intro ?_ ?_); · omega))))
    refine last_touch_spec x2 ?_
    rw [hla]
    ((try simp [-sSeq, -dat_ref, sSeqK, small, lim, big, me2, tr2, hw, lastV]); (repeat (first | ((with_reducible refine kont_go ?_); try simp [-sSeq, -dat_ref, sSeqK, small, lim, big, me2, tr2, hw, lastV]) | ((with_reducible refine And.intro ?_ ?_); · omega))))
    rw [show l.tr.map trV ++ [.tup [.str "giver", .str d, .int c, .int v]] = (l.tr ++ [("giver", d, c, v)]).map trV by simp [trV]]
    generalize hh : put h2 25 _ = h3
    obtain ⟨K3, z3⟩ := set_of hh tr2 (by decide)
    have S3 := K3.x (S := fun q j => q = 25 ∧ j = ρ.wk) ⟨rfl, rfl⟩
    exact q h3 ⟨K3.rd me2, x2.ke K3 (by decide) (by decide), y2.kx S3 (by simp) (by simp) (by simp) (by simp), tk2.kx S3 (by simp) (by simp) (by simp) (by simp) (by simp), z3, ne⟩ ((K2.mono sub).trans (S3.mono (by rintro q j ⟨rfl, rfl⟩; simp [SLn])))
theorem lane_step_t {h : MH} {i : Nat} {ρ : Rf} {l : Ln} {Q : QV} {E : QX} (x : LaneAt h i ρ l) (o : l.b.ok) (ok : TOk l.b l.u) (hl : l.tr.length < 100000)
    (q : ∀ h' ρ', LaneAt h' i ρ' l.stepT → RNew h ρ ρ' → Kx (SLn i ρ) h h' → Q (.bl true) h') : F_Lane_step [.ref 13 i, .str "taker"] h Q E := by
  ((try simp [-sSeq, -dat_ref, sSeqK, small, lim, big, F_Lane_step_eq, x.me]); (repeat (first | ((with_reducible refine kont_go ?_); try simp [-sSeq, -dat_ref, sSeqK, small, lim, big, F_Lane_step_eq, x.me]) | ((with_reducible refine And.intro ?_ ?_); · omega))))
  refine hand_of_t x ?_
  ((try simp [-sSeq, -dat_ref, sSeqK, small, lim, big, x.tk.1]); (repeat (first | ((with_reducible refine kont_go ?_); try simp [-sSeq, -dat_ref, sSeqK, small, lim, big, x.tk.1]) | ((with_reducible refine And.intro ?_ ?_); · omega))))
  refine taker_step o x.bd x.tk ok fun h2 p' hp x2 y2 K2 => ?_
  have sub : ∀ q j, ST ρ.b ρ.k ρ.t ρ.st ρ.wt ρ.pt q j → SLn i ρ q j := by
    rintro q j (⟨rfl, rfl⟩ | ⟨rfl, rfl⟩ | ⟨rfl, rfl⟩ | ⟨rfl, rfl⟩ | ⟨rfl, rfl⟩ | ⟨rfl, rfl⟩) <;> simp [SLn]
  have ne := x.ne
  have me2 := K2.rd x.me (by decide) (by simp [ST])
  have tr2 := K2.rd x.tr (by decide) (by simp [ST])
  have gv2 := x.gv.kx K2 (by simp [ST]) (by simp [ST]; omega) (by simp [ST]) (by simp [ST])
  obtain ⟨d, c, v, hla⟩ := tstep_last ok
  have e : l.stepT = ⟨(tstep l.b l.u).1, l.v, (tstep l.b l.u).2, l.tr ++ [("taker", d, c, v)]⟩ := by
    unfold Ln.stepT
    unfold touchOf
    rw [hla]
  rw [e] at q
  have hw := rd_lt tr2
  ((try simp [-sSeq, -dat_ref, sSeqK, small, lim, big, me2, x2.1, tr2]); (repeat (first | ((with_reducible refine kont_go ?_); try simp [-sSeq, -dat_ref, sSeqK, small, lim, big, me2, x2.1, tr2]) | ((with_reducible refine And.intro ?_ ?_); · omega))))
  refine last_touch_spec x2 ?_
  rw [hla]
  ((try simp [-sSeq, -dat_ref, sSeqK, small, lim, big, me2, tr2, hw, lastV]); (repeat (first | ((with_reducible refine kont_go ?_); try simp [-sSeq, -dat_ref, sSeqK, small, lim, big, me2, tr2, hw, lastV]) | ((with_reducible refine And.intro ?_ ?_); · omega))))
  rw [show l.tr.map trV ++ [.tup [.str "taker", .str d, .int c, .int v]] = (l.tr ++ [("taker", d, c, v)]).map trV by simp [trV]]
  generalize hh : put h2 25 _ = h3
  obtain ⟨K3, z3⟩ := set_of hh tr2 (by decide)
  have S3 := K3.x (S := fun q j => q = 25 ∧ j = ρ.wk) ⟨rfl, rfl⟩
  exact q h3 { ρ with pt := p' } ⟨K3.rd me2, x2.ke K3 (by decide) (by decide), gv2.kx S3 (by simp) (by simp) (by simp) (by simp), y2.kx S3 (by simp) (by simp) (by simp) (by simp) (by simp), z3, ne⟩ { RNew.refl h ρ with pt := hp } ((K2.mono sub).trans (S3.mono (by rintro q j ⟨rfl, rfl⟩; simp [SLn])))
theorem lane_step_bad {h : MH} {i : Nat} {s : String} {ρ : Rf} {l : Ln} {Q : QV} {E : QX} (x : LaneAt h i ρ l) (hs : ¬ isHand s) (q : E "NoHand" h) : F_Lane_step [.ref 13 i, .str s] h Q E := by
  ((try simp [-sSeq, -dat_ref, sSeqK, small, lim, big, F_Lane_step_eq, x.me]); (repeat (first | ((with_reducible refine kont_go ?_); try simp [-sSeq, -dat_ref, sSeqK, small, lim, big, F_Lane_step_eq, x.me]) | ((with_reducible refine And.intro ?_ ?_); · omega))))
  exact hand_of_bad hs q
theorem lane_fall_g {h : MH} {i : Nat} {ρ : Rf} {l : Ln} {Q : QV} {E : QX} (x : LaneAt h i ρ l) (ok : ∀ o ∈ l.v.wares, 1 ≤ o.length ∧ o.length ≤ l.b.size) (hl : l.v.wares.length < lim)
    (q : ∀ h' ρ', LaneAt h' i ρ' l.fallG → RNew h ρ ρ' → Kx (SLn i ρ) h h' → Q .non h') : F_Lane_fall [.ref 13 i, .str "giver"] h Q E := by
  ((try simp [-sSeq, -dat_ref, sSeqK, small, lim, big, F_Lane_fall_eq]); (repeat (first | ((with_reducible refine kont_go ?_); try simp [-sSeq, -dat_ref, sSeqK, small, lim, big, F_Lane_fall_eq]) | ((with_reducible refine And.intro ?_ ?_); · omega))))
  refine hand_ok (Or.inl rfl) ?_
  ((try simp [-sSeq, -dat_ref, sSeqK, small, lim, big, x.me, x.gv.1]); (repeat (first | ((with_reducible refine kont_go ?_); try simp [-sSeq, -dat_ref, sSeqK, small, lim, big, x.me, x.gv.1]) | ((with_reducible refine And.intro ?_ ?_); · omega))))
  refine orders_spec x.gv hl fun h2 refs z2 L2 G2 => ?_
  have x2 := x.gr G2
  try simp [-sSeq, -dat_ref, sSeqK, small, lim, x2.me]
  generalize hh : put h2 11 _ = h3
  obtain ⟨G3, z3⟩ := new_of hh (by decide)
  refine giver_make G3 z3 x2.bd (by decide) (by decide) z2 L2 hl ok fun h4 s w ls lw y4 G4 => ?_
  have x4 := x2.gr G4
  have hi := rd_lt x4.me
  have l11 := len_gr (r := 11) (by decide) G2
  have l22 := len_gr (r := 22) (by decide) (G2.trans G3)
  have l21 := len_gr (r := 21) (by decide) (G2.trans G3)
  have stl : ρ.st < (h3 22).length := Nat.lt_of_lt_of_le (rd_lt x2.tk.2.1) (len_gr (by decide) G3)
  ((try simp [-sSeq, -dat_ref, sSeqK, small, lim, big, x4.me, hi]); (repeat (first | ((with_reducible refine kont_go ?_); try simp [-sSeq, -dat_ref, sSeqK, small, lim, big, x4.me, hi]) | ((with_reducible refine And.intro ?_ ?_); · omega))))
  generalize hh : put h4 13 _ = h5
  obtain ⟨K5, z5⟩ := set_of hh x4.me (by decide)
  have S5 := K5.x (S := fun q j => q = 13 ∧ j = i) ⟨rfl, rfl⟩
  exact q h5 { ρ with g := (h2 11).length, sg := s, wg := w } ⟨z5, x4.bd.ke K5 (by decide) (by decide), y4.kx S5 (by simp) (by simp) (by simp) (by simp), x4.tk.kx S5 (by simp) (by simp) (by simp) (by simp) (by simp), K5.rd x4.tr, show s ≠ ρ.st by omega⟩
    { RNew.refl h ρ with g := Or.inr l11, sg := Or.inr (by show (h 22).length ≤ s; omega), wg := Or.inr (by show (h 21).length ≤ w; omega) } (((G2.trans G4).x _).trans (S5.mono (by rintro q j ⟨rfl, rfl⟩; simp [SLn])))
theorem lane_fall_t {h : MH} {i : Nat} {ρ : Rf} {l : Ln} {Q : QV} {E : QX} (x : LaneAt h i ρ l) (ok : ∀ o ∈ l.u.taken, 1 ≤ o.length ∧ o.length ≤ l.b.size) (hl : l.u.taken.length < lim)
    (q : ∀ h' ρ', LaneAt h' i ρ' l.fallT → RNew h ρ ρ' → Kx (SLn i ρ) h h' → Q .non h') : F_Lane_fall [.ref 13 i, .str "taker"] h Q E := by
  ((try simp [-sSeq, -dat_ref, sSeqK, small, lim, big, F_Lane_fall_eq]); (repeat (first | ((with_reducible refine kont_go ?_); try simp [-sSeq, -dat_ref, sSeqK, small, lim, big, F_Lane_fall_eq]) | ((with_reducible refine And.intro ?_ ?_); · omega))))
  refine hand_ok (Or.inr rfl) ?_
  ((try simp [-sSeq, -dat_ref, sSeqK, small, lim, big, x.me, x.tk.1]); (repeat (first | ((with_reducible refine kont_go ?_); try simp [-sSeq, -dat_ref, sSeqK, small, lim, big, x.me, x.tk.1]) | ((with_reducible refine And.intro ?_ ?_); · omega))))
  refine book_spec x.tk hl fun h2 refs z2 L2 G2 => ?_
  have x2 := x.gr G2
  try simp [-sSeq, -dat_ref, sSeqK, small, lim, x2.me]
  generalize hh : put h2 12 _ = h3
  obtain ⟨G3, z3⟩ := new_of hh (by decide)
  refine taker_make G3 z3 x2.bd (by decide) (by decide) z2 L2 hl ok fun h4 s w p ls lw lp y4 G4 => ?_
  have x4 := x2.gr G4
  have hi := rd_lt x4.me
  have l12 := len_gr (r := 12) (by decide) G2
  have l22 := len_gr (r := 22) (by decide) (G2.trans G3)
  have l23 := len_gr (r := 23) (by decide) (G2.trans G3)
  have l24 := len_gr (r := 24) (by decide) (G2.trans G3)
  have sgl : ρ.sg < (h3 22).length := Nat.lt_of_lt_of_le (rd_lt x2.gv.2.1) (len_gr (by decide) G3)
  ((try simp [-sSeq, -dat_ref, sSeqK, small, lim, big, x4.me, hi]); (repeat (first | ((with_reducible refine kont_go ?_); try simp [-sSeq, -dat_ref, sSeqK, small, lim, big, x4.me, hi]) | ((with_reducible refine And.intro ?_ ?_); · omega))))
  generalize hh : put h4 13 _ = h5
  obtain ⟨K5, z5⟩ := set_of hh x4.me (by decide)
  have S5 := K5.x (S := fun q j => q = 13 ∧ j = i) ⟨rfl, rfl⟩
  exact q h5 { ρ with t := (h2 12).length, st := s, wt := w, pt := p } ⟨z5, x4.bd.ke K5 (by decide) (by decide), x4.gv.kx S5 (by simp) (by simp) (by simp) (by simp), y4.kx S5 (by simp) (by simp) (by simp) (by simp) (by simp), K5.rd x4.tr, show ρ.sg ≠ s by omega⟩
    { RNew.refl h ρ with t := Or.inr l12, st := Or.inr (by show (h 22).length ≤ s; omega), wt := Or.inr (by show (h 23).length ≤ w; omega), pt := Or.inr (by show (h 24).length ≤ p; omega) } (((G2.trans G4).x _).trans (S5.mono (by rintro q j ⟨rfl, rfl⟩; simp [SLn])))
theorem lane_fall_bad {h : MH} {i : Nat} {s : String} {Q : QV} {E : QX} (hs : ¬ isHand s) (q : E "NoHand" h) : F_Lane_fall [.ref 13 i, .str s] h Q E := by
  ((try simp [-sSeq, -dat_ref, sSeqK, small, lim, big, F_Lane_fall_eq]); (repeat (first | ((with_reducible refine kont_go ?_); try simp [-sSeq, -dat_ref, sSeqK, small, lim, big, F_Lane_fall_eq]) | ((with_reducible refine And.intro ?_ ?_); · omega))))
  exact hand_bad hs q
theorem lane_add {h : MH} {i r j : Nat} {o : List Int} {ρ : Rf} {l : Ln} {Q : QV} {E : QX} (x : LaneAt h i ρ l) (z : rd h r j = some (.lst (o.map .int))) (h1 : 1 ≤ o.length) (h2 : o.length ≤ l.b.size) (hl : l.v.wares.length < 100000)
    (q : ∀ h', LaneAt h' i ρ (l.add o) → Kx (SLn i ρ) h h' → Q (.int l.v.wares.length) h') : F_Lane_hand_in [.ref 13 i, .ref r j] h Q E := by
  ((try simp [-sSeq, -dat_ref, sSeqK, small, lim, big, F_Lane_hand_in_eq, x.me, x.gv.1]); (repeat (first | ((with_reducible refine kont_go ?_); try simp [-sSeq, -dat_ref, sSeqK, small, lim, big, F_Lane_hand_in_eq, x.me, x.gv.1]) | ((with_reducible refine And.intro ?_ ?_); · omega))))
  refine add_ok x.bd x.gv z h1 h2 hl fun h3 y3 K3 => ?_
  exact q h3 ⟨K3.rd x.me, ⟨K3.rd x.bd.1, K3.rd x.bd.2⟩, y3, x.tk.kx K3 (by simp) (by simp) (by simp) (by simp) (by simp), K3.rd x.tr, x.ne⟩ (K3.mono (by rintro q j ⟨rfl, rfl⟩; simp [SLn]))
theorem lane_add_bad {h : MH} {i r j : Nat} {o : List Int} {ρ : Rf} {l : Ln} {Q : QV} {E : QX} (x : LaneAt h i ρ l) (z : rd h r j = some (.lst (o.map .int))) (hb : o.length < 1 ∨ l.b.size < o.length) (q : E "BadOrder" h) : F_Lane_hand_in [.ref 13 i, .ref r j] h Q E := by
  ((try simp [-sSeq, -dat_ref, sSeqK, small, lim, big, F_Lane_hand_in_eq, x.me, x.gv.1]); (repeat (first | ((with_reducible refine kont_go ?_); try simp [-sSeq, -dat_ref, sSeqK, small, lim, big, F_Lane_hand_in_eq, x.me, x.gv.1]) | ((with_reducible refine And.intro ?_ ?_); · omega))))
  exact add_bad x.bd x.gv z hb q
theorem lane_book {h : MH} {i : Nat} {ρ : Rf} {l : Ln} {Q : QV} {E : QX} (x : LaneAt h i ρ l) (hl : l.u.taken.length < lim)
    (q : ∀ h' refs, rd h' 233 (h 233).length = some (.lst refs) → Lists h' 232 refs l.u.taken → Gr h h' → Q (.ref 233 (h 233).length) h') : F_Lane_book [.ref 13 i] h Q E := by
  ((try simp [-sSeq, -dat_ref, sSeqK, small, lim, big, F_Lane_book_eq, x.me, x.tk.1]); (repeat (first | ((with_reducible refine kont_go ?_); try simp [-sSeq, -dat_ref, sSeqK, small, lim, big, F_Lane_book_eq, x.me, x.tk.1]) | ((with_reducible refine And.intro ?_ ?_); · omega))))
  exact book_spec x.tk hl q
theorem lane_orders {h : MH} {i : Nat} {ρ : Rf} {l : Ln} {Q : QV} {E : QX} (x : LaneAt h i ρ l) (hl : l.v.wares.length < lim)
    (q : ∀ h' refs, rd h' 231 (h 231).length = some (.lst refs) → Lists h' 230 refs l.v.wares → Gr h h' → Q (.ref 231 (h 231).length) h') : F_Lane_orders [.ref 13 i] h Q E := by
  ((try simp [-sSeq, -dat_ref, sSeqK, small, lim, big, F_Lane_orders_eq, x.me, x.gv.1]); (repeat (first | ((with_reducible refine kont_go ?_); try simp [-sSeq, -dat_ref, sSeqK, small, lim, big, F_Lane_orders_eq, x.me, x.gv.1]) | ((with_reducible refine And.intro ?_ ?_); · omega))))
  exact orders_spec x.gv hl q
theorem lane_cells {h : MH} {i : Nat} {ρ : Rf} {l : Ln} {Q : QV} {E : QX} (x : LaneAt h i ρ l) (q : ∀ h', rd h' 207 (h 207).length = some (.lst (l.b.cells.map .int)) → Gr h h' → Q (.ref 207 (h 207).length) h') : F_Lane_cells [.ref 13 i] h Q E := by
  ((try simp [-sSeq, -dat_ref, sSeqK, small, lim, big, F_Lane_cells_eq, x.me, x.bd.1]); (repeat (first | ((with_reducible refine kont_go ?_); try simp [-sSeq, -dat_ref, sSeqK, small, lim, big, F_Lane_cells_eq, x.me, x.bd.1]) | ((with_reducible refine And.intro ?_ ?_); · omega))))
  exact all_cells_spec x.bd q
theorem lane_trail {h : MH} {i : Nat} {ρ : Rf} {l : Ln} {Q : QV} {E : QX} (x : LaneAt h i ρ l) (q : ∀ h', rd h' 234 (h 234).length = some (.lst (l.tr.map trV)) → Gr h h' → Q (.ref 234 (h 234).length) h') : F_Lane_trail [.ref 13 i] h Q E := by
  ((try simp [-sSeq, -dat_ref, sSeqK, small, lim, big, F_Lane_trail_eq, x.me, x.tr]); (repeat (first | ((with_reducible refine kont_go ?_); try simp [-sSeq, -dat_ref, sSeqK, small, lim, big, F_Lane_trail_eq, x.me, x.tr]) | ((with_reducible refine And.intro ?_ ?_); · omega))))
  (try dsimp only); generalize hh : put h 234 _ = h1 at *; obtain ⟨G1, z1⟩ := new_of hh (by decide); clear hh
  exact q _ z1 G1
theorem lane_stage_g {h : MH} {i : Nat} {ρ : Rf} {l : Ln} {Q : QV} {E : QX} (x : LaneAt h i ρ l) (q : Q (.str l.v.here.name) h) : F_Lane_stage [.ref 13 i, .str "giver"] h Q E := by
  ((try simp [-sSeq, -dat_ref, sSeqK, small, lim, big, F_Lane_stage_eq, x.me]); (repeat (first | ((with_reducible refine kont_go ?_); try simp [-sSeq, -dat_ref, sSeqK, small, lim, big, F_Lane_stage_eq, x.me]) | ((with_reducible refine And.intro ?_ ?_); · omega))))
  refine hand_of_g x ?_
  ((try simp [-sSeq, -dat_ref, sSeqK, small, lim, big, x.gv.1]); (repeat (first | ((with_reducible refine kont_go ?_); try simp [-sSeq, -dat_ref, sSeqK, small, lim, big, x.gv.1]) | ((with_reducible refine And.intro ?_ ?_); · omega))))
  ((try simp [-sSeq, -dat_ref, sSeqK, small, lim, big, F_Hand_stage_eq, x.gv.1]); (repeat (first | ((with_reducible refine kont_go ?_); try simp [-sSeq, -dat_ref, sSeqK, small, lim, big, F_Hand_stage_eq, x.gv.1]) | ((with_reducible refine And.intro ?_ ?_); · omega))))
  exact q
theorem lane_stage_t {h : MH} {i : Nat} {ρ : Rf} {l : Ln} {Q : QV} {E : QX} (x : LaneAt h i ρ l) (q : Q (.str l.u.here.name) h) : F_Lane_stage [.ref 13 i, .str "taker"] h Q E := by
  ((try simp [-sSeq, -dat_ref, sSeqK, small, lim, big, F_Lane_stage_eq, x.me]); (repeat (first | ((with_reducible refine kont_go ?_); try simp [-sSeq, -dat_ref, sSeqK, small, lim, big, F_Lane_stage_eq, x.me]) | ((with_reducible refine And.intro ?_ ?_); · omega))))
  refine hand_of_t x ?_
  ((try simp [-sSeq, -dat_ref, sSeqK, small, lim, big, x.tk.1, tb1_ne]); (repeat (first | ((with_reducible refine kont_go ?_); try simp [-sSeq, -dat_ref, sSeqK, small, lim, big, x.tk.1, tb1_ne]) | ((with_reducible refine And.intro ?_ ?_); · omega))))
  ((try simp [-sSeq, -dat_ref, sSeqK, small, lim, big, F_Hand_stage_eq, x.tk.1]); (repeat (first | ((with_reducible refine kont_go ?_); try simp [-sSeq, -dat_ref, sSeqK, small, lim, big, F_Hand_stage_eq, x.tk.1]) | ((with_reducible refine And.intro ?_ ?_); · omega))))
  exact q
theorem lane_turn_g {h : MH} {i : Nat} {ρ : Rf} {l : Ln} {Q : QV} {E : QX} (x : LaneAt h i ρ l) (q : Q (spotV l.v.spot) h) : F_Lane_turn [.ref 13 i, .str "giver"] h Q E := by
  ((try simp [-sSeq, -dat_ref, sSeqK, small, lim, big, F_Lane_turn_eq, x.me]); (repeat (first | ((with_reducible refine kont_go ?_); try simp [-sSeq, -dat_ref, sSeqK, small, lim, big, F_Lane_turn_eq, x.me]) | ((with_reducible refine And.intro ?_ ?_); · omega))))
  refine hand_of_g x ?_
  ((try simp [-sSeq, -dat_ref, sSeqK, small, lim, big, x.gv.1]); (repeat (first | ((with_reducible refine kont_go ?_); try simp [-sSeq, -dat_ref, sSeqK, small, lim, big, x.gv.1]) | ((with_reducible refine And.intro ?_ ?_); · omega))))
  ((try simp [-sSeq, -dat_ref, sSeqK, small, lim, big, F_Hand_turn_eq, x.gv.1]); (repeat (first | ((with_reducible refine kont_go ?_); try simp [-sSeq, -dat_ref, sSeqK, small, lim, big, F_Hand_turn_eq, x.gv.1]) | ((with_reducible refine And.intro ?_ ?_); · omega))))
  exact q
theorem lane_turn_t {h : MH} {i : Nat} {ρ : Rf} {l : Ln} {Q : QV} {E : QX} (x : LaneAt h i ρ l) (q : Q (spotV l.u.spot) h) : F_Lane_turn [.ref 13 i, .str "taker"] h Q E := by
  ((try simp [-sSeq, -dat_ref, sSeqK, small, lim, big, F_Lane_turn_eq, x.me]); (repeat (first | ((with_reducible refine kont_go ?_); try simp [-sSeq, -dat_ref, sSeqK, small, lim, big, F_Lane_turn_eq, x.me]) | ((with_reducible refine And.intro ?_ ?_); · omega))))
  refine hand_of_t x ?_
  ((try simp [-sSeq, -dat_ref, sSeqK, small, lim, big, x.tk.1, tb1_ne]); (repeat (first | ((with_reducible refine kont_go ?_); try simp [-sSeq, -dat_ref, sSeqK, small, lim, big, x.tk.1, tb1_ne]) | ((with_reducible refine And.intro ?_ ?_); · omega))))
  ((try simp [-sSeq, -dat_ref, sSeqK, small, lim, big, F_Hand_turn_eq, x.tk.1]); (repeat (first | ((with_reducible refine kont_go ?_); try simp [-sSeq, -dat_ref, sSeqK, small, lim, big, F_Hand_turn_eq, x.tk.1]) | ((with_reducible refine And.intro ?_ ?_); · omega))))
  exact q
theorem lane_still_g {h : MH} {i : Nat} {ρ : Rf} {l : Ln} {Q : QV} {E : QX} (x : LaneAt h i ρ l) (o : l.b.ok) (q : Q (.bl (l.v.still l.b)) h) : F_Lane_still [.ref 13 i, .str "giver"] h Q E := by
  ((try simp [-sSeq, -dat_ref, sSeqK, small, lim, big, F_Lane_still_eq, x.me]); (repeat (first | ((with_reducible refine kont_go ?_); try simp [-sSeq, -dat_ref, sSeqK, small, lim, big, F_Lane_still_eq, x.me]) | ((with_reducible refine And.intro ?_ ?_); · omega))))
  refine hand_of_g x ?_
  ((try simp [-sSeq, -dat_ref, sSeqK, small, lim, big, x.gv.1]); (repeat (first | ((with_reducible refine kont_go ?_); try simp [-sSeq, -dat_ref, sSeqK, small, lim, big, x.gv.1]) | ((with_reducible refine And.intro ?_ ?_); · omega))))
  exact gstill_spec o x.bd x.gv q
theorem lane_still_t {h : MH} {i : Nat} {ρ : Rf} {l : Ln} {Q : QV} {E : QX} (x : LaneAt h i ρ l) (o : l.b.ok) (q : Q (.bl (l.u.sleeps l.b)) h) : F_Lane_still [.ref 13 i, .str "taker"] h Q E := by
  ((try simp [-sSeq, -dat_ref, sSeqK, small, lim, big, F_Lane_still_eq, x.me]); (repeat (first | ((with_reducible refine kont_go ?_); try simp [-sSeq, -dat_ref, sSeqK, small, lim, big, F_Lane_still_eq, x.me]) | ((with_reducible refine And.intro ?_ ?_); · omega))))
  refine hand_of_t x ?_
  ((try simp [-sSeq, -dat_ref, sSeqK, small, lim, big, x.tk.1]); (repeat (first | ((with_reducible refine kont_go ?_); try simp [-sSeq, -dat_ref, sSeqK, small, lim, big, x.tk.1]) | ((with_reducible refine And.intro ?_ ?_); · omega))))
  exact tstill_spec o x.bd x.tk q
theorem lane_bad {h : MH} {i : Nat} {s : String} {ρ : Rf} {l : Ln} {Q : QV} {E : QX} (x : LaneAt h i ρ l) (hs : ¬ isHand s) (q : E "NoHand" h) : F_Lane_stage [.ref 13 i, .str s] h Q E ∧ F_Lane_turn [.ref 13 i, .str s] h Q E ∧ F_Lane_still [.ref 13 i, .str s] h Q E := by
  refine ⟨?_, ?_, ?_⟩
  · ((try simp [-sSeq, -dat_ref, sSeqK, small, lim, big, F_Lane_stage_eq, x.me]); (repeat (first | ((with_reducible refine kont_go ?_); try simp [-sSeq, -dat_ref, sSeqK, small, lim, big, F_Lane_stage_eq, x.me]) | ((with_reducible refine And.intro ?_ ?_); · omega))))
    exact hand_of_bad hs q
  · ((try simp [-sSeq, -dat_ref, sSeqK, small, lim, big, F_Lane_turn_eq, x.me]); (repeat (first | ((with_reducible refine kont_go ?_); try simp [-sSeq, -dat_ref, sSeqK, small, lim, big, F_Lane_turn_eq, x.me]) | ((with_reducible refine And.intro ?_ ?_); · omega))))
    exact hand_of_bad hs q
  · ((try simp [-sSeq, -dat_ref, sSeqK, small, lim, big, F_Lane_still_eq, x.me]); (repeat (first | ((with_reducible refine kont_go ?_); try simp [-sSeq, -dat_ref, sSeqK, small, lim, big, F_Lane_still_eq, x.me]) | ((with_reducible refine And.intro ?_ ?_); · omega))))
    exact hand_of_bad hs q
theorem lane_quiet {h : MH} {i : Nat} {ρ : Rf} {l : Ln} {Q : QV} {E : QX} (x : LaneAt h i ρ l) (o : l.b.ok) (q : Q (.bl (l.v.still l.b && l.u.sleeps l.b)) h) : F_Lane_quiet [.ref 13 i] h Q E := by
  ((try simp [-sSeq, -dat_ref, sSeqK, small, lim, big, F_Lane_quiet_eq, x.me, x.gv.1]); (repeat (first | ((with_reducible refine kont_go ?_); try simp [-sSeq, -dat_ref, sSeqK, small, lim, big, F_Lane_quiet_eq, x.me, x.gv.1]) | ((with_reducible refine And.intro ?_ ?_); · omega))))
  refine gstill_spec o x.bd x.gv ?_
  cases hr : l.v.still l.b with
  | false => rw [hr] at q; ((try simp [-sSeq, -dat_ref, sSeqK, small, lim, big]); (repeat (first | ((with_reducible refine kont_go ?_); try simp [-sSeq, -dat_ref, sSeqK, small, lim, big]) | ((with_reducible refine And.intro ?_ ?_); · omega)))); simpa using q
  | true =>
    rw [hr] at q
    ((try simp [-sSeq, -dat_ref, sSeqK, small, lim, big, x.me, x.tk.1]); (repeat (first | ((with_reducible refine kont_go ?_); try simp [-sSeq, -dat_ref, sSeqK, small, lim, big, x.me, x.tk.1]) | ((with_reducible refine And.intro ?_ ?_); · omega))))
    refine tstill_spec o x.bd x.tk ?_
    simpa using q
end Mi
end TxSLane

section TxSWeave
set_option autoImplicit false
set_option linter.all false
set_option maxRecDepth 100000
set_option maxHeartbeats 4000000
namespace Mi
theorem none_end (h : MH) (r : Nat) : rd h r (h r).length = none := List.getElem?_eq_none (Nat.le_refl _)
/-- a drawn order -/
theorem order_spec {h : MH} {w n : Nat} {Q : QV} {E : QX} (wl : WellAt h w) (n2 : 2 ≤ n) (n8 : n ≤ 8)
    (q : ∀ h' j (o : List Int), 1 ≤ o.length → o.length ≤ n → rd h' 240 j = some (.lst (o.map .int)) → (h 240).length ≤ j → Gr h h' → Q (.ref 240 j) h') : F_law_order [.ref 1 w, .int n] h Q E := by
  ((try simp [-sSeq, -dat_ref, sSeqK, small, lim, big, F_law_order_eq]); (repeat (first | ((with_reducible refine kont_go ?_); try simp [-sSeq, -dat_ref, sSeqK, small, lim, big, F_law_order_eq]) | ((with_reducible refine And.intro ?_ ?_); · omega))))
  refine take_gr wl (by omega) (le_dmax (by omega)) fun way h1 a1 b1 G1 => ?_
  have e240 : (h 240).length ≤ (h1 240).length := len_gr (by decide) G1
  refine kont_go ?_; simp [-sSeq, -dat_ref, sSeqK, small, lim, big]
  (try dsimp only); generalize hh : put h1 240 _ = h2 at *; obtain ⟨G2, z2⟩ := new_of hh (by decide); clear hh
  have G12 := G1.trans G2
  have z240 : rd h 240 (h1 240).length = none := List.getElem?_eq_none e240
  refine kont_go ?_; simp [-sSeq, -dat_ref, sSeqK, small, lim, big]
  refine take_gr (G12.w wl) (by omega) (le_dmax (by omega)) fun g3 h3 a3 b3 G3 => ?_
  simp [-sSeq, -dat_ref, sSeqK, small, lim]
  (try dsimp only); generalize hh : put h3 241 _ = h4 at *; obtain ⟨G4, z4⟩ := new_of hh (by decide); clear hh
  have G34 := G12.trans (G3.trans G4)
  have z5 := G4.rd (G3.rd z2)
  obtain ⟨m, hm, m1, mn⟩ : ∃ m : Nat, atI [MV.int 1, .int n, .int (1 + g3)] way = some (.int m) ∧ 1 ≤ m ∧ m ≤ n := by
    have : way = 0 ∨ way = 1 ∨ way = 2 := by omega
    rcases this with rfl | rfl | rfl
    · exact ⟨1, rfl, by omega, by omega⟩
    · exact ⟨n, rfl, by omega, by omega⟩
    · exact ⟨(1 + g3).toNat, by show some (MV.int (1 + g3)) = _; rw [Int.toNat_of_nonneg (by omega)], by omega, by omega⟩
  simp [-sSeq, -dat_ref, sSeqK, small, lim, z4, hm]
  refine ⟨by omega, ?_⟩
  clear z4 z2
  refine forL_inv (fun k σ h' => Gr h h' ∧ k ≤ m ∧ ∃ (o : List Int) (a b : Option MV), o.length = k ∧ rd h' 240 (h1 240).length = some (.lst (o.map .int)) ∧ σ = [some (.ref 1 w), some (.int n), some (.int way), some (.ref 240 (h1 240).length), a, b]) _ 0 _ _ ⟨G34, Nat.zero_le _, [], none, none, rfl, z5, rfl⟩ (fun _ _ _ _ => True.intro) ?_ ?_
  · rintro k x σ h5 N hk ⟨G, hkm, o, a, b, ol, z, rfl⟩ hN
    obtain ⟨hj, rfl⟩ := rng_at hk
    ((try simp [-sSeq, -dat_ref, sSeqK, small, lim, big]); (repeat (first | ((with_reducible refine kont_go ?_); try simp [-sSeq, -dat_ref, sSeqK, small, lim, big]) | ((with_reducible refine And.intro ?_ ?_); · omega))))
    refine take_gr (G.w wl) (by omega) (le_dmax (by omega)) fun g6 h6 a6 b6 G6 => ?_
    have z6 := G6.rd z
    have hz := rd_lt z6
    refine kont_go ?_; simp [-sSeq, -dat_ref, sSeqK, small, lim, big, z6]
    refine take_gr ((G.trans G6).w wl) (by omega) (le_dmax (by omega)) fun g7 h7 a7 b7 G7 => ?_
    simp [-sSeq, -dat_ref, sSeqK, small, lim]
    (try dsimp only); generalize hh : put h7 242 _ = h8 at *; obtain ⟨G8, z8⟩ := new_of hh (by decide); clear hh
    have G78 := G7.trans G8
    refine take_gr (((G.trans G6).trans G78).w wl) (by omega) (le_dmax (by omega)) fun g9 h9 a9 b9 G9 => ?_
    have z9 := (G78.trans G9).rd z6
    have z8 := G9.rd z8
    have hz9 := rd_lt z9
    obtain ⟨v, hv⟩ : ∃ v : Int, atI [MV.int (g7 - 4), MV.int (g6 - 50000000000000000000000000000000000000000000000000000000000)] (g9 / 4) = some (.int v) := by
      have : g9 / 4 = 0 ∨ g9 / 4 = 1 := by omega
      rcases this with e | e
      · exact ⟨_, by rw [e]; rfl⟩
      · exact ⟨_, by rw [e]; rfl⟩
    have hd : (4 : Int) ≤ dmax := le_dmax (by omega)
    simp [-sSeq, -dat_ref, sSeqK, small, lim, z8, hv, z9, hd]
    refine ⟨by omega, ?_⟩
    rw [show o.map MV.int ++ [.int v] = (o ++ [v]).map .int by simp]
    generalize hh : put h9 240 _ = h10
    obtain ⟨K10, z10⟩ := set_of hh z9 (by decide)
    exact hN _ _ ⟨gr_ke (((G.trans G6).trans G78).trans G9) K10 z240, by omega, o ++ [v], _, _, by simp [ol], z10, rfl⟩
  · rintro σ h5 ⟨G, hkm, o, a, b, ol, z, rfl⟩
    rw [rng_size] at ol
    ((try simp [-sSeq, -dat_ref, sSeqK, small, lim, big]); (repeat (first | ((with_reducible refine kont_go ?_); try simp [-sSeq, -dat_ref, sSeqK, small, lim, big]) | ((with_reducible refine And.intro ?_ ?_); · omega))))
    exact q h5 _ o (by omega) (by omega) z e240 G
def Wells (h : MH) (refs : List MV) : Prop := ∀ x ∈ refs, ∃ j, x = .ref 1 j ∧ WellAt h j
theorem Wells.gr {h h' : MH} {refs : List MV} (w : Wells h refs) (g : Gr h h') : Wells h' refs := fun x hx => by
  obtain ⟨j, e, z⟩ := w x hx
  exact ⟨j, e, g.w z⟩
theorem Wells.at_ {h : MH} {refs : List MV} (w : Wells h refs) {k : Nat} (hk : k < refs.length) : ∃ j, refs[k]? = some (.ref 1 j) ∧ WellAt h j := by
  obtain ⟨j, e, z⟩ := w refs[k] (List.getElem_mem hk)
  exact ⟨j, by rw [List.getElem?_eq_getElem hk, e], z⟩
/-- a weaving -/
theorem moves_spec {xs : List MV} {h : MH} {most : Nat} {Q : QV} {E : QX} (hi : ∀ x ∈ xs, ∃ i, x = .int i) (hx : xs.length ≤ 63) (hm : most ≤ 1000)
    (q : ∀ h' j (ms : List Int), ms.length ≤ most → (∀ m ∈ ms, 0 ≤ m ∧ m ≤ 4) → rd h' 252 j = some (.lst (ms.map .int)) → (h 252).length ≤ j → Gr h h' → Q (.ref 252 j) h') : F_law_moves [.cst xs, .int 1, .int most] h Q E := by
  ((try simp [-sSeq, -dat_ref, sSeqK, small, lim, big, F_law_moves_eq]); (repeat (first | ((with_reducible refine kont_go ?_); try simp [-sSeq, -dat_ref, sSeqK, small, lim, big, F_law_moves_eq]) | ((with_reducible refine And.intro ?_ ?_); · omega))))
  generalize hcn : Int.toNat _ - 1 = cn
  have cb : 1 ≤ cn ∧ cn ≤ 62 := by
    split at hcn
    · split at hcn <;> omega
    · omega
  refine comp_inv (fun k acc h' => Gr h h' ∧ acc.length = k ∧ k ≤ cn ∧ Wells h' acc) _ 0 [] h ⟨Gr.refl h, rfl, Nat.zero_le _, fun x hx => absurd hx (List.not_mem_nil)⟩ (fun k acc h' => ?_) ?_ ?_
  · rintro ⟨G, a, b, _⟩
    exact ⟨True.intro, by rw [a]; unfold lim; omega⟩
  · rintro j x acc h1 N hj ⟨G, a, b, W⟩ hN
    obtain ⟨hj2, rfl⟩ := rng_at hj
    ((try simp [-sSeq, -dat_ref, sSeqK, small, lim, big]); (repeat (first | ((with_reducible refine kont_go ?_); try simp [-sSeq, -dat_ref, sSeqK, small, lim, big]) | ((with_reducible refine And.intro ?_ ?_); · omega))))
    rw [show (1 : Int) + j = ((1 + j : Nat) : Int) by omega]
    refine well_gr hi (by omega) fun h2 w2 G2 => ?_
    refine hN _ _ ⟨G.trans G2, by simp [a], by omega, fun x hx => ?_⟩
    rcases List.mem_append.mp hx with hx | hx
    · exact (W.gr G2) x hx
    · rw [List.mem_singleton] at hx; exact ⟨_, hx, w2⟩
  · rintro ws h1 ⟨G, a, b, W⟩
    rw [Nat.zero_add, rng_size] at a
    (try dsimp only); generalize hh : put h1 249 _ = h2 at *; obtain ⟨G2, z2⟩ := new_of hh (by decide); clear hh
    have G12 := G.trans G2
    replace W := W.gr G2
    obtain ⟨w0, e0, wl0⟩ := W.at_ (k := 0) (by omega)
    refine kont_go ?_; simp [-sSeq, -dat_ref, sSeqK, small, lim, big, z2, e0]
    refine kont_go ?_; simp [-sSeq, -dat_ref, sSeqK, small, lim, big]
    refine take_gr wl0 (by omega) (le_dmax (by omega)) fun lean h3 a3 b3 G3 => ?_
    refine kont_go ?_; simp [-sSeq, -dat_ref, sSeqK, small, lim, big]
    refine pickI_gr (P := fun m => 0 < m ∧ m ≤ 60) (ns := [8, 20, 60]) (G3.w wl0) (by decide) rfl rfl (by omega) (by omega) (by simp) fun rare h4 pr G4 => ?_
    refine kont_go ?_; simp [-sSeq, -dat_ref, sSeqK, small, lim, big]
    refine take_gr ((G3.trans G4).w wl0) (by omega) (le_dmax (by omega)) fun t5 h5 a5 b5 G5 => ?_
    have G35 := (G3.trans G4).trans G5
    refine pickI_gr (P := fun m => 0 ≤ m ∧ m ≤ most) (ns := [t5, (most : Int)]) (G35.w wl0) (by decide) rfl rfl (by omega) (by omega) (by simp; omega) fun many h6 pm G6 => ?_
    have G6 := G35.trans G6
    refine kont_go ?_; simp [-sSeq, -dat_ref, sSeqK, small, lim, big]
    (try dsimp only); generalize hh : put h6 252 _ = h7 at *; obtain ⟨G7, z7⟩ := new_of hh (by decide); clear hh
    have e252 : (h 252).length ≤ (h6 252).length := len_gr (by decide) (G12.trans G6)
    have z252 : rd h 252 (h6 252).length = none := List.getElem?_eq_none e252
    ((try simp [-sSeq, -dat_ref, sSeqK, small, lim, big]); (repeat (first | ((with_reducible refine kont_go ?_); try simp [-sSeq, -dat_ref, sSeqK, small, lim, big]) | ((with_reducible refine And.intro ?_ ?_); · omega))))
    refine forL_inv (fun k σ h' => Gr h h' ∧ Wells h' ws ∧ rd h' 249 (h1 249).length = some (.lst ws) ∧ ∃ (ms : List Int) (st who : Int) (x y z : Option MV), ms.length = k ∧ (∀ m ∈ ms, 0 ≤ m ∧ m ≤ 4) ∧ rd h' 252 (h6 252).length = some (.lst (ms.map .int)) ∧ 0 ≤ who ∧ who ≤ 1 ∧ σ = [some (.cst xs), some (.int 1), some (.int most), some (.ref 249 (h1 249).length), some (.ref 1 w0), some (.int lean), some (.int rare), some (.int many), some (.ref 252 (h6 252).length), some (.int st), some (.int who), x, y, z]) _ 0 _ _
      ⟨(G12.trans G6).trans G7, (W.gr G6).gr G7, G7.rd (G6.rd z2), [], 0, 0, none, none, none, rfl, fun m hm => absurd hm (List.not_mem_nil), z7, by omega, by omega, rfl⟩ (fun _ _ _ _ => True.intro) ?_ ?_
    · clear z7 G7
      rintro k x σ h8 N hk ⟨G, W8, z8, ms, st, who, y1, y2, y3, ml, mb, zm, who0, who1, rfl⟩ hN
      obtain ⟨hj, rfl⟩ := rng_at hk
      have hk1 : k % ws.length < ws.length := Nat.mod_lt _ (by omega)
      obtain ⟨w8, e8, wl8⟩ := W8.at_ hk1
      have hat : atI ws ((k : Int) % (ws.length : Int)) = some (.ref 1 w8) := by
        rw [← Int.natCast_emod, atI_nat]; exact e8
      ((try simp [-sSeq, -dat_ref, sSeqK, small, lim, big, z8, hat]); (repeat (first | ((with_reducible refine kont_go ?_); try simp [-sSeq, -dat_ref, sSeqK, small, lim, big, z8, hat]) | ((with_reducible refine And.intro ?_ ?_); · omega))))
      refine take_gr wl8 (by omega) (le_dmax (by omega)) fun way h9 a9 b9 G9 => ?_
      have z9 := G9.rd zm
      have hz := rd_lt z9
      have app : ∀ (m : Int) (σ : MS) (h : MH) (st who : Int) (y1 y2 y3 : Option MV), 0 ≤ m → m ≤ 4 → Gr h9 h → 0 ≤ who → who ≤ 1 → N [some (.cst xs), some (.int 1), some (.int most), some (.ref 249 (h1 249).length), some (.ref 1 w0), some (.int lean), some (.int rare), some (.int many), some (.ref 252 (h6 252).length), some (.int st), some (.int who), y1, y2, y3] (put h 252 ((h 252).set (h6 252).length (.lst (ms.map .int ++ [.int m])))) := fun m σ h st who y1 y2 y3 m0 m4 Gh w0 w1 => by
        have zh := Gh.rd z9
        rw [show ms.map MV.int ++ [.int m] = (ms ++ [m]).map .int by simp]
        generalize hh : put h 252 _ = h10
        obtain ⟨K10, z10⟩ := set_of hh zh (by decide)
        refine hN _ _ ⟨gr_ke ((G.trans G9).trans Gh) K10 z252, fun x hx => ?_, K10.rd (Gh.rd (G9.rd z8)), ms ++ [m], st, who, _, _, _, by simp [ml], ?_, z10, w0, w1, rfl⟩
        · obtain ⟨j, e, z⟩ := ((W8.gr G9).gr Gh) x hx
          exact ⟨j, e, K10.w z⟩
        · intro y hy
          rcases List.mem_append.mp hy with hy | hy
          · exact mb y hy
          · rw [List.mem_singleton] at hy; omega
      clear hN
      refine kont_go ?_; simp [-sSeq, -dat_ref, sSeqK, small, lim, big, z9, hz]
      by_cases c : way < 3
      · rw [if_pos c]
        exact ⟨by omega, app (2 + way) [] h9 _ _ _ _ _ (by omega) (by omega) (Gr.refl _) who0 who1⟩
      · rw [if_neg c]
        by_cases c0 : st = 0
        · rw [if_pos c0]
          refine take_gr (G9.w wl8) (by omega) (le_dmax (by omega)) fun who' h10 a10 b10 G10 => ?_
          obtain ⟨v, hv, v0, v40⟩ : ∃ v : Int, atI [MV.int 1, .int 3, .int 9, .int 40] lean = some (.int v) ∧ 0 < v ∧ v ≤ 40 := by
            have : lean = 0 ∨ lean = 1 ∨ lean = 2 ∨ lean = 3 := by omega
            rcases this with rfl | rfl | rfl | rfl
            · exact ⟨1, rfl, by omega, by omega⟩
            · exact ⟨3, rfl, by omega, by omega⟩
            · exact ⟨9, rfl, by omega, by omega⟩
            · exact ⟨40, rfl, by omega, by omega⟩
          refine kont_go ?_; simp [-sSeq, -dat_ref, sSeqK, small, lim, big]
          (try dsimp only); generalize hh : put h10 253 _ = h11 at *; obtain ⟨G11, z11⟩ := new_of hh (by decide); clear hh
          simp [-sSeq, -dat_ref, sSeqK, small, lim, z11, hv]
          have G911 := G10.trans G11
          refine take_gr ((G9.trans G911).w wl8) (by omega) (le_dmax (by omega)) fun t12 h12 a12 b12 G12' => ?_
          have z12 := (G911.trans G12').rd z9
          have hz12 := rd_lt z12
          ((try simp [-sSeq, -dat_ref, sSeqK, small, lim, big, z12, hz12]); (repeat (first | ((with_reducible refine kont_go ?_); try simp [-sSeq, -dat_ref, sSeqK, small, lim, big, z12, hz12]) | ((with_reducible refine And.intro ?_ ?_); · omega))))
          exact app who' [] h12 _ _ _ _ _ (by omega) (by omega) (G911.trans G12') (by omega) (by omega)
        · rw [if_neg c0]
          ((try simp [-sSeq, -dat_ref, sSeqK, small, lim, big, z9, hz]); (repeat (first | ((with_reducible refine kont_go ?_); try simp [-sSeq, -dat_ref, sSeqK, small, lim, big, z9, hz]) | ((with_reducible refine And.intro ?_ ?_); · omega))))
          exact app who [] h9 _ _ _ _ _ (by omega) (by omega) (Gr.refl _) who0 who1
    · rintro σ h8 ⟨G, W8, z8, ms, st, who, y1, y2, y3, ml, mb, zm, who0, who1, rfl⟩
      ((try simp [-sSeq, -dat_ref, sSeqK, small, lim, big]); (repeat (first | ((with_reducible refine kont_go ?_); try simp [-sSeq, -dat_ref, sSeqK, small, lim, big]) | ((with_reducible refine And.intro ?_ ?_); · omega))))
      exact q h8 _ ms (by rw [Nat.zero_add, rng_size] at ml; omega) mb zm e252 G
theorem RNew.gr {h h' : MH} {ρ ρ' : Rf} (n : RNew h' ρ ρ') (g : Gr h h') : RNew h ρ ρ' := by
  have l10 := len_gr (r := 10) (by decide) g
  have l20 := len_gr (r := 20) (by decide) g
  have l11 := len_gr (r := 11) (by decide) g
  have l22 := len_gr (r := 22) (by decide) g
  have l21 := len_gr (r := 21) (by decide) g
  have l12 := len_gr (r := 12) (by decide) g
  have l23 := len_gr (r := 23) (by decide) g
  have l24 := len_gr (r := 24) (by decide) g
  have l25 := len_gr (r := 25) (by decide) g
  obtain ⟨a1, a2, a3, a4, a5, a6, a7, a8, a9, a10⟩ := n
  exact ⟨by omega, by omega, by omega, by omega, by omega, by omega, by omega, by omega, by omega, by omega⟩
theorem Book.sub {ws bk : List (List Int)} {f g : Nat} (b : Book ws bk f g) : ∀ o ∈ bk, o ∈ ws := fun o ho => by
  rw [b.eq] at ho
  exact List.mem_of_mem_take ho
/-- one move -/
inductive Moved (l : Ln) : Int → Ln → Prop where
  | g : Moved l 0 l.stepG
  | t : Moved l 1 l.stepT
  | fg : Moved l 2 l.fallG
  | ft : Moved l 3 l.fallT
  | add (x : List Int) : 1 ≤ x.length → x.length ≤ l.b.size → l.v.wares.length < 40 → Moved l 4 (l.add x)
  | full : 40 ≤ l.v.wares.length → Moved l 4 l
theorem stepG_safe {l : Ln} {f g : Nat} (s : l.safe f g) : ∃ g', l.stepG.safe f g' := by
  unfold Ln.stepG
  by_cases r : l.v.rests = true
  · rw [if_pos r]; exact ⟨g, s⟩
  · rw [if_neg r]; exact ⟨_, gstep_safe s⟩
theorem stepT_safe {l : Ln} {f g : Nat} (s : l.safe f g) : ∃ f', l.stepT.safe f' g := ⟨_, tstep_safe s⟩
theorem Moved.safe {l l' : Ln} {m : Int} {f g : Nat} (s : l.safe f g) (v : Moved l m l') : ∃ f' g', l'.safe f' g' := by
  cases v with
  | g => obtain ⟨g', h⟩ := stepG_safe s; exact ⟨f, g', h⟩
  | t => obtain ⟨f', h⟩ := stepT_safe s; exact ⟨f', g, h⟩
  | fg => exact ⟨f, g, s.fallG⟩
  | ft => exact ⟨f, g, s.fallT⟩
  | add x h1 h2 _ => exact ⟨f, g, s.add h1 h2⟩
  | full _ => exact ⟨f, g, s⟩
theorem stepG_size (l : Ln) : l.stepG.b.size = l.b.size := by
  unfold Ln.stepG
  by_cases r : l.v.rests = true
  · rw [if_pos r]
  · rw [if_neg r]; exact gstep_size _ _
theorem stepG_wares (l : Ln) : l.stepG.v.wares = l.v.wares := by
  unfold Ln.stepG
  by_cases r : l.v.rests = true
  · rw [if_pos r]
  · rw [if_neg r]; exact gstep_wares _ _
theorem Moved.size {l l' : Ln} {m : Int} (v : Moved l m l') : l'.b.size = l.b.size := by
  cases v with
  | g => exact stepG_size l
  | t => exact tstep_size _ _
  | _ => rfl
theorem Moved.tr {l l' : Ln} {m : Int} (v : Moved l m l') : l'.tr.length ≤ l.tr.length + 1 := by
  cases v with
  | g =>
    unfold Ln.stepG
    by_cases r : l.v.rests = true
    · rw [if_pos r]; omega
    · rw [if_neg r]; simp
  | t => unfold Ln.stepT; simp
  | fg => exact Nat.le_succ _
  | ft => exact Nat.le_succ _
  | add => exact Nat.le_succ _
  | full => exact Nat.le_succ _
theorem Moved.wares {l l' : Ln} {m : Int} (v : Moved l m l') (hl : l.v.wares.length ≤ 40) : l'.v.wares.length ≤ 40 := by
  cases v with
  | g => rw [stepG_wares]; exact hl
  | t => exact hl
  | fg => exact hl
  | ft => exact hl
  | add x _ _ h => show (l.v.wares ++ [x]).length ≤ 40; rw [List.length_append]; show l.v.wares.length + 1 ≤ 40; omega
  | full => exact hl
def SMv (i : Nat) (ρ : Rf) (R oi : Nat) : Nat → Nat → Prop := fun q j => SLn i ρ q j ∨ (q = R ∧ j = oi)
theorem sln_low {i : Nat} {ρ : Rf} {q j : Nat} (h : SLn i ρ q j) : q < 26 := by unfold SLn at h; omega
theorem moved_spec {h : MH} {i : Nat} {ρ : Rf} {l : Ln} {w n R oi f g : Nat} {m : Int} {refs : List MV} {Q : QV} {E : QX} (x : LaneAt h i ρ l) (s : l.safe f g) (hl : l.tr.length < 100000) (wl : WellAt h w) (hn : n = l.b.size) (hR : 100 < R) (hR2 : R ≠ 240) (hR3 : R ≠ 243) (ho : rd h R oi = some (.lst refs)) (Lo : Lists h 240 refs l.v.wares)
    (hm : 0 ≤ m ∧ m ≤ 4) (hw : l.v.wares.length ≤ 40)
    (q : ∀ h' ρ' l' refs', Moved l m l' → LaneAt h' i ρ' l' → rd h' R oi = some (.lst refs') → Lists h' 240 refs' l'.v.wares → RNew h ρ ρ' → Kx (SMv i ρ R oi) h h' → Q .non h') :
    F_law_moved [.ref 13 i, .int m, .ref 1 w, .int n, .ref R oi] h Q E := by
  have hR1 : R ≠ 1 := by omega
  have hRr : ∀ j, ¬ SLn i ρ R j := fun j z => by have := sln_low z; omega
  have h240 : ∀ j, ¬ SLn i ρ 240 j := fun j z => by have := sln_low z; omega
  have le := s.su.1.le
  have n2 := s.sb.n2
  have n8 := s.sb.n8
  have len := Lo.length
  have sub : ∀ q j, SLn i ρ q j → SMv i ρ R oi q j := fun q j z => Or.inl z
  have cases5 : m = 0 ∨ m = 1 ∨ m = 2 ∨ m = 3 ∨ m = 4 := by omega
  rcases cases5 with rfl | rfl | rfl | rfl | rfl
  · ((try simp [-sSeq, -dat_ref, sSeqK, small, lim, big, F_law_moved_eq, x.me]); (repeat (first | ((with_reducible refine kont_go ?_); try simp [-sSeq, -dat_ref, sSeqK, small, lim, big, F_law_moved_eq, x.me]) | ((with_reducible refine And.intro ?_ ?_); · omega))))
    (try dsimp only); generalize hh : put h 238 _ = h1 at *; obtain ⟨G1, z1⟩ := new_of hh (by decide); clear hh
    refine lane_step_g (x.gr G1) s.bok s.gok hl fun h2 x2 K2 => ?_
    ((try simp [-sSeq, -dat_ref, sSeqK, small, lim, big]); (repeat (first | ((with_reducible refine kont_go ?_); try simp [-sSeq, -dat_ref, sSeqK, small, lim, big]) | ((with_reducible refine And.intro ?_ ?_); · omega))))
    have K := (G1.x (SLn i ρ)).trans K2
    exact q h2 ρ _ refs .g x2 (K.rd ho hR1 (hRr _)) (by rw [stepG_wares]; exact Lo.kx K (by decide) h240) (RNew.refl h ρ) (K.mono sub)
  · ((try simp [-sSeq, -dat_ref, sSeqK, small, lim, big, F_law_moved_eq, x.me]); (repeat (first | ((with_reducible refine kont_go ?_); try simp [-sSeq, -dat_ref, sSeqK, small, lim, big, F_law_moved_eq, x.me]) | ((with_reducible refine And.intro ?_ ?_); · omega))))
    (try dsimp only); generalize hh : put h 238 _ = h1 at *; obtain ⟨G1, z1⟩ := new_of hh (by decide); clear hh
    refine lane_step_t (x.gr G1) s.bok (s.tok (by omega)) hl fun h2 ρ2 x2 N2 K2 => ?_
    ((try simp [-sSeq, -dat_ref, sSeqK, small, lim, big]); (repeat (first | ((with_reducible refine kont_go ?_); try simp [-sSeq, -dat_ref, sSeqK, small, lim, big]) | ((with_reducible refine And.intro ?_ ?_); · omega))))
    have K := (G1.x (SLn i ρ)).trans K2
    exact q h2 ρ2 _ refs .t x2 (K.rd ho hR1 (hRr _)) (Lo.kx K (by decide) h240) (N2.gr G1) (K.mono sub)
  · ((try simp [-sSeq, -dat_ref, sSeqK, small, lim, big, F_law_moved_eq, x.me]); (repeat (first | ((with_reducible refine kont_go ?_); try simp [-sSeq, -dat_ref, sSeqK, small, lim, big, F_law_moved_eq, x.me]) | ((with_reducible refine And.intro ?_ ?_); · omega))))
    (try dsimp only); generalize hh : put h 239 _ = h1 at *; obtain ⟨G1, z1⟩ := new_of hh (by decide); clear hh
    refine lane_fall_g (x.gr G1) s.sb.ok (by unfold lim; omega) fun h2 ρ2 x2 N2 K2 => ?_
    ((try simp [-sSeq, -dat_ref, sSeqK, small, lim, big]); (repeat (first | ((with_reducible refine kont_go ?_); try simp [-sSeq, -dat_ref, sSeqK, small, lim, big]) | ((with_reducible refine And.intro ?_ ?_); · omega))))
    have K := (G1.x (SLn i ρ)).trans K2
    exact q h2 ρ2 _ refs .fg x2 (K.rd ho hR1 (hRr _)) (Lo.kx K (by decide) h240) (N2.gr G1) (K.mono sub)
  · ((try simp [-sSeq, -dat_ref, sSeqK, small, lim, big, F_law_moved_eq, x.me]); (repeat (first | ((with_reducible refine kont_go ?_); try simp [-sSeq, -dat_ref, sSeqK, small, lim, big, F_law_moved_eq, x.me]) | ((with_reducible refine And.intro ?_ ?_); · omega))))
    (try dsimp only); generalize hh : put h 239 _ = h1 at *; obtain ⟨G1, z1⟩ := new_of hh (by decide); clear hh
    refine lane_fall_t (x.gr G1) (fun o ho => s.sb.ok o (s.su.1.sub o ho)) (by unfold lim; omega) fun h2 ρ2 x2 N2 K2 => ?_
    ((try simp [-sSeq, -dat_ref, sSeqK, small, lim, big]); (repeat (first | ((with_reducible refine kont_go ?_); try simp [-sSeq, -dat_ref, sSeqK, small, lim, big]) | ((with_reducible refine And.intro ?_ ?_); · omega))))
    have K := (G1.x (SLn i ρ)).trans K2
    exact q h2 ρ2 _ refs .ft x2 (K.rd ho hR1 (hRr _)) (Lo.kx K (by decide) h240) (N2.gr G1) (K.mono sub)
  · by_cases c : l.v.wares.length < 40
    · ((try simp [-sSeq, -dat_ref, sSeqK, small, lim, big, F_law_moved_eq, ho]); (repeat (first | ((with_reducible refine kont_go ?_); try simp [-sSeq, -dat_ref, sSeqK, small, lim, big, F_law_moved_eq, ho]) | ((with_reducible refine And.intro ?_ ?_); · omega))))
      rw [if_pos (by omega)]
      subst hn
      refine order_spec wl n2 n8 fun h1 j o o1 o2 z1 ej G1 => ?_
      have ho1 := G1.rd ho hR1
      have hz := rd_lt ho1
      refine kont_go ?_; simp [-sSeq, -dat_ref, sSeqK, small, lim, big, ho1, hz]
      refine ⟨by omega, ?_⟩
      generalize hh : put h1 R _ = h2
      obtain ⟨K2, z2⟩ := set_of hh ho1 hR1
      have z12 := K2.rd z1 (by decide) (Or.inl (fun e => hR2 e.symm))
      have S2 := K2.x (S := fun q j => q = R ∧ j = oi) ⟨rfl, rfl⟩
      have x2 := (x.gr G1).kx S2 (fun q j z e => by obtain ⟨rfl, rfl⟩ := e; exact hRr _ z) (fun j e => by omega)
      have L2 := Lists.snoc z12 ((Lo.gr G1 (by decide)).kx S2 (by decide) (fun j e => by omega))
      refine kont_go ?_; simp [-sSeq, -dat_ref, sSeqK, small, lim, big, x2.me, z12]
      (try dsimp only); generalize hh : put h2 243 _ = h3 at *; obtain ⟨G3, z3⟩ := new_of hh (by decide); clear hh
      refine lane_add (x2.gr G3) z3 o1 o2 (by omega) fun h4 x4 K4 => ?_
      ((try simp [-sSeq, -dat_ref, sSeqK, small, lim, big]); (repeat (first | ((with_reducible refine kont_go ?_); try simp [-sSeq, -dat_ref, sSeqK, small, lim, big]) | ((with_reducible refine And.intro ?_ ?_); · omega))))
      have z24 := K4.rd (G3.rd z2 hR1) hR1 (hRr _)
      exact q h4 ρ _ _ (.add o o1 o2 c) x4 z24 ((L2.gr G3 (by decide)).kx K4 (by decide) h240) (RNew.refl h ρ) (((G1.x _).trans ((S2.mono (fun q j z => Or.inr z)).trans (G3.x _))).trans (K4.mono sub))
    · ((try simp [-sSeq, -dat_ref, sSeqK, small, lim, big, F_law_moved_eq, ho]); (repeat (first | ((with_reducible refine kont_go ?_); try simp [-sSeq, -dat_ref, sSeqK, small, lim, big, F_law_moved_eq, ho]) | ((with_reducible refine And.intro ?_ ?_); · omega))))
      rw [if_neg (by omega)]
      exact q h ρ l refs (.full (by omega)) x ho Lo (RNew.refl h ρ) (Kx.refl _ h)
end Mi
end TxSWeave

section TxSLw
set_option autoImplicit false
set_option linter.all false
set_option maxRecDepth 100000
set_option maxHeartbeats 4000000
namespace Mi
/-- a lane woven, with the law's own list of its orders -/
structure LW (h : MH) (i w n R oi k : Nat) (ρ : Rf) (l : Ln) (refs : List MV) : Prop where
  x : LaneAt h i ρ l
  s : ∃ f g, l.safe f g
  wl : WellAt h w
  hn : n = l.b.size
  ho : rd h R oi = some (.lst refs)
  lo : Lists h 240 refs l.v.wares
  tr : l.tr.length ≤ k
  hw : l.v.wares.length ≤ 40
theorem LW.kx {S : Nat → Nat → Prop} {h h' : MH} {i w n R oi k : Nat} {ρ : Rf} {l : Ln} {refs : List MV} (v : LW h i w n R oi k ρ l refs) (g : Kx S h h') (hR : R ≠ 1) (hs : ∀ q j, S q j → 100 < q) (hs2 : ∀ j, ¬ S R j) (hs3 : ∀ j, ¬ S 240 j) : LW h' i w n R oi k ρ l refs :=
  ⟨v.x.kx g (fun q j z e => by have := sln_low z; have := hs q j e; omega) (fun j e => by have := hs _ _ e; omega), v.s, g.w v.wl, v.hn, g.rd v.ho hR (hs2 _), v.lo.kx g (by decide) hs3, v.tr, v.hw⟩
theorem LW.gr {h h' : MH} {i w n R oi k : Nat} {ρ : Rf} {l : Ln} {refs : List MV} (v : LW h i w n R oi k ρ l refs) (g : Gr h h') (hR : R ≠ 1) : LW h' i w n R oi k ρ l refs := v.kx (g.x fun _ _ => False) hR (fun _ _ z => z.elim) (fun _ z => z) fun _ z => z
theorem LW.moved {h : MH} {i w n R oi k : Nat} {ρ : Rf} {l : Ln} {refs : List MV} {m : Int} {Q : QV} {E : QX} (v : LW h i w n R oi k ρ l refs) (hk : k < 100000) (hR : 100 < R) (hR2 : R ≠ 240) (hR3 : R ≠ 243) (hm : 0 ≤ m ∧ m ≤ 4)
    (q : ∀ h' ρ' l' refs', Moved l m l' → LW h' i w n R oi (k + 1) ρ' l' refs' → RNew h ρ ρ' → Kx (SMv i ρ R oi) h h' → Q .non h') : F_law_moved [.ref 13 i, .int m, .ref 1 w, .int n, .ref R oi] h Q E := by
  obtain ⟨f, g, s⟩ := v.s
  refine moved_spec v.x s (by have := v.tr; omega) v.wl v.hn hR hR2 hR3 v.ho v.lo hm v.hw fun h2 ρ2 l2 refs2 mv x2 ho2 L2 N2 K2 => ?_
  exact q h2 ρ2 l2 refs2 mv ⟨x2, mv.safe s, K2.w v.wl, by rw [mv.size]; exact v.hn, ho2, L2, by have := mv.tr; have := v.tr; omega, mv.wares v.hw⟩ N2 K2
theorem LW.le {h : MH} {i w n R oi k : Nat} {ρ : Rf} {l : Ln} {refs : List MV} (v : LW h i w n R oi k ρ l refs) : l.u.taken.length ≤ l.v.wares.length := by
  obtain ⟨f, g, s⟩ := v.s
  exact s.su.1.le
theorem LW.eq {h : MH} {i w n R oi k : Nat} {ρ : Rf} {l : Ln} {refs : List MV} (v : LW h i w n R oi k ρ l refs) : l.u.taken = l.v.wares.take l.u.taken.length := by
  obtain ⟨f, g, s⟩ := v.s
  exact s.su.1.eq
theorem LW.new {h : MH} {i w n R oi : Nat} {ρ : Rf} (x : LaneAt h i ρ (newL n)) (n2 : 2 ≤ n) (n8 : n ≤ 8) (wl : WellAt h w) (ho : rd h R oi = some (.lst [])) : LW h i w n R oi 0 ρ (newL n) [] :=
  ⟨x, ⟨0, 0, Safe.new n2 n8⟩, wl, rfl, ho, True.intro, Nat.le_refl _, Nat.zero_le _⟩
end Mi
end TxSLw

section TxK11
set_option autoImplicit false
set_option linter.all false
set_option maxRecDepth 100000
set_option maxHeartbeats 4000000
namespace Mi
def pdLists (ls : List (List Int)) : PD := .lst (ls.map fun l => .lst (l.map .int))
theorem datL_lists {h : MH} {r : Nat} : ∀ {refs : List MV} {ls : List (List Int)}, Lists h r refs ls → datL h 7 refs = some (ls.map fun l => .lst (l.map .int))
  | [], [], _ => rfl
  | x :: xs, l :: ls, ⟨⟨j, e, z⟩, t⟩ => by
    rw [datL_cons, datL_lists t, e, dat_ref7, z]
    simp only [datL_ints, Option.map_some, List.map_cons]
  | [], _ :: _, t => t.elim
  | _ :: _, [], t => t.elim
theorem dat_lists {h : MH} {r r2 i : Nat} {refs : List MV} {ls : List (List Int)} (z : rd h r i = some (.lst refs)) (t : Lists h r2 refs ls) : dat h deep (.ref r i) = some (pdLists ls) := by
  rw [dat_ref, z]
  simp only [datL_lists t, Option.map_some]
  rfl
theorem clear_loop {chk : MH → Prop} {i r : Nat} {D : En} {σ : MS} {h : MH} {refs : List MV} (hr : r ≠ 1) (hi : i < σ.length) (hL : ∀ x ∈ refs, ∃ j xs, x = .ref r j ∧ rd h r j = some (.lst xs)) (hc : ∀ h', Kx (fun q _ => q = r) h h' → chk h')
    (q : ∀ h' v, Kx (fun q _ => q = r) h h' → D.nx (σ.set i v) h') : forL chk (gN i) (sEx (wBM "list" mClear (wV i) aNil)) refs D σ h := by
  refine forL_inv (fun _ σ' h' => (∃ v, σ' = σ.set i v) ∧ Kx (fun q _ => q = r) h h' ∧ ∀ x ∈ refs, ∃ j xs, x = .ref r j ∧ rd h' r j = some (.lst xs)) _ 0 _ _ ⟨⟨σ[i], by simp⟩, Kx.refl _ _, hL⟩ (fun k σ' h' z => hc h' z.2.1) ?_ ?_
  · rintro k x σ' h' N hk ⟨⟨v, rfl⟩, K, L⟩ hN
    obtain ⟨j, xs, rfl, z⟩ := L x (List.mem_of_getElem? hk)
    have hz := rd_lt z
    ((try simp [-sSeq, -dat_ref, sSeqK, small, lim, big, z, hi, hz]); (repeat (first | ((with_reducible refine kont_go ?_); try simp [-sSeq, -dat_ref, sSeqK, small, lim, big, z, hi, hz]) | ((with_reducible refine And.intro ?_ ?_); · omega))))
    generalize hh : put h' r _ = h2
    obtain ⟨K2, z2⟩ := set_of hh z hr
    refine hN _ _ ⟨⟨_, rfl⟩, K.trans (K2.x rfl), fun y hy => ?_⟩
    obtain ⟨j2, xs2, rfl, z3⟩ := L y hy
    by_cases c : j2 = j
    · subst c; exact ⟨_, _, rfl, z2⟩
    · exact ⟨_, _, rfl, K2.rd z3 hr (Or.inr c)⟩
  · rintro σ' h' ⟨⟨v, rfl⟩, K, L⟩
    exact q h' v K
theorem Lists.lists {h : MH} {r : Nat} {refs : List MV} {ls : List (List Int)} (t : Lists h r refs ls) : ∀ x ∈ refs, ∃ j xs, x = .ref r j ∧ rd h r j = some (.lst xs) := fun x hx => by
  obtain ⟨k, hk, rfl⟩ := List.mem_iff_getElem.mp hx
  have hl := t.length
  obtain ⟨j, e, z⟩ := t.at_ (i := k) (List.getElem?_eq_getElem (by omega))
  rw [List.getElem?_eq_getElem hk] at e
  exact ⟨j, _, Option.some.inj e, z⟩
theorem tstep_book (b : Bd) (u : Tk) : u.taken.length ≤ (tstep b u).2.taken.length := by
  unfold tstep Tk.freed
  dsimp only
  split <;> first | exact Nat.le_refl _ | (split <;> first | exact Nat.le_refl _ | (split <;> first | exact Nat.le_refl _ | (show u.taken.length ≤ (u.taken ++ _).length; rw [List.length_append]; omega)))
theorem Moved.book {l l' : Ln} {m : Int} (v : Moved l m l') : l.u.taken.length ≤ l'.u.taken.length := by
  cases v with
  | g =>
    unfold Ln.stepG
    by_cases r : l.v.rests = true
    · rw [if_pos r]; exact Nat.le_refl _
    · rw [if_neg r]; exact Nat.le_refl _
  | t => exact tstep_book _ _
  | fg => exact Nat.le_refl _
  | ft => exact Nat.le_refl _
  | add => exact Nat.le_refl _
  | full => exact Nat.le_refl _
theorem law_true_v8 (ns : List Int) (hl : ns.length ≤ 63) (h : MH) (E : QX) : F_law_v8 [.cst (ns.map .int)] h (fun v _ => v = .bl true) E := by
  ((try simp [-sSeq, -dat_ref, sSeqK, small, lim, big, F_law_v8_eq]); (repeat (first | ((with_reducible refine kont_go ?_); try simp [-sSeq, -dat_ref, sSeqK, small, lim, big, F_law_v8_eq]) | ((with_reducible refine And.intro ?_ ?_); · omega))))
  rw [show (0 : Int) = ((0 : Nat) : Int) from rfl]
  refine well_gr (fun x hx => by obtain ⟨i, _, rfl⟩ := List.mem_map.mp hx; exact ⟨i, rfl⟩) (by omega) fun h1 w1 G1 => ?_
  refine kont_go ?_; simp [-sSeq, -dat_ref, sSeqK, small, lim, big]
  refine take_gr w1 (by omega) (le_dmax (by omega)) fun t2 h2 a2 b2 G2 => ?_
  obtain ⟨n, hn⟩ : ∃ n : Nat, (2 : Int) + t2 = n := ⟨(2 + t2).toNat, by omega⟩
  refine kont_go ?_; simp [-sSeq, -dat_ref, sSeqK, small, lim, big, hn]
  refine lane_make (by omega) (by omega) fun h3 ρ x3 G3 _ _ _ _ _ _ _ _ _ _ => ?_
  have w3 := (G2.trans G3).w w1
  refine kont_go ?_; simp [-sSeq, -dat_ref, sSeqK, small, lim, big]
  (try dsimp only); generalize hh : put h3 247 _ = h4 at *; obtain ⟨G4, z4⟩ := new_of hh (by decide); clear hh
  refine kont_go ?_; simp [-sSeq, -dat_ref, sSeqK, small, lim, big]
  refine kont_go ?_; simp [-sSeq, -dat_ref, sSeqK, small, lim, big]
  (try dsimp only); generalize hh : put h4 248 _ = h5 at *; obtain ⟨G5, z5⟩ := new_of hh (by decide); clear hh
  ((try simp [-sSeq, -dat_ref, sSeqK, small, lim, big]); (repeat (first | ((with_reducible refine kont_go ?_); try simp [-sSeq, -dat_ref, sSeqK, small, lim, big]) | ((with_reducible refine And.intro ?_ ?_); · omega))))
  rw [show (500 : Int) = ((500 : Nat) : Int) from rfl]
  refine moves_spec (fun x hx => by obtain ⟨i, _, rfl⟩ := List.mem_map.mp hx; exact ⟨i, rfl⟩) (by rw [List.length_map]; exact hl) (by omega) fun h6 mi ms mlen mb z6 _ G6 => ?_
  have z5 := G6.rd z5
  simp [-sSeq, -dat_ref, sSeqK, small, lim, z5, z6]
  refine ⟨by omega, ?_⟩
  rw [show MV.int 4 :: ms.map MV.int = (4 :: ms).map .int from rfl]
  (try dsimp only); generalize hh : put h6 0 _ = h7 at *; obtain ⟨G7, z7⟩ := new_of hh (by decide); clear hh
  have mb2 : ∀ m ∈ (4 :: ms), 0 ≤ m ∧ m ≤ 4 := fun m hm => by
    rcases List.mem_cons.mp hm with rfl | hm
    · omega
    · exact mb m hm
  have mlen2 : (4 :: ms).length ≤ 501 := by rw [List.length_cons]; omega
  generalize (4 :: ms) = ml at *
  have G37 := ((G4.trans G5).trans G6).trans G7
  have L0 : LW h7 (h2 13).length (h 1).length n 247 (h3 247).length 0 ρ (newL n) [] := LW.new (x3.gr G37) (by omega) (by omega) (G37.w w3) ((G5.trans (G6.trans G7)).rd z4)
  generalize (h2 13).length = il at *
  generalize (h 1).length = w at *
  generalize (h3 247).length = oi at *
  generalize (h6 0).length = ci at *
  clear x3 w3 z4 z5 z6 G7 G6 G5 G4 G37 G3 G2 w1 G1
  refine forL_inv (fun k σ h' => rd h' 0 ci = some (.lst (ml.map .int)) ∧ k ≤ ml.length ∧ ∃ (ρ : Rf) (l : Ln) (refs : List MV) (many : Nat) (a b c d : Option MV), LW h' il w n 247 oi k ρ l refs ∧ many ≤ l.u.taken.length ∧ σ = [some (.cst (ns.map .int)), some (.ref 1 w), some (.int n), some (.ref 13 il), some (.ref 247 oi), some (.int many), a, b, c, d]) _ 0 _ _ ⟨z7, Nat.zero_le _, ρ, _, _, 0, none, none, none, none, L0, Nat.le_refl _, rfl⟩ (fun k σ h' z => z.1) ?_ ?_
  · clear L0 z7
    rintro k x σ h8 N hk ⟨zc, hkl, ρ, l, refs, many, y1, y2, y3, y4, v, hmany, rfl⟩ hN
    rw [List.getElem?_map] at hk
    obtain ⟨m, e1, rfl⟩ := Option.map_eq_some_iff.mp hk
    have hm := mb2 m (List.mem_of_getElem? e1)
    have hkl2 : k < ml.length := (List.getElem?_eq_some_iff.mp e1).1
    rw [Nat.zero_add] at v hN
    ((try simp [-sSeq, -dat_ref, sSeqK, small, lim, big]); (repeat (first | ((with_reducible refine kont_go ?_); try simp [-sSeq, -dat_ref, sSeqK, small, lim, big]) | ((with_reducible refine And.intro ?_ ?_); · omega))))
    refine v.moved (by omega) (by decide) (by decide) (by decide) hm fun h9 ρ9 l9 refs9 mv v9 _ K9 => ?_
    have zc := K9.rd zc (by decide) (by simp [SMv, SLn])
    have hmany9 := Nat.le_trans hmany mv.book
    clear v mv
    ((try simp [-sSeq, -dat_ref, sSeqK, small, lim, big, v9.x.me]); (repeat (first | ((with_reducible refine kont_go ?_); try simp [-sSeq, -dat_ref, sSeqK, small, lim, big, v9.x.me]) | ((with_reducible refine And.intro ?_ ?_); · omega))))
    have le9 := v9.le
    have hw9 := v9.hw
    refine lane_book v9.x (by unfold lim; omega) fun ha refsB za LB Ga => ?_
    have va := v9.gr Ga (by decide)
    have zca := Ga.rd zc
    have lenB := LB.length
    have lenR := va.lo.length
    have c1 : ¬ ((refsB.length : Int) < many) := by omega
    ((try simp [-sSeq, -dat_ref, sSeqK, small, lim, big, za, c1, va.ho, cut_to]); (repeat (first | ((with_reducible refine kont_go ?_); try simp [-sSeq, -dat_ref, sSeqK, small, lim, big, za, c1, va.ho, cut_to]) | ((with_reducible refine And.intro ?_ ?_); · omega))))
    rw [lenB]
    (try dsimp only); generalize hh : put ha 254 _ = hb at *; obtain ⟨Gb, zb⟩ := new_of hh (by decide); clear hh
    have vb := va.gr Gb (by decide)
    have LT := Lists.take l9.u.taken.length vb.lo
    rw [← v9.eq] at LT
    have zzb := Gb.rd za
    have LBb := LB.gr Gb (by decide)
    rw [dat_lists zzb LBb, dat_lists zb LT]
    have zcb := Gb.rd zca
    dsimp only
    refine ⟨PD.eqv_refl _, ?_⟩
    refine kont_go ?_; simp [-sSeq, -dat_ref, sSeqK, small, lim, big, zzb, lenB]
    refine kont_go ?_; simp [-sSeq, -dat_ref, sSeqK, small, lim, big]
    by_cases c4 : m = 4
    · rw [if_pos c4]
      simp [-sSeq, -dat_ref, sSeqK, small, lim, zzb]
      refine clear_loop (by decide) (by simp) LBb.lists (fun h' K => K.rd zzb (by decide) (by simp)) fun hc y Kc => ?_
      have zzc := Kc.rd zzb (by decide) (by simp)
      have vc := vb.kx Kc (by decide) (fun q j e => by rw [show q = 232 from e]; decide) (by simp) (by simp)
      have zcc := Kc.rd zcb (by decide) (by simp)
      have hz := rd_lt zzc
      refine kont_go ?_; simp [-sSeq, -dat_ref, sSeqK, small, lim, big, zzc, hz]
      generalize hh : put hc 233 _ = hd
      obtain ⟨Kd, zd⟩ := set_of hh zzc (by decide)
      have Sd := Kd.x (S := fun q _ => q = 233) rfl
      have vd := vc.kx Sd (by decide) (fun q j e => by rw [show q = 233 from e]; decide) (by simp) (by simp)
      have zcd := Kd.rd zcc
      clear zd zzc zzb vc vb va zca zcb zcc
      ((try simp [-sSeq, -dat_ref, sSeqK, small, lim, big, vd.x.me]); (repeat (first | ((with_reducible refine kont_go ?_); try simp [-sSeq, -dat_ref, sSeqK, small, lim, big, vd.x.me]) | ((with_reducible refine And.intro ?_ ?_); · omega))))
      refine lane_orders vd.x (by unfold lim; omega) fun he refsO ze LO Ge => ?_
      have ve := vd.gr Ge (by decide)
      have zce := Ge.rd zcd
      refine kont_go ?_; simp [-sSeq, -dat_ref, sSeqK, small, lim, big, ze]
      refine clear_loop (by decide) (by simp) LO.lists (fun h' K => K.rd ze (by decide) (by simp)) fun hf y5 Kf => ?_
      have zf := Kf.rd ze (by decide) (by simp)
      have vf := ve.kx Kf (by decide) (fun q j e => by rw [show q = 230 from e]; decide) (by simp) (by simp)
      have zcf := Kf.rd zce (by decide) (by simp)
      have hz := rd_lt zf
      refine kont_go ?_; simp [-sSeq, -dat_ref, sSeqK, small, lim, big, zf, hz]
      generalize hh : put hf 231 _ = hg
      obtain ⟨Kg, zg⟩ := set_of hh zf (by decide)
      have vg := vf.kx (Kg.x (S := fun q _ => q = 231) rfl) (by decide) (fun q j e => by rw [show q = 231 from e]; decide) (by simp) (by simp)
      have zcg := Kg.rd zcf
      clear zg zf ze zcf vf ve zce vd zcd
      ((try simp [-sSeq, -dat_ref, sSeqK, small, lim, big, vg.x.me]); (repeat (first | ((with_reducible refine kont_go ?_); try simp [-sSeq, -dat_ref, sSeqK, small, lim, big, vg.x.me]) | ((with_reducible refine And.intro ?_ ?_); · omega))))
      refine lane_book vg.x (by unfold lim; omega) fun hi refsC zi LC Gi => ?_
      have vi := vg.gr Gi (by decide)
      ((try simp [-sSeq, -dat_ref, sSeqK, small, lim, big, vi.ho, cut_to]); (repeat (first | ((with_reducible refine kont_go ?_); try simp [-sSeq, -dat_ref, sSeqK, small, lim, big, vi.ho, cut_to]) | ((with_reducible refine And.intro ?_ ?_); · omega))))
      (try dsimp only); generalize hh : put hi 255 _ = hj at *; obtain ⟨Gj, zj⟩ := new_of hh (by decide); clear hh
      have vj := vi.gr Gj (by decide)
      have LT := Lists.take l9.u.taken.length vj.lo
      rw [← v9.eq] at LT
      rw [dat_lists (Gj.rd zi) (LC.gr Gj (by decide)), dat_lists zj LT]
      dsimp only
      refine ⟨PD.eqv_refl _, ?_⟩
      simp [-sSeq, -dat_ref, sSeqK, small, lim, vi.x.me]
      refine lane_orders vj.x (by unfold lim; omega) fun hk refsD zk LD Gk => ?_
      have vk := vj.gr Gk (by decide)
      rw [dat_lists zk LD, dat_lists vk.ho vk.lo]
      exact ⟨PD.eqv_refl _, hN _ _ ⟨(Gj.trans Gk).rd (Gi.rd zcg), by omega, ρ9, l9, refs9, _, _, _, _, _, vk, Nat.le_refl _, rfl⟩⟩
    · rw [if_neg c4]
      exact hN _ _ ⟨zcb, by omega, ρ9, l9, refs9, _, _, _, _, _, vb, Nat.le_refl _, rfl⟩
  · rintro σ h8 ⟨zc, hkl, ρ, l, refs, many, y1, y2, y3, y4, v, hmany, rfl⟩
    ((try simp [-sSeq, -dat_ref, sSeqK, small, lim, big, v.x.me]); (repeat (first | ((with_reducible refine kont_go ?_); try simp [-sSeq, -dat_ref, sSeqK, small, lim, big, v.x.me]) | ((with_reducible refine And.intro ?_ ?_); · omega))))
    have := v.hw
    refine lane_orders v.x (by unfold lim; omega) fun h9 refs9 z9 L9 G9 => ?_
    have v9 := v.gr G9 (by decide)
    ((try simp [-sSeq, -dat_ref, sSeqK, small, lim, big, dat_lists z9 L9, dat_lists v9.ho v9.lo]); (repeat (first | ((with_reducible refine kont_go ?_); try simp [-sSeq, -dat_ref, sSeqK, small, lim, big, dat_lists z9 L9, dat_lists v9.ho v9.lo]) | ((with_reducible refine And.intro ?_ ?_); · omega))))
    exact PD.eqv_refl _
end Mi
end TxK11

section TxDerk11
set_option Elab.async false
set_option linter.all false
set_option autoImplicit false
set_option maxRecDepth 100000
set_option maxHeartbeats 4000000
namespace Mi
open PySem PySem.Spec PyProof.Rows L2
def top (i : Nat) : Stmt := PySem.Challenge.pw_slipring_k11_whole_nothing_torn.main.body.getD i (.Pass ⟨0, 0, 0, 0⟩)
def IsDs : List String := []
def Er : List String := ["BadMark", "BadOrder", "BadSize", "Crooked", "NoCell", "NoHand", "NoTurn"]
def sub (s : Stmt) (j : Nat) : Stmt := match s with
  | .ClassDef _ _ _ body _ _ _ _ _ _ _ => body.getD j (.Pass ⟨0, 0, 0, 0⟩)
  | s => s
abbrev CLS : List String := ["Board", "Giver", "Lane", "Taker"]
abbrev FLS : List String := ["at", "board", "counted", "early", "giver", "here", "kept", "latest", "left", "name", "number", "other", "part", "parts", "seen", "size", "spot", "taken", "taker", "walked", "wares"]
abbrev TT (K : PySem.W.Frag) : Tx := ⟨K, CLS, FLS, Er⟩
section
variable {K : PySem.W.Frag} {P : Program} {w : World} {mg : Str → Option Value} {base : Heap}
abbrev s_law_well : Stmt := top 53
abbrev N_law_well : List Str := ["script", "k", "cell", "primes", "seed"]
theorem sc_law_well : FnScope N_law_well ["script", "k"] (defScope s_law_well) := ⟨rfl, rfl, rfl, by decide +kernel, rfl, by decide +kernel, by decide +kernel⟩
theorem ok_law_well (m_len : mg (st "len") = none) (D : ∃ fd, FunD K (st "_law_well") (st "_law_well") (defArgs s_law_well) (defBody s_law_well) (defScope s_law_well) [] [] (He.ga K (st "_law_well")) fd) (at_ : mg (st "_law_well") = some (.ref (He.ga K (st "_law_well")))) :
    FnM (TT K) P w mg base 2 "_law_well" ["script", "k"] F_law_well := by
  rw [F_law_well_eq]
  refine fnM_mk (T := TT K) D at_ sc_law_well rfl rfl (fun _ _ _ _ _ _ us hl => match us, hl with | [_, _], _ => rfl) fun cdv A outer s H E hr => ?_
  have tk := takes_of (X := cxOf (L2.CX P w) P w K mg base N_law_well (st "_law_well") (defScope s_law_well) (He.ga K (st "_law_well")) cdv A outer s H E) rfl rfl rfl rfl
  have po : PassesOwn _ (cxOf (L2.CX P w) P w K mg base N_law_well (st "_law_well") (defScope s_law_well) (He.ga K (st "_law_well")) cdv A outer s H E).A _ (cxOf (L2.CX P w) P w K mg base N_law_well (st "_law_well") (defScope s_law_well) (He.ga K (st "_law_well")) cdv A outer s H E).xe := passes_of rfl
  have nd := sc_law_well.nd
  have hu64 := hr.units
  have hu1 := Nat.lt_of_le_of_lt (Nat.add_le_add_left (by decide : 1 ≤ 64) _) hu64
  exact (ss_cons (s_set (i := 2) (fun _ h => ps_set (i := 2) nd rfl (by first | exact Or.inl rfl | exact Or.inr rfl) h) e_int)
  (ss_cons (s_if (t_cmp o_lt (e_var (pv 1)) (e_b (b_len rfl) rfl m_len (by decide +kernel) (a_cons (e_var (pv 0)) a_nil) (by decide) (by decide)) (nomark _)) (ss_one (s_set (i := 2) (fun _ h => ps_set (i := 2) nd rfl (by first | exact Or.inl rfl | exact Or.inr rfl) h) (e_ix rfl hu1 (e_var (pv 0)) (e_var (pv 1)) (fun _ _ => rfl)))) ss_nil)
  (ss_cons (s_set (i := 3) (fun _ h => ps_set (i := 3) nd rfl (by first | exact Or.inl rfl | exact Or.inr rfl) h) (e_lst (a_cons e_int (a_cons e_int (a_cons e_int (a_cons e_int (a_cons e_int (a_cons e_int (a_cons e_int (a_cons e_int a_nil))))))))))
  (ss_cons (s_set (i := 4) (fun _ h => ps_set (i := 4) nd rfl (by first | exact Or.inl rfl | exact Or.inr rfl) h) (e_op o_mod (e_op o_mul (e_op (o_add rfl) (e_op o_mod (e_var (pv 2)) e_int) e_int) (e_op (o_add rfl) e_int (e_op o_mul e_int (e_var (pv 1))))) e_int))
  (ss_cons (s_set (i := 4) (fun _ h => ps_set (i := 4) nd rfl (by first | exact Or.inl rfl | exact Or.inr rfl) h) (e_op (o_add rfl) (e_op (o_add rfl) (e_op o_mod (e_op o_mul (e_var (pv 4)) (e_var (pv 4))) e_int) (e_var (pv 1))) e_int))
  (ss_cons (s_if (t_cmp o_ge (e_var (pv 2)) (e_op o_pow e_int e_int) (nomark _)) (ss_one (s_ret (e_lst (a_cons (e_var (pv 2)) (a_cons (e_var (pv 4)) (a_cons (e_ix rfl hu1 (e_var (pv 3)) (e_op o_mod (e_var (pv 1)) e_int) (fun _ _ => rfl)) a_nil)))))) ss_nil)
  (ss_one (s_ret (e_lst (a_cons e_int (a_cons (e_var (pv 4)) (a_cons (e_ix rfl hu1 (e_var (pv 3)) (e_op o_mod (e_var (pv 1)) e_int) (fun _ _ => rfl)) a_nil))))))))))))
abbrev s_law_take : Stmt := top 54
abbrev N_law_take : List Str := ["well", "many", "got"]
theorem sc_law_take : FnScope N_law_take ["well", "many"] (defScope s_law_take) := ⟨rfl, rfl, rfl, by decide +kernel, rfl, by decide +kernel, by decide +kernel⟩
theorem ok_law_take  (D : ∃ fd, FunD K (st "_law_take") (st "_law_take") (defArgs s_law_take) (defBody s_law_take) (defScope s_law_take) [] [] (He.ga K (st "_law_take")) fd) (at_ : mg (st "_law_take") = some (.ref (He.ga K (st "_law_take")))) :
    FnM (TT K) P w mg base 2 "_law_take" ["well", "many"] F_law_take := by
  rw [F_law_take_eq]
  refine fnM_mk (T := TT K) D at_ sc_law_take rfl rfl (fun _ _ _ _ _ _ us hl => match us, hl with | [_, _], _ => rfl) fun cdv A outer s H E hr => ?_
  have tk := takes_of (X := cxOf (L2.CX P w) P w K mg base N_law_take (st "_law_take") (defScope s_law_take) (He.ga K (st "_law_take")) cdv A outer s H E) rfl rfl rfl rfl
  have po : PassesOwn _ (cxOf (L2.CX P w) P w K mg base N_law_take (st "_law_take") (defScope s_law_take) (He.ga K (st "_law_take")) cdv A outer s H E).A _ (cxOf (L2.CX P w) P w K mg base N_law_take (st "_law_take") (defScope s_law_take) (He.ga K (st "_law_take")) cdv A outer s H E).xe := passes_of rfl
  have nd := sc_law_take.nd
  have hu64 := hr.units
  have hu1 := Nat.lt_of_le_of_lt (Nat.add_le_add_left (by decide : 1 ≤ 64) _) hu64
  exact (ss_cons (s_if (t_cmp o_gt (e_ix rfl hu1 (e_var (pv 0)) e_int (fun _ _ => rfl)) e_int (nomark _)) (ss_cons (s_set (i := 2) (fun _ h => ps_set (i := 2) nd rfl (by first | exact Or.inl rfl | exact Or.inr rfl) h) (e_op o_mod (e_ix rfl hu1 (e_var (pv 0)) e_int (fun _ _ => rfl)) (e_var (pv 1))))
  (ss_cons (s_asg (e_op o_div (e_ix rfl hu1 (e_var (pv 0)) e_int (fun _ _ => rfl)) (e_var (pv 1))) (g_ix hu1 (e_var (pv 0)) e_int))
  (ss_one (s_ret (e_var (pv 2)))))) ss_nil)
  (ss_cons (s_asg (e_op (o_add rfl) (e_op o_mod (e_op o_mul (e_ix rfl hu1 (e_var (pv 0)) e_int (fun _ _ => rfl)) e_int) (e_ix rfl hu1 (e_var (pv 0)) e_int (fun _ _ => rfl))) e_int) (g_ix hu1 (e_var (pv 0)) e_int))
  (ss_one (s_ret (e_op o_mod (e_op o_div (e_op o_mod (e_op o_mul (e_ix rfl hu1 (e_var (pv 0)) e_int (fun _ _ => rfl)) (e_ix rfl hu1 (e_var (pv 0)) e_int (fun _ _ => rfl))) e_int) e_int) (e_var (pv 1)))))))
abbrev s_look_at_size : Stmt := top 13
abbrev N_look_at_size : List Str := ["size"]
theorem sc_look_at_size : FnScope N_look_at_size ["size"] (defScope s_look_at_size) := ⟨rfl, rfl, rfl, by decide +kernel, rfl, by decide +kernel, by decide +kernel⟩
theorem ok_look_at_size (c_LEAST_SIZE : ∃ t, mg (st "LEAST_SIZE") = some (.int 2 t)) (c_MOST_SIZE : ∃ t, mg (st "MOST_SIZE") = some (.int 8 t)) (ex_BadSize : ExF (TT K) mg "BadSize") (D : ∃ fd, FunD K (st "look_at_size") (st "look_at_size") (defArgs s_look_at_size) (defBody s_look_at_size) (defScope s_look_at_size) [] [] (He.ga K (st "look_at_size")) fd) (at_ : mg (st "look_at_size") = some (.ref (He.ga K (st "look_at_size")))) :
    FnM (TT K) P w mg base 2 "look_at_size" ["size"] F_look_at_size := by
  rw [F_look_at_size_eq]
  refine fnM_mk (T := TT K) D at_ sc_look_at_size rfl rfl (fun _ _ _ _ _ _ us hl => match us, hl with | [_], _ => rfl) fun cdv A outer s H E hr => ?_
  have tk := takes_of (X := cxOf (L2.CX P w) P w K mg base N_look_at_size (st "look_at_size") (defScope s_look_at_size) (He.ga K (st "look_at_size")) cdv A outer s H E) rfl rfl rfl rfl
  have po : PassesOwn _ (cxOf (L2.CX P w) P w K mg base N_look_at_size (st "look_at_size") (defScope s_look_at_size) (He.ga K (st "look_at_size")) cdv A outer s H E).A _ (cxOf (L2.CX P w) P w K mg base N_look_at_size (st "look_at_size") (defScope s_look_at_size) (He.ga K (st "look_at_size")) cdv A outer s H E).xe := passes_of rfl
  have nd := sc_look_at_size.nd
  have hu64 := hr.units
  have hu1 := Nat.lt_of_le_of_lt (Nat.add_le_add_left (by decide : 1 ≤ 64) _) hu64
  exact (ss_one (s_if (PW.pt (t_or (t_cmp o_lt (e_var (pv 0)) (e_gint c_LEAST_SIZE rfl (by decide)) (nomark _)) (t_or1 (t_cmp o_gt (e_var (pv 0)) (e_gint c_MOST_SIZE rfl (by decide)) (nomark _))))) (ss_one (s_raise' ex_BadSize rfl rfl tk rfl (by decide))) ss_nil))
abbrev s_Board___init : Stmt := sub (top 27) 0
abbrev N_Board___init : List Str := ["self", "size"]
theorem sc_Board___init : FnScope N_Board___init ["self", "size"] (defScope s_Board___init) := ⟨rfl, rfl, rfl, by decide +kernel, rfl, by decide +kernel, by decide +kernel⟩
theorem ok_Board___init (f_look_at_size : FnM (TT K) P w mg base 2 "look_at_size" ["size"] F_look_at_size) (hcl : ClsF (TT K)) (na_size : NoF (TT K) "size") (na_kept : NoF (TT K) "kept") (na_counted : NoF (TT K) "counted") (na_latest : NoF (TT K) "latest") (cl : "Board" ∈ (TT K).Cl) (D : ∃ fd, FunD K (st "__init__") (st "Board.__init__") (defArgs s_Board___init) (defBody s_Board___init) (defScope s_Board___init) [] [] (He.ma K (clA K "Board") (st "__init__")) fd) (mk : Mk K (clA K "Board") (He.ma K (clA K "Board") (st "__init__"))) (at_ : mg (st "Board") = some (.ref (clA K "Board"))) : MkM (TT K) P w mg base 3 "Board" ["self", "size"] F_Board___init := by
  rw [F_Board___init_eq]
  refine mkM_mk (T := TT K) cl D mk at_ sc_Board___init rfl rfl (fun _ _ _ _ _ _ us hl => match us, hl with | [_, _], _ => rfl) fun cdv A outer s H E hr => ?_
  have tk := takes_of (X := cxOf (L2.CX P w) P w K mg base N_Board___init (st "Board.__init__") (defScope s_Board___init) (He.ma K (clA K "Board") (st "__init__")) cdv A outer s H E) rfl rfl rfl rfl
  have po : PassesOwn _ (cxOf (L2.CX P w) P w K mg base N_Board___init (st "Board.__init__") (defScope s_Board___init) (He.ma K (clA K "Board") (st "__init__")) cdv A outer s H E).A _ (cxOf (L2.CX P w) P w K mg base N_Board___init (st "Board.__init__") (defScope s_Board___init) (He.ma K (clA K "Board") (st "__init__")) cdv A outer s H E).xe := passes_of rfl
  have nd := sc_Board___init.nd
  have hu64 := hr.units
  have hu1 := Nat.lt_of_le_of_lt (Nat.add_le_add_left (by decide : 1 ≤ 64) _) hu64
  exact (ss_cons (s_ex (e_call rfl tk f_look_at_size (by decide) hr rfl (a_cons (e_var (pv 1)) a_nil) (by decide)))
  (ss_cons (s_fld rfl hcl na_size.na na_size.mem (e_var (pv 0)) (e_var (pv 1)))
  (ss_cons (s_fld rfl hcl na_kept.na na_kept.mem (e_var (pv 0)) (e_op (o_add rfl) (e_op o_mul (e_lst (a_cons e_int (a_cons (e_un u_neg e_int) (a_cons e_int (a_cons e_int a_nil))))) (e_var (pv 1))) (e_lst (a_cons (e_un u_neg e_int) (a_cons (e_un u_neg e_int) (a_cons e_int (a_cons e_int a_nil)))))))
  (ss_cons (s_fld rfl hcl na_counted.na na_counted.mem (e_var (pv 0)) e_int)
  (ss_one (s_fld rfl hcl na_latest.na na_latest.mem (e_var (pv 0)) e_non))))))
abbrev s_look_at_order : Stmt := top 44
abbrev N_look_at_order : List Str := ["size", "order"]
theorem sc_look_at_order : FnScope N_look_at_order ["size", "order"] (defScope s_look_at_order) := ⟨rfl, rfl, rfl, by decide +kernel, rfl, by decide +kernel, by decide +kernel⟩
theorem ok_look_at_order (m_len : mg (st "len") = none) (ex_BadOrder : ExF (TT K) mg "BadOrder") (D : ∃ fd, FunD K (st "look_at_order") (st "look_at_order") (defArgs s_look_at_order) (defBody s_look_at_order) (defScope s_look_at_order) [] [] (He.ga K (st "look_at_order")) fd) (at_ : mg (st "look_at_order") = some (.ref (He.ga K (st "look_at_order")))) :
    FnM (TT K) P w mg base 2 "look_at_order" ["size", "order"] F_look_at_order := by
  rw [F_look_at_order_eq]
  refine fnM_mk (T := TT K) D at_ sc_look_at_order rfl rfl (fun _ _ _ _ _ _ us hl => match us, hl with | [_, _], _ => rfl) fun cdv A outer s H E hr => ?_
  have tk := takes_of (X := cxOf (L2.CX P w) P w K mg base N_look_at_order (st "look_at_order") (defScope s_look_at_order) (He.ga K (st "look_at_order")) cdv A outer s H E) rfl rfl rfl rfl
  have po : PassesOwn _ (cxOf (L2.CX P w) P w K mg base N_look_at_order (st "look_at_order") (defScope s_look_at_order) (He.ga K (st "look_at_order")) cdv A outer s H E).A _ (cxOf (L2.CX P w) P w K mg base N_look_at_order (st "look_at_order") (defScope s_look_at_order) (He.ga K (st "look_at_order")) cdv A outer s H E).xe := passes_of rfl
  have nd := sc_look_at_order.nd
  have hu64 := hr.units
  have hu1 := Nat.lt_of_le_of_lt (Nat.add_le_add_left (by decide : 1 ≤ 64) _) hu64
  exact (ss_one (s_if (PW.pt (t_or (t_cmp o_lt (e_b (b_len rfl) rfl m_len (by decide +kernel) (a_cons (e_var (pv 1)) a_nil) (by decide) (by decide)) e_int (nomark _)) (t_or1 (t_cmp o_gt (e_b (b_len rfl) rfl m_len (by decide +kernel) (a_cons (e_var (pv 1)) a_nil) (by decide) (by decide)) (e_var (pv 0)) (nomark _))))) (ss_one (s_raise' ex_BadOrder rfl rfl tk rfl (by decide))) ss_nil))
abbrev s_Hand___init : Stmt := sub (top 45) 0
abbrev N_Hand___init : List Str := ["self", "board", "name", "other"]
theorem sc_Hand___init : FnScope N_Hand___init ["self", "board", "name", "other"] (defScope s_Hand___init) := ⟨rfl, rfl, rfl, by decide +kernel, rfl, by decide +kernel, by decide +kernel⟩
theorem ok_Hand___init {c : String} (hcl : ClsF (TT K)) (na_board : NoF (TT K) "board") (na_name : NoF (TT K) "name") (na_other : NoF (TT K) "other") (na_here : NoF (TT K) "here") (na_spot : NoF (TT K) "spot") (na_seen : NoF (TT K) "seen") (D : ∃ fd, FunD K (st "__init__") (st "Hand.__init__") (defArgs s_Hand___init) (defBody s_Hand___init) (defScope s_Hand___init) [] [] (He.ma K (clA K c) (st "__init__")) fd) (at_ : Meth K (clA K c) (st "__init__") (He.ma K (clA K c) (st "__init__"))) : MtM (TT K) P w mg base 2 c "__init__" ["self", "board", "name", "other"] F_Hand___init := by
  rw [F_Hand___init_eq]
  refine mtM_mk (T := TT K) D at_ sc_Hand___init rfl rfl (fun _ _ _ _ _ _ us hl => match us, hl with | [_, _, _, _], _ => rfl) fun cdv A outer s H E hr => ?_
  have tk := takes_of (X := cxOf (L2.CX P w) P w K mg base N_Hand___init (st "Hand.__init__") (defScope s_Hand___init) (He.ma K (clA K c) (st "__init__")) cdv A outer s H E) rfl rfl rfl rfl
  have po : PassesOwn _ (cxOf (L2.CX P w) P w K mg base N_Hand___init (st "Hand.__init__") (defScope s_Hand___init) (He.ma K (clA K c) (st "__init__")) cdv A outer s H E).A _ (cxOf (L2.CX P w) P w K mg base N_Hand___init (st "Hand.__init__") (defScope s_Hand___init) (He.ma K (clA K c) (st "__init__")) cdv A outer s H E).xe := passes_of rfl
  have nd := sc_Hand___init.nd
  have hu64 := hr.units
  have hu1 := Nat.lt_of_le_of_lt (Nat.add_le_add_left (by decide : 1 ≤ 64) _) hu64
  exact (ss_cons (s_fld rfl hcl na_board.na na_board.mem (e_var (pv 0)) (e_var (pv 1)))
  (ss_cons (s_fld rfl hcl na_name.na na_name.mem (e_var (pv 0)) (e_var (pv 2)))
  (ss_cons (s_fld rfl hcl na_other.na na_other.mem (e_var (pv 0)) (e_var (pv 3)))
  (ss_cons (s_fld rfl hcl na_here.na na_here.mem (e_var (pv 0)) e_str)
  (ss_cons (s_fld rfl hcl na_spot.na na_spot.mem (e_var (pv 0)) e_non)
  (ss_one (s_fld rfl hcl na_seen.na na_seen.mem (e_var (pv 0)) (e_lst a_nil))))))))
abbrev s_Giver___init : Stmt := sub (top 47) 0
abbrev N_Giver___init : List Str := ["self", "board", "orders", "order"]
theorem sc_Giver___init : FnScope N_Giver___init ["self", "board", "orders"] (defScope s_Giver___init) := ⟨rfl, rfl, rfl, by decide +kernel, rfl, by decide +kernel, by decide +kernel⟩
theorem ok_Giver___init (f_look_at_order : FnM (TT K) P w mg base 2 "look_at_order" ["size", "order"] F_look_at_order) (hcl : ClsF (TT K)) (na_size : NoF (TT K) "size") (mt_Hand___init__ : MtM (TT K) P w mg base 2 "Hand" "__init__" ["self", "board", "name", "other"] F_Hand___init) (su_Hand___init__ : SupF (TT K) mg "Hand" "__init__") (m_list : mg (st "list") = none) (na_wares : NoF (TT K) "wares") (na_at : NoF (TT K) "at") (na_part : NoF (TT K) "part") (cl : "Giver" ∈ (TT K).Cl) (D : ∃ fd, FunD K (st "__init__") (st "Giver.__init__") (defArgs s_Giver___init) (defBody s_Giver___init) (defScope s_Giver___init) [] [] (He.ma K (clA K "Giver") (st "__init__")) fd) (mk : Mk K (clA K "Giver") (He.ma K (clA K "Giver") (st "__init__"))) (at_ : mg (st "Giver") = some (.ref (clA K "Giver"))) : MkM (TT K) P w mg base 3 "Giver" ["self", "board", "orders"] F_Giver___init := by
  rw [F_Giver___init_eq]
  refine mkM_mk (T := TT K) cl D mk at_ sc_Giver___init rfl rfl (fun _ _ _ _ _ _ us hl => match us, hl with | [_, _, _], _ => rfl) fun cdv A outer s H E hr => ?_
  have tk := takes_of (X := cxOf (L2.CX P w) P w K mg base N_Giver___init (st "Giver.__init__") (defScope s_Giver___init) (He.ma K (clA K "Giver") (st "__init__")) cdv A outer s H E) rfl rfl rfl rfl
  have po : PassesOwn _ (cxOf (L2.CX P w) P w K mg base N_Giver___init (st "Giver.__init__") (defScope s_Giver___init) (He.ma K (clA K "Giver") (st "__init__")) cdv A outer s H E).A _ (cxOf (L2.CX P w) P w K mg base N_Giver___init (st "Giver.__init__") (defScope s_Giver___init) (He.ma K (clA K "Giver") (st "__init__")) cdv A outer s H E).xe := passes_of rfl
  have nd := sc_Giver___init.nd
  have hu64 := hr.units
  have hu1 := Nat.lt_of_le_of_lt (Nat.add_le_add_left (by decide : 1 ≤ 64) _) hu64
  exact (ss_cons (s_for po rfl (i_seq rfl (e_var (pv 2))) (g_name (pg_name (i := 3) nd rfl (by first | exact Or.inl rfl | exact Or.inr rfl))) (ss_one (s_ex (e_call rfl tk f_look_at_order (by decide) hr rfl (a_cons (e_fld rfl hcl na_size.na (e_var (pv 1)) (by rfl)) (a_cons (e_var (pv 3)) a_nil)) (by decide)))))
  (ss_cons (s_ex (e_super rfl tk su_Hand___init__ mt_Hand___init__ (by decide) hr rfl (a_cons (e_var (pv 0)) (a_cons (e_var (pv 1)) (a_cons e_str (a_cons e_str a_nil)))) (by decide)))
  (ss_cons (s_fld rfl hcl na_wares.na na_wares.mem (e_var (pv 0)) (e_comp rfl nd (i_seq rfl (e_var (pv 2))) (blkOk_by (own := [(st "order", 3)]) (N := N_Giver___init) (sc := defScope s_Giver___init) (by decide +kernel)) (fun _ _ _ _ _ => pg_name (i := 3) nd rfl (by first | exact Or.inl rfl | exact Or.inr rfl)) (fun _ _ _ _ _ => tst_nil) (fun _ _ _ _ _ => (e_bt (b_list rfl) rfl m_list (by decide +kernel) (a_cons (e_var (pv 3)) a_nil) (by decide) (by decide)))))
  (ss_cons (s_fld rfl hcl na_at.na na_at.mem (e_var (pv 0)) e_int)
  (ss_one (s_fld rfl hcl na_part.na na_part.mem (e_var (pv 0)) e_int))))))
abbrev s_Taker___init : Stmt := sub (top 49) 0
abbrev N_Taker___init : List Str := ["self", "board", "book", "order"]
theorem sc_Taker___init : FnScope N_Taker___init ["self", "board", "book"] (defScope s_Taker___init) := ⟨rfl, rfl, rfl, by decide +kernel, rfl, by decide +kernel, by decide +kernel⟩
theorem ok_Taker___init (f_look_at_order : FnM (TT K) P w mg base 2 "look_at_order" ["size", "order"] F_look_at_order) (hcl : ClsF (TT K)) (na_size : NoF (TT K) "size") (mt_Hand___init__ : MtM (TT K) P w mg base 2 "Hand" "__init__" ["self", "board", "name", "other"] F_Hand___init) (su_Hand___init__ : SupF (TT K) mg "Hand" "__init__") (m_list : mg (st "list") = none) (na_taken : NoF (TT K) "taken") (na_early : NoF (TT K) "early") (na_number : NoF (TT K) "number") (na_left : NoF (TT K) "left") (na_parts : NoF (TT K) "parts") (cl : "Taker" ∈ (TT K).Cl) (D : ∃ fd, FunD K (st "__init__") (st "Taker.__init__") (defArgs s_Taker___init) (defBody s_Taker___init) (defScope s_Taker___init) [] [] (He.ma K (clA K "Taker") (st "__init__")) fd) (mk : Mk K (clA K "Taker") (He.ma K (clA K "Taker") (st "__init__"))) (at_ : mg (st "Taker") = some (.ref (clA K "Taker"))) : MkM (TT K) P w mg base 3 "Taker" ["self", "board", "book"] F_Taker___init := by
  rw [F_Taker___init_eq]
  refine mkM_mk (T := TT K) cl D mk at_ sc_Taker___init rfl rfl (fun _ _ _ _ _ _ us hl => match us, hl with | [_, _, _], _ => rfl) fun cdv A outer s H E hr => ?_
  have tk := takes_of (X := cxOf (L2.CX P w) P w K mg base N_Taker___init (st "Taker.__init__") (defScope s_Taker___init) (He.ma K (clA K "Taker") (st "__init__")) cdv A outer s H E) rfl rfl rfl rfl
  have po : PassesOwn _ (cxOf (L2.CX P w) P w K mg base N_Taker___init (st "Taker.__init__") (defScope s_Taker___init) (He.ma K (clA K "Taker") (st "__init__")) cdv A outer s H E).A _ (cxOf (L2.CX P w) P w K mg base N_Taker___init (st "Taker.__init__") (defScope s_Taker___init) (He.ma K (clA K "Taker") (st "__init__")) cdv A outer s H E).xe := passes_of rfl
  have nd := sc_Taker___init.nd
  have hu64 := hr.units
  have hu1 := Nat.lt_of_le_of_lt (Nat.add_le_add_left (by decide : 1 ≤ 64) _) hu64
  exact (ss_cons (s_for po rfl (i_seq rfl (e_var (pv 2))) (g_name (pg_name (i := 3) nd rfl (by first | exact Or.inl rfl | exact Or.inr rfl))) (ss_one (s_ex (e_call rfl tk f_look_at_order (by decide) hr rfl (a_cons (e_fld rfl hcl na_size.na (e_var (pv 1)) (by rfl)) (a_cons (e_var (pv 3)) a_nil)) (by decide)))))
  (ss_cons (s_ex (e_super rfl tk su_Hand___init__ mt_Hand___init__ (by decide) hr rfl (a_cons (e_var (pv 0)) (a_cons (e_var (pv 1)) (a_cons e_str (a_cons e_str a_nil)))) (by decide)))
  (ss_cons (s_fld rfl hcl na_taken.na na_taken.mem (e_var (pv 0)) (e_comp rfl nd (i_seq rfl (e_var (pv 2))) (blkOk_by (own := [(st "order", 3)]) (N := N_Taker___init) (sc := defScope s_Taker___init) (by decide +kernel)) (fun _ _ _ _ _ => pg_name (i := 3) nd rfl (by first | exact Or.inl rfl | exact Or.inr rfl)) (fun _ _ _ _ _ => tst_nil) (fun _ _ _ _ _ => (e_bt (b_list rfl) rfl m_list (by decide +kernel) (a_cons (e_var (pv 3)) a_nil) (by decide) (by decide)))))
  (ss_cons (s_fld rfl hcl na_early.na na_early.mem (e_var (pv 0)) e_non)
  (ss_cons (s_fld rfl hcl na_number.na na_number.mem (e_var (pv 0)) e_int)
  (ss_cons (s_fld rfl hcl na_left.na na_left.mem (e_var (pv 0)) e_int)
  (ss_one (s_fld rfl hcl na_parts.na na_parts.mem (e_var (pv 0)) (e_lst a_nil)))))))))
abbrev s_Lane___init : Stmt := sub (top 51) 0
abbrev N_Lane___init : List Str := ["self", "size"]
theorem sc_Lane___init : FnScope N_Lane___init ["self", "size"] (defScope s_Lane___init) := ⟨rfl, rfl, rfl, by decide +kernel, rfl, by decide +kernel, by decide +kernel⟩
theorem ok_Lane___init (mk_Board : MkM (TT K) P w mg base 3 "Board" ["self", "size"] F_Board___init) (hcl : ClsF (TT K)) (na_board : NoF (TT K) "board") (mk_Giver : MkM (TT K) P w mg base 3 "Giver" ["self", "board", "orders"] F_Giver___init) (na_giver : NoF (TT K) "giver") (mk_Taker : MkM (TT K) P w mg base 3 "Taker" ["self", "board", "book"] F_Taker___init) (na_taker : NoF (TT K) "taker") (na_walked : NoF (TT K) "walked") (cl : "Lane" ∈ (TT K).Cl) (D : ∃ fd, FunD K (st "__init__") (st "Lane.__init__") (defArgs s_Lane___init) (defBody s_Lane___init) (defScope s_Lane___init) [] [] (He.ma K (clA K "Lane") (st "__init__")) fd) (mk : Mk K (clA K "Lane") (He.ma K (clA K "Lane") (st "__init__"))) (at_ : mg (st "Lane") = some (.ref (clA K "Lane"))) : MkM (TT K) P w mg base 5 "Lane" ["self", "size"] F_Lane___init := by
  rw [F_Lane___init_eq]
  refine mkM_mk (T := TT K) cl D mk at_ sc_Lane___init rfl rfl (fun _ _ _ _ _ _ us hl => match us, hl with | [_, _], _ => rfl) fun cdv A outer s H E hr => ?_
  have tk := takes_of (X := cxOf (L2.CX P w) P w K mg base N_Lane___init (st "Lane.__init__") (defScope s_Lane___init) (He.ma K (clA K "Lane") (st "__init__")) cdv A outer s H E) rfl rfl rfl rfl
  have po : PassesOwn _ (cxOf (L2.CX P w) P w K mg base N_Lane___init (st "Lane.__init__") (defScope s_Lane___init) (He.ma K (clA K "Lane") (st "__init__")) cdv A outer s H E).A _ (cxOf (L2.CX P w) P w K mg base N_Lane___init (st "Lane.__init__") (defScope s_Lane___init) (He.ma K (clA K "Lane") (st "__init__")) cdv A outer s H E).xe := passes_of rfl
  have nd := sc_Lane___init.nd
  have hu64 := hr.units
  have hu1 := Nat.lt_of_le_of_lt (Nat.add_le_add_left (by decide : 1 ≤ 64) _) hu64
  exact (ss_cons (s_fld rfl hcl na_board.na na_board.mem (e_var (pv 0)) (e_make rfl tk mk_Board (by decide) (k := 3) hr rfl (a_cons (e_var (pv 1)) a_nil) (by decide)))
  (ss_cons (s_fld rfl hcl na_giver.na na_giver.mem (e_var (pv 0)) (e_make rfl tk mk_Giver (by decide) (k := 3) hr rfl (a_cons (e_fld rfl hcl na_board.na (e_var (pv 0)) (by rfl)) (a_cons (e_lst a_nil) a_nil)) (by decide)))
  (ss_cons (s_fld rfl hcl na_taker.na na_taker.mem (e_var (pv 0)) (e_make rfl tk mk_Taker (by decide) (k := 3) hr rfl (a_cons (e_fld rfl hcl na_board.na (e_var (pv 0)) (by rfl)) (a_cons (e_lst a_nil) a_nil)) (by decide)))
  (ss_one (s_fld rfl hcl na_walked.na na_walked.mem (e_var (pv 0)) (e_lst a_nil))))))
abbrev s_law_moves : Stmt := top 56
abbrev N_law_moves : List Str := ["script", "first", "most", "wells", "own", "lean", "rare", "many", "moves", "stretch", "who", "k", "well", "way"]
theorem sc_law_moves : FnScope N_law_moves ["script", "first", "most"] (defScope s_law_moves) := ⟨rfl, rfl, rfl, by decide +kernel, rfl, by decide +kernel, by decide +kernel⟩
theorem ok_law_moves (m_range : mg (st "range") = none) (m_max : mg (st "max") = none) (m_min : mg (st "min") = none) (m_len : mg (st "len") = none) (f__law_well : FnM (TT K) P w mg base 2 "_law_well" ["script", "k"] F_law_well) (f__law_take : FnM (TT K) P w mg base 2 "_law_take" ["well", "many"] F_law_take) (D : ∃ fd, FunD K (st "_law_moves") (st "_law_moves") (defArgs s_law_moves) (defBody s_law_moves) (defScope s_law_moves) [] [] (He.ga K (st "_law_moves")) fd) (at_ : mg (st "_law_moves") = some (.ref (He.ga K (st "_law_moves")))) :
    FnM (TT K) P w mg base 3 "_law_moves" ["script", "first", "most"] F_law_moves := by
  rw [F_law_moves_eq]
  refine fnM_mk (T := TT K) D at_ sc_law_moves rfl rfl (fun _ _ _ _ _ _ us hl => match us, hl with | [_, _, _], _ => rfl) fun cdv A outer s H E hr => ?_
  have tk := takes_of (X := cxOf (L2.CX P w) P w K mg base N_law_moves (st "_law_moves") (defScope s_law_moves) (He.ga K (st "_law_moves")) cdv A outer s H E) rfl rfl rfl rfl
  have po : PassesOwn _ (cxOf (L2.CX P w) P w K mg base N_law_moves (st "_law_moves") (defScope s_law_moves) (He.ga K (st "_law_moves")) cdv A outer s H E).A _ (cxOf (L2.CX P w) P w K mg base N_law_moves (st "_law_moves") (defScope s_law_moves) (He.ga K (st "_law_moves")) cdv A outer s H E).xe := passes_of rfl
  have nd := sc_law_moves.nd
  have hu64 := hr.units
  have hu1 := Nat.lt_of_le_of_lt (Nat.add_le_add_left (by decide : 1 ≤ 64) _) hu64
  exact (ss_cons (s_setLc (j := 3) rfl nd rfl rfl (sw_true rfl rfl rfl (by decide +kernel)) (i_rng2 rfl m_range (e_var (pv 1)) (e_b (b_max rfl) rfl m_max (by decide +kernel) (a_cons (e_op (o_add rfl) (e_var (pv 1)) e_int) (a_cons (e_b (b_min rfl) rfl m_min (by decide +kernel) (a_cons e_int (a_cons (e_b (b_len rfl) rfl m_len (by decide +kernel) (a_cons (e_var (pv 0)) a_nil) (by decide) (by decide)) a_nil)) (by decide) (by decide)) a_nil)) (by decide) (by decide))) (blkOk_by (own := [(st "k", 11)]) (N := N_law_moves) (sc := defScope s_law_moves) (by decide +kernel)) (fun _ _ _ _ _ => pg_name (i := 11) nd rfl (by first | exact Or.inl rfl | exact Or.inr rfl)) (fun _ _ _ _ _ => tst_nil) (fun _ _ _ _ _ => (e_call rfl takes0 f__law_well (by decide) hr rfl (a_cons (e_var (pv 0)) (a_cons (e_var (pv 11)) a_nil)) (by decide))))
  (ss_cons (s_set (i := 4) (fun _ h => ps_set (i := 4) nd rfl (by first | exact Or.inl rfl | exact Or.inr rfl) h) (e_ix rfl hu1 (e_var (pv 3)) e_int (fun _ _ => rfl)))
  (ss_cons (s_set (i := 5) (fun _ h => ps_set (i := 5) nd rfl (by first | exact Or.inl rfl | exact Or.inr rfl) h) (e_call rfl tk f__law_take (by decide) hr rfl (a_cons (e_var (pv 4)) (a_cons e_int a_nil)) (by decide)))
  (ss_cons (s_set (i := 6) (fun _ h => ps_set (i := 6) nd rfl (by first | exact Or.inl rfl | exact Or.inr rfl) h) (e_ix rfl hu1 (e_lst (a_cons e_int (a_cons e_int (a_cons e_int a_nil)))) (e_call rfl tk f__law_take (by decide) hr rfl (a_cons (e_var (pv 4)) (a_cons e_int a_nil)) (by decide)) (fun _ _ => rfl)))
  (ss_cons (s_set (i := 7) (fun _ h => ps_set (i := 7) nd rfl (by first | exact Or.inl rfl | exact Or.inr rfl) h) (e_ix rfl hu1 (e_lst (a_cons (e_call rfl tk f__law_take (by decide) hr rfl (a_cons (e_var (pv 4)) (a_cons (e_op (o_add rfl) (e_var (pv 2)) e_int) a_nil)) (by decide)) (a_cons (e_var (pv 2)) a_nil))) (e_call rfl tk f__law_take (by decide) hr rfl (a_cons (e_var (pv 4)) (a_cons e_int a_nil)) (by decide)) (fun _ _ => rfl)))
  (ss_cons (s_set (i := 8) (fun _ h => ps_set (i := 8) nd rfl (by first | exact Or.inl rfl | exact Or.inr rfl) h) (e_lst a_nil))
  (ss_cons (s_set (i := 9) (fun _ h => ps_set (i := 9) nd rfl (by first | exact Or.inl rfl | exact Or.inr rfl) h) e_int)
  (ss_cons (s_set (i := 10) (fun _ h => ps_set (i := 10) nd rfl (by first | exact Or.inl rfl | exact Or.inr rfl) h) e_int)
  (ss_cons (s_for po rfl (i_rng1 rfl m_range (e_var (pv 7))) (g_name (pg_name (i := 11) nd rfl (by first | exact Or.inl rfl | exact Or.inr rfl))) (ss_cons (s_set (i := 12) (fun _ h => ps_set (i := 12) nd rfl (by first | exact Or.inl rfl | exact Or.inr rfl) h) (e_ix rfl hu1 (e_var (pv 3)) (e_op o_mod (e_var (pv 11)) (e_b (b_len rfl) rfl m_len (by decide +kernel) (a_cons (e_var (pv 3)) a_nil) (by decide) (by decide))) (fun _ _ => rfl)))
  (ss_cons (s_set (i := 13) (fun _ h => ps_set (i := 13) nd rfl (by first | exact Or.inl rfl | exact Or.inr rfl) h) (e_call rfl tk f__law_take (by decide) hr rfl (a_cons (e_var (pv 12)) (a_cons (e_var (pv 6)) a_nil)) (by decide)))
  (ss_one (s_if (t_cmp o_lt (e_var (pv 13)) e_int (nomark _)) (ss_one (s_ex (e_bm rfl PySem.F.plainAttrs_list PySem.F.slot_list_append PySem.F.type_list_append m_append (e_var (pv 8)) (a_cons (e_op (o_add rfl) e_int (e_var (pv 13))) a_nil)))) (ss_cons (s_if (t_cmp (o_eq rfl hu64) (e_var (pv 9)) e_int (nomark _)) (ss_cons (s_set (i := 10) (fun _ h => ps_set (i := 10) nd rfl (by first | exact Or.inl rfl | exact Or.inr rfl) h) (e_call rfl tk f__law_take (by decide) hr rfl (a_cons (e_var (pv 12)) (a_cons e_int a_nil)) (by decide)))
  (ss_one (s_set (i := 9) (fun _ h => ps_set (i := 9) nd rfl (by first | exact Or.inl rfl | exact Or.inr rfl) h) (e_op (o_add rfl) e_int (e_call rfl tk f__law_take (by decide) hr rfl (a_cons (e_var (pv 12)) (a_cons (e_ix rfl hu1 (e_lst (a_cons e_int (a_cons e_int (a_cons e_int (a_cons e_int a_nil))))) (e_var (pv 5)) (fun _ _ => rfl)) a_nil)) (by decide)))))) ss_nil)
  (ss_cons (s_set (i := 9) (fun _ h => ps_set (i := 9) nd rfl (by first | exact Or.inl rfl | exact Or.inr rfl) h) (e_op o_sub (e_var (pv 9)) e_int))
  (ss_one (s_ex (e_bm rfl PySem.F.plainAttrs_list PySem.F.slot_list_append PySem.F.type_list_append m_append (e_var (pv 8)) (a_cons (e_var (pv 10)) a_nil)))))))))))
  (ss_one (s_ret (e_var (pv 8)))))))))))))
abbrev s_Board_look_at_cell : Stmt := sub (top 27) 1
abbrev N_Board_look_at_cell : List Str := ["self", "cell"]
theorem sc_Board_look_at_cell : FnScope N_Board_look_at_cell ["self", "cell"] (defScope s_Board_look_at_cell) := ⟨rfl, rfl, rfl, by decide +kernel, rfl, by decide +kernel, by decide +kernel⟩
theorem ok_Board_look_at_cell {c : String} (m_len : mg (st "len") = none) (hcl : ClsF (TT K)) (na_kept : NoF (TT K) "kept") (ex_NoCell : ExF (TT K) mg "NoCell") (D : ∃ fd, FunD K (st "look_at_cell") (st "Board.look_at_cell") (defArgs s_Board_look_at_cell) (defBody s_Board_look_at_cell) (defScope s_Board_look_at_cell) [] [] (He.ma K (clA K c) (st "look_at_cell")) fd) (at_ : Meth K (clA K c) (st "look_at_cell") (He.ma K (clA K c) (st "look_at_cell"))) : MtM (TT K) P w mg base 2 c "look_at_cell" ["self", "cell"] F_Board_look_at_cell := by
  rw [F_Board_look_at_cell_eq]
  refine mtM_mk (T := TT K) D at_ sc_Board_look_at_cell rfl rfl (fun _ _ _ _ _ _ us hl => match us, hl with | [_, _], _ => rfl) fun cdv A outer s H E hr => ?_
  have tk := takes_of (X := cxOf (L2.CX P w) P w K mg base N_Board_look_at_cell (st "Board.look_at_cell") (defScope s_Board_look_at_cell) (He.ma K (clA K c) (st "look_at_cell")) cdv A outer s H E) rfl rfl rfl rfl
  have po : PassesOwn _ (cxOf (L2.CX P w) P w K mg base N_Board_look_at_cell (st "Board.look_at_cell") (defScope s_Board_look_at_cell) (He.ma K (clA K c) (st "look_at_cell")) cdv A outer s H E).A _ (cxOf (L2.CX P w) P w K mg base N_Board_look_at_cell (st "Board.look_at_cell") (defScope s_Board_look_at_cell) (He.ma K (clA K c) (st "look_at_cell")) cdv A outer s H E).xe := passes_of rfl
  have nd := sc_Board_look_at_cell.nd
  have hu64 := hr.units
  have hu1 := Nat.lt_of_le_of_lt (Nat.add_le_add_left (by decide : 1 ≤ 64) _) hu64
  exact (ss_one (s_if (PW.pt (t_or (t_cmp o_lt (e_var (pv 1)) e_int (nomark _)) (t_or1 (t_cmp o_ge (e_var (pv 1)) (e_b (b_len rfl) rfl m_len (by decide +kernel) (a_cons (e_fld rfl hcl na_kept.na (e_var (pv 0)) (by rfl)) a_nil) (by decide) (by decide)) (nomark _))))) (ss_one (s_raise' ex_NoCell rfl rfl tk rfl (by decide))) ss_nil))
abbrev s_Board_touched : Stmt := sub (top 27) 2
abbrev N_Board_touched : List Str := ["self", "deed", "cell"]
theorem sc_Board_touched : FnScope N_Board_touched ["self", "deed", "cell"] (defScope s_Board_touched) := ⟨rfl, rfl, rfl, by decide +kernel, rfl, by decide +kernel, by decide +kernel⟩
theorem ok_Board_touched {c : String} (hcl : ClsF (TT K)) (na_counted : NoF (TT K) "counted") (na_kept : NoF (TT K) "kept") (na_latest : NoF (TT K) "latest") (D : ∃ fd, FunD K (st "touched") (st "Board.touched") (defArgs s_Board_touched) (defBody s_Board_touched) (defScope s_Board_touched) [] [] (He.ma K (clA K c) (st "touched")) fd) (at_ : Meth K (clA K c) (st "touched") (He.ma K (clA K c) (st "touched"))) : MtM (TT K) P w mg base 2 c "touched" ["self", "deed", "cell"] F_Board_touched := by
  rw [F_Board_touched_eq]
  refine mtM_mk (T := TT K) D at_ sc_Board_touched rfl rfl (fun _ _ _ _ _ _ us hl => match us, hl with | [_, _, _], _ => rfl) fun cdv A outer s H E hr => ?_
  have tk := takes_of (X := cxOf (L2.CX P w) P w K mg base N_Board_touched (st "Board.touched") (defScope s_Board_touched) (He.ma K (clA K c) (st "touched")) cdv A outer s H E) rfl rfl rfl rfl
  have po : PassesOwn _ (cxOf (L2.CX P w) P w K mg base N_Board_touched (st "Board.touched") (defScope s_Board_touched) (He.ma K (clA K c) (st "touched")) cdv A outer s H E).A _ (cxOf (L2.CX P w) P w K mg base N_Board_touched (st "Board.touched") (defScope s_Board_touched) (He.ma K (clA K c) (st "touched")) cdv A outer s H E).xe := passes_of rfl
  have nd := sc_Board_touched.nd
  have hu64 := hr.units
  have hu1 := Nat.lt_of_le_of_lt (Nat.add_le_add_left (by decide : 1 ≤ 64) _) hu64
  exact (ss_cons (s_fld rfl hcl na_counted.na na_counted.mem (e_var (pv 0)) (e_op (o_add rfl) (e_fld rfl hcl na_counted.na (e_var (pv 0)) (by rfl)) e_int))
  (ss_cons (s_fld rfl hcl na_latest.na na_latest.mem (e_var (pv 0)) (e_tup (a_cons (e_var (pv 1)) (a_cons (e_var (pv 2)) (a_cons (e_ix rfl hu1 (e_fld rfl hcl na_kept.na (e_var (pv 0)) (by rfl)) (e_var (pv 2)) (fun _ _ => rfl)) a_nil)))))
  (ss_one (s_ret (e_ix rfl hu1 (e_fld rfl hcl na_kept.na (e_var (pv 0)) (by rfl)) (e_var (pv 2)) (fun _ _ => rfl))))))
abbrev s_Board_write : Stmt := sub (top 27) 4
abbrev N_Board_write : List Str := ["self", "cell", "number"]
theorem sc_Board_write : FnScope N_Board_write ["self", "cell", "number"] (defScope s_Board_write) := ⟨rfl, rfl, rfl, by decide +kernel, rfl, by decide +kernel, by decide +kernel⟩
theorem ok_Board_write {c : String} (mt_Board_look_at_cell : MtM (TT K) P w mg base 2 "Board" "look_at_cell" ["self", "cell"] F_Board_look_at_cell) (hcl : ClsF (TT K)) (na_kept : NoF (TT K) "kept") (mt_Board_touched : MtM (TT K) P w mg base 2 "Board" "touched" ["self", "deed", "cell"] F_Board_touched) (D : ∃ fd, FunD K (st "write") (st "Board.write") (defArgs s_Board_write) (defBody s_Board_write) (defScope s_Board_write) [] [] (He.ma K (clA K c) (st "write")) fd) (at_ : Meth K (clA K c) (st "write") (He.ma K (clA K c) (st "write"))) : MtM (TT K) P w mg base 3 c "write" ["self", "cell", "number"] F_Board_write := by
  rw [F_Board_write_eq]
  refine mtM_mk (T := TT K) D at_ sc_Board_write rfl rfl (fun _ _ _ _ _ _ us hl => match us, hl with | [_, _, _], _ => rfl) fun cdv A outer s H E hr => ?_
  have tk := takes_of (X := cxOf (L2.CX P w) P w K mg base N_Board_write (st "Board.write") (defScope s_Board_write) (He.ma K (clA K c) (st "write")) cdv A outer s H E) rfl rfl rfl rfl
  have po : PassesOwn _ (cxOf (L2.CX P w) P w K mg base N_Board_write (st "Board.write") (defScope s_Board_write) (He.ma K (clA K c) (st "write")) cdv A outer s H E).A _ (cxOf (L2.CX P w) P w K mg base N_Board_write (st "Board.write") (defScope s_Board_write) (He.ma K (clA K c) (st "write")) cdv A outer s H E).xe := passes_of rfl
  have nd := sc_Board_write.nd
  have hu64 := hr.units
  have hu1 := Nat.lt_of_le_of_lt (Nat.add_le_add_left (by decide : 1 ≤ 64) _) hu64
  exact (ss_cons (s_ex (e_meth rfl tk hcl (MtAll.one mt_Board_look_at_cell (by decide)) (show _ ∉ FLS by decide) hr (e_var (pv 0)) (a_cons (e_var (pv 1)) a_nil)))
  (ss_cons (s_asg (e_var (pv 2)) (g_ix hu1 (e_fld rfl hcl na_kept.na (e_var (pv 0)) (by rfl)) (e_var (pv 1))))
  (ss_one (s_ex (e_meth rfl tk hcl (MtAll.one mt_Board_touched (by decide)) (show _ ∉ FLS by decide) hr (e_var (pv 0)) (a_cons e_str (a_cons (e_var (pv 1)) a_nil)))))))
abbrev s_look_at_hand : Stmt := top 24
abbrev N_look_at_hand : List Str := ["hand"]
theorem sc_look_at_hand : FnScope N_look_at_hand ["hand"] (defScope s_look_at_hand) := ⟨rfl, rfl, rfl, by decide +kernel, rfl, by decide +kernel, by decide +kernel⟩
theorem ok_look_at_hand (c_HANDS : TupF (TT K) mg "HANDS" ["giver", "taker"]) (ex_NoHand : ExF (TT K) mg "NoHand") (D : ∃ fd, FunD K (st "look_at_hand") (st "look_at_hand") (defArgs s_look_at_hand) (defBody s_look_at_hand) (defScope s_look_at_hand) [] [] (He.ga K (st "look_at_hand")) fd) (at_ : mg (st "look_at_hand") = some (.ref (He.ga K (st "look_at_hand")))) :
    FnM (TT K) P w mg base 2 "look_at_hand" ["hand"] F_look_at_hand := by
  rw [F_look_at_hand_eq]
  refine fnM_mk (T := TT K) D at_ sc_look_at_hand rfl rfl (fun _ _ _ _ _ _ us hl => match us, hl with | [_], _ => rfl) fun cdv A outer s H E hr => ?_
  have tk := takes_of (X := cxOf (L2.CX P w) P w K mg base N_look_at_hand (st "look_at_hand") (defScope s_look_at_hand) (He.ga K (st "look_at_hand")) cdv A outer s H E) rfl rfl rfl rfl
  have po : PassesOwn _ (cxOf (L2.CX P w) P w K mg base N_look_at_hand (st "look_at_hand") (defScope s_look_at_hand) (He.ga K (st "look_at_hand")) cdv A outer s H E).A _ (cxOf (L2.CX P w) P w K mg base N_look_at_hand (st "look_at_hand") (defScope s_look_at_hand) (He.ga K (st "look_at_hand")) cdv A outer s H E).xe := passes_of rfl
  have nd := sc_look_at_hand.nd
  have hu64 := hr.units
  have hu1 := Nat.lt_of_le_of_lt (Nat.add_le_add_left (by decide : 1 ≤ 64) _) hu64
  exact (ss_one (s_if (t_cmp (o_notin rfl hu1) (e_var (pv 0)) (e_gstrs (ss := ["giver", "taker"]) c_HANDS rfl (by decide)) (by rfl)) (ss_one (s_raise' ex_NoHand rfl rfl tk rfl (by decide))) ss_nil))
abbrev s_bell_cell : Stmt := top 26
abbrev N_bell_cell : List Str := ["size", "hand"]
theorem sc_bell_cell : FnScope N_bell_cell ["size", "hand"] (defScope s_bell_cell) := ⟨rfl, rfl, rfl, by decide +kernel, rfl, by decide +kernel, by decide +kernel⟩
theorem ok_bell_cell (f_look_at_size : FnM (TT K) P w mg base 2 "look_at_size" ["size"] F_look_at_size) (f_look_at_hand : FnM (TT K) P w mg base 2 "look_at_hand" ["hand"] F_look_at_hand) (c_HANDS : TupF (TT K) mg "HANDS" ["giver", "taker"]) (D : ∃ fd, FunD K (st "bell_cell") (st "bell_cell") (defArgs s_bell_cell) (defBody s_bell_cell) (defScope s_bell_cell) [] [] (He.ga K (st "bell_cell")) fd) (at_ : mg (st "bell_cell") = some (.ref (He.ga K (st "bell_cell")))) :
    FnM (TT K) P w mg base 3 "bell_cell" ["size", "hand"] F_bell_cell := by
  rw [F_bell_cell_eq]
  refine fnM_mk (T := TT K) D at_ sc_bell_cell rfl rfl (fun _ _ _ _ _ _ us hl => match us, hl with | [_, _], _ => rfl) fun cdv A outer s H E hr => ?_
  have tk := takes_of (X := cxOf (L2.CX P w) P w K mg base N_bell_cell (st "bell_cell") (defScope s_bell_cell) (He.ga K (st "bell_cell")) cdv A outer s H E) rfl rfl rfl rfl
  have po : PassesOwn _ (cxOf (L2.CX P w) P w K mg base N_bell_cell (st "bell_cell") (defScope s_bell_cell) (He.ga K (st "bell_cell")) cdv A outer s H E).A _ (cxOf (L2.CX P w) P w K mg base N_bell_cell (st "bell_cell") (defScope s_bell_cell) (He.ga K (st "bell_cell")) cdv A outer s H E).xe := passes_of rfl
  have nd := sc_bell_cell.nd
  have hu64 := hr.units
  have hu1 := Nat.lt_of_le_of_lt (Nat.add_le_add_left (by decide : 1 ≤ 64) _) hu64
  exact (ss_cons (s_ex (e_call rfl tk f_look_at_size (by decide) hr rfl (a_cons (e_var (pv 0)) a_nil) (by decide)))
  (ss_cons (s_ex (e_call rfl tk f_look_at_hand (by decide) hr rfl (a_cons (e_var (pv 1)) a_nil) (by decide)))
  (ss_one (s_ret (e_op (o_add rfl) (e_op (o_add rfl) (e_op o_mul e_int (e_var (pv 0))) e_int) (e_gidx rfl c_HANDS rfl (by decide) (e_var (pv 1))))))))
abbrev s_card_cell : Stmt := top 25
abbrev N_card_cell : List Str := ["size", "hand"]
theorem sc_card_cell : FnScope N_card_cell ["size", "hand"] (defScope s_card_cell) := ⟨rfl, rfl, rfl, by decide +kernel, rfl, by decide +kernel, by decide +kernel⟩
theorem ok_card_cell (f_look_at_size : FnM (TT K) P w mg base 2 "look_at_size" ["size"] F_look_at_size) (f_look_at_hand : FnM (TT K) P w mg base 2 "look_at_hand" ["hand"] F_look_at_hand) (c_HANDS : TupF (TT K) mg "HANDS" ["giver", "taker"]) (D : ∃ fd, FunD K (st "card_cell") (st "card_cell") (defArgs s_card_cell) (defBody s_card_cell) (defScope s_card_cell) [] [] (He.ga K (st "card_cell")) fd) (at_ : mg (st "card_cell") = some (.ref (He.ga K (st "card_cell")))) :
    FnM (TT K) P w mg base 3 "card_cell" ["size", "hand"] F_card_cell := by
  rw [F_card_cell_eq]
  refine fnM_mk (T := TT K) D at_ sc_card_cell rfl rfl (fun _ _ _ _ _ _ us hl => match us, hl with | [_, _], _ => rfl) fun cdv A outer s H E hr => ?_
  have tk := takes_of (X := cxOf (L2.CX P w) P w K mg base N_card_cell (st "card_cell") (defScope s_card_cell) (He.ga K (st "card_cell")) cdv A outer s H E) rfl rfl rfl rfl
  have po : PassesOwn _ (cxOf (L2.CX P w) P w K mg base N_card_cell (st "card_cell") (defScope s_card_cell) (He.ga K (st "card_cell")) cdv A outer s H E).A _ (cxOf (L2.CX P w) P w K mg base N_card_cell (st "card_cell") (defScope s_card_cell) (He.ga K (st "card_cell")) cdv A outer s H E).xe := passes_of rfl
  have nd := sc_card_cell.nd
  have hu64 := hr.units
  have hu1 := Nat.lt_of_le_of_lt (Nat.add_le_add_left (by decide : 1 ≤ 64) _) hu64
  exact (ss_cons (s_ex (e_call rfl tk f_look_at_size (by decide) hr rfl (a_cons (e_var (pv 0)) a_nil) (by decide)))
  (ss_cons (s_ex (e_call rfl tk f_look_at_hand (by decide) hr rfl (a_cons (e_var (pv 1)) a_nil) (by decide)))
  (ss_one (s_ret (e_op (o_add rfl) (e_op o_mul e_int (e_var (pv 0))) (e_gidx rfl c_HANDS rfl (by decide) (e_var (pv 1))))))))
abbrev s_Board_read : Stmt := sub (top 27) 3
abbrev N_Board_read : List Str := ["self", "cell"]
theorem sc_Board_read : FnScope N_Board_read ["self", "cell"] (defScope s_Board_read) := ⟨rfl, rfl, rfl, by decide +kernel, rfl, by decide +kernel, by decide +kernel⟩
theorem ok_Board_read {c : String} (mt_Board_look_at_cell : MtM (TT K) P w mg base 2 "Board" "look_at_cell" ["self", "cell"] F_Board_look_at_cell) (hcl : ClsF (TT K)) (mt_Board_touched : MtM (TT K) P w mg base 2 "Board" "touched" ["self", "deed", "cell"] F_Board_touched) (D : ∃ fd, FunD K (st "read") (st "Board.read") (defArgs s_Board_read) (defBody s_Board_read) (defScope s_Board_read) [] [] (He.ma K (clA K c) (st "read")) fd) (at_ : Meth K (clA K c) (st "read") (He.ma K (clA K c) (st "read"))) : MtM (TT K) P w mg base 3 c "read" ["self", "cell"] F_Board_read := by
  rw [F_Board_read_eq]
  refine mtM_mk (T := TT K) D at_ sc_Board_read rfl rfl (fun _ _ _ _ _ _ us hl => match us, hl with | [_, _], _ => rfl) fun cdv A outer s H E hr => ?_
  have tk := takes_of (X := cxOf (L2.CX P w) P w K mg base N_Board_read (st "Board.read") (defScope s_Board_read) (He.ma K (clA K c) (st "read")) cdv A outer s H E) rfl rfl rfl rfl
  have po : PassesOwn _ (cxOf (L2.CX P w) P w K mg base N_Board_read (st "Board.read") (defScope s_Board_read) (He.ma K (clA K c) (st "read")) cdv A outer s H E).A _ (cxOf (L2.CX P w) P w K mg base N_Board_read (st "Board.read") (defScope s_Board_read) (He.ma K (clA K c) (st "read")) cdv A outer s H E).xe := passes_of rfl
  have nd := sc_Board_read.nd
  have hu64 := hr.units
  have hu1 := Nat.lt_of_le_of_lt (Nat.add_le_add_left (by decide : 1 ≤ 64) _) hu64
  exact (ss_cons (s_ex (e_meth rfl tk hcl (MtAll.one mt_Board_look_at_cell (by decide)) (show _ ∉ FLS by decide) hr (e_var (pv 0)) (a_cons (e_var (pv 1)) a_nil)))
  (ss_one (s_ret (e_meth rfl tk hcl (MtAll.one mt_Board_touched (by decide)) (show _ ∉ FLS by decide) hr (e_var (pv 0)) (a_cons e_str (a_cons (e_var (pv 1)) a_nil))))))
abbrev s_mark_cell : Stmt := top 20
abbrev N_mark_cell : List Str := ["place"]
theorem sc_mark_cell : FnScope N_mark_cell ["place"] (defScope s_mark_cell) := ⟨rfl, rfl, rfl, by decide +kernel, rfl, by decide +kernel, by decide +kernel⟩
theorem ok_mark_cell  (D : ∃ fd, FunD K (st "mark_cell") (st "mark_cell") (defArgs s_mark_cell) (defBody s_mark_cell) (defScope s_mark_cell) [] [] (He.ga K (st "mark_cell")) fd) (at_ : mg (st "mark_cell") = some (.ref (He.ga K (st "mark_cell")))) :
    FnM (TT K) P w mg base 2 "mark_cell" ["place"] F_mark_cell := by
  rw [F_mark_cell_eq]
  refine fnM_mk (T := TT K) D at_ sc_mark_cell rfl rfl (fun _ _ _ _ _ _ us hl => match us, hl with | [_], _ => rfl) fun cdv A outer s H E hr => ?_
  have tk := takes_of (X := cxOf (L2.CX P w) P w K mg base N_mark_cell (st "mark_cell") (defScope s_mark_cell) (He.ga K (st "mark_cell")) cdv A outer s H E) rfl rfl rfl rfl
  have po : PassesOwn _ (cxOf (L2.CX P w) P w K mg base N_mark_cell (st "mark_cell") (defScope s_mark_cell) (He.ga K (st "mark_cell")) cdv A outer s H E).A _ (cxOf (L2.CX P w) P w K mg base N_mark_cell (st "mark_cell") (defScope s_mark_cell) (He.ga K (st "mark_cell")) cdv A outer s H E).xe := passes_of rfl
  have nd := sc_mark_cell.nd
  have hu64 := hr.units
  have hu1 := Nat.lt_of_le_of_lt (Nat.add_le_add_left (by decide : 1 ≤ 64) _) hu64
  exact (ss_one (s_ret (e_op o_mul e_int (e_var (pv 0)))))
abbrev s_Hand_rise : Stmt := sub (top 45) 5
abbrev N_Hand_rise : List Str := ["self", "size"]
theorem sc_Hand_rise : FnScope N_Hand_rise ["self"] (defScope s_Hand_rise) := ⟨rfl, rfl, rfl, by decide +kernel, rfl, by decide +kernel, by decide +kernel⟩
theorem ok_Hand_rise {c : String} (hcl : ClsF (TT K)) (na_board : NoF (TT K) "board") (na_size : NoF (TT K) "size") (na_here : NoF (TT K) "here") (mt_Board_write : MtM (TT K) P w mg base 3 "Board" "write" ["self", "cell", "number"] F_Board_write) (f_bell_cell : FnM (TT K) P w mg base 3 "bell_cell" ["size", "hand"] F_bell_cell) (na_other : NoF (TT K) "other") (f_card_cell : FnM (TT K) P w mg base 3 "card_cell" ["size", "hand"] F_card_cell) (na_name : NoF (TT K) "name") (na_seen : NoF (TT K) "seen") (mt_Board_read : MtM (TT K) P w mg base 3 "Board" "read" ["self", "cell"] F_Board_read) (f_mark_cell : FnM (TT K) P w mg base 2 "mark_cell" ["place"] F_mark_cell) (m_len : mg (st "len") = none) (D : ∃ fd, FunD K (st "rise") (st "Hand.rise") (defArgs s_Hand_rise) (defBody s_Hand_rise) (defScope s_Hand_rise) [] [] (He.ma K (clA K c) (st "rise")) fd) (at_ : Meth K (clA K c) (st "rise") (He.ma K (clA K c) (st "rise"))) : MtM (TT K) P w mg base 4 c "rise" ["self"] F_Hand_rise := by
  rw [F_Hand_rise_eq]
  refine mtM_mk (T := TT K) D at_ sc_Hand_rise rfl rfl (fun _ _ _ _ _ _ us hl => match us, hl with | [_], _ => rfl) fun cdv A outer s H E hr => ?_
  have tk := takes_of (X := cxOf (L2.CX P w) P w K mg base N_Hand_rise (st "Hand.rise") (defScope s_Hand_rise) (He.ma K (clA K c) (st "rise")) cdv A outer s H E) rfl rfl rfl rfl
  have po : PassesOwn _ (cxOf (L2.CX P w) P w K mg base N_Hand_rise (st "Hand.rise") (defScope s_Hand_rise) (He.ma K (clA K c) (st "rise")) cdv A outer s H E).A _ (cxOf (L2.CX P w) P w K mg base N_Hand_rise (st "Hand.rise") (defScope s_Hand_rise) (He.ma K (clA K c) (st "rise")) cdv A outer s H E).xe := passes_of rfl
  have nd := sc_Hand_rise.nd
  have hu64 := hr.units
  have hu1 := Nat.lt_of_le_of_lt (Nat.add_le_add_left (by decide : 1 ≤ 64) _) hu64
  exact (ss_cons (s_set (i := 1) (fun _ h => ps_set (i := 1) nd rfl (by first | exact Or.inl rfl | exact Or.inr rfl) h) (e_fld rfl hcl na_size.na (e_fld rfl hcl na_board.na (e_var (pv 0)) (by rfl)) (by rfl)))
  (ss_cons (s_if (t_cmp (o_eq rfl hu64) (e_fld rfl hcl na_here.na (e_var (pv 0)) (by rfl)) e_str (nomark _)) (ss_cons (s_ex (e_meth rfl tk hcl (MtAll.one mt_Board_write (by decide)) (show _ ∉ FLS by decide) hr (e_fld rfl hcl na_board.na (e_var (pv 0)) (by rfl)) (a_cons (e_call rfl tk f_bell_cell (by decide) hr rfl (a_cons (e_var (pv 1)) (a_cons (e_fld rfl hcl na_other.na (e_var (pv 0)) (by rfl)) a_nil)) (by decide)) (a_cons e_int a_nil))))
  (ss_one (s_fld rfl hcl na_here.na na_here.mem (e_var (pv 0)) e_str))) (ss_one (s_if (t_cmp (o_eq rfl hu64) (e_fld rfl hcl na_here.na (e_var (pv 0)) (by rfl)) e_str (nomark _)) (ss_cons (s_ex (e_meth rfl tk hcl (MtAll.one mt_Board_write (by decide)) (show _ ∉ FLS by decide) hr (e_fld rfl hcl na_board.na (e_var (pv 0)) (by rfl)) (a_cons (e_call rfl tk f_card_cell (by decide) hr rfl (a_cons (e_var (pv 1)) (a_cons (e_fld rfl hcl na_name.na (e_var (pv 0)) (by rfl)) a_nil)) (by decide)) (a_cons (e_un u_neg e_int) a_nil))))
  (ss_one (s_fld rfl hcl na_here.na na_here.mem (e_var (pv 0)) e_str))) (ss_one (s_if (t_cmp (o_eq rfl hu64) (e_fld rfl hcl na_here.na (e_var (pv 0)) (by rfl)) e_str (nomark _)) (ss_cons (s_ex (e_meth rfl tk hcl (MtAll.one mt_Board_write (by decide)) (show _ ∉ FLS by decide) hr (e_fld rfl hcl na_board.na (e_var (pv 0)) (by rfl)) (a_cons (e_call rfl tk f_bell_cell (by decide) hr rfl (a_cons (e_var (pv 1)) (a_cons (e_fld rfl hcl na_name.na (e_var (pv 0)) (by rfl)) a_nil)) (by decide)) (a_cons e_int a_nil))))
  (ss_one (s_fld rfl hcl na_here.na na_here.mem (e_var (pv 0)) e_str))) (ss_one (s_ex (e_bm rfl PySem.F.plainAttrs_list PySem.F.slot_list_append PySem.F.type_list_append m_append (e_fld rfl hcl na_seen.na (e_var (pv 0)) (by rfl)) (a_cons (e_meth rfl tk hcl (MtAll.one mt_Board_read (by decide)) (show _ ∉ FLS by decide) hr (e_fld rfl hcl na_board.na (e_var (pv 0)) (by rfl)) (a_cons (e_call rfl tk f_mark_cell (by decide) hr rfl (a_cons (e_b (b_len rfl) rfl m_len (by decide +kernel) (a_cons (e_fld rfl hcl na_seen.na (e_var (pv 0)) (by rfl)) a_nil) (by decide) (by decide)) a_nil) (by decide)) a_nil)) a_nil)))))))))
  (ss_one (s_ret (e_cmp (o_eq rfl hu64) (e_b (b_len rfl) rfl m_len (by decide +kernel) (a_cons (e_fld rfl hcl na_seen.na (e_var (pv 0)) (by rfl)) a_nil) (by decide) (by decide)) (e_var (pv 1)) (nomark _))))))
abbrev s_look_at_mark : Stmt := top 29
abbrev N_look_at_mark : List Str := ["mark"]
theorem sc_look_at_mark : FnScope N_look_at_mark ["mark"] (defScope s_look_at_mark) := ⟨rfl, rfl, rfl, by decide +kernel, rfl, by decide +kernel, by decide +kernel⟩
theorem ok_look_at_mark (ex_BadMark : ExF (TT K) mg "BadMark") (D : ∃ fd, FunD K (st "look_at_mark") (st "look_at_mark") (defArgs s_look_at_mark) (defBody s_look_at_mark) (defScope s_look_at_mark) [] [] (He.ga K (st "look_at_mark")) fd) (at_ : mg (st "look_at_mark") = some (.ref (He.ga K (st "look_at_mark")))) :
    FnM (TT K) P w mg base 2 "look_at_mark" ["mark"] F_look_at_mark := by
  rw [F_look_at_mark_eq]
  refine fnM_mk (T := TT K) D at_ sc_look_at_mark rfl rfl (fun _ _ _ _ _ _ us hl => match us, hl with | [_], _ => rfl) fun cdv A outer s H E hr => ?_
  have tk := takes_of (X := cxOf (L2.CX P w) P w K mg base N_look_at_mark (st "look_at_mark") (defScope s_look_at_mark) (He.ga K (st "look_at_mark")) cdv A outer s H E) rfl rfl rfl rfl
  have po : PassesOwn _ (cxOf (L2.CX P w) P w K mg base N_look_at_mark (st "look_at_mark") (defScope s_look_at_mark) (He.ga K (st "look_at_mark")) cdv A outer s H E).A _ (cxOf (L2.CX P w) P w K mg base N_look_at_mark (st "look_at_mark") (defScope s_look_at_mark) (He.ga K (st "look_at_mark")) cdv A outer s H E).xe := passes_of rfl
  have nd := sc_look_at_mark.nd
  have hu64 := hr.units
  have hu1 := Nat.lt_of_le_of_lt (Nat.add_le_add_left (by decide : 1 ≤ 64) _) hu64
  exact (ss_one (s_if (PW.pt (t_or (t_cmp o_lt (e_var (pv 0)) e_int (nomark _)) (t_or1 (t_cmp o_gt (e_var (pv 0)) e_int (nomark _))))) (ss_one (s_raise' ex_BadMark rfl rfl tk rfl (by decide))) ss_nil))
abbrev s_look_at_marks : Stmt := top 36
abbrev N_look_at_marks : List Str := ["marks", "mark"]
theorem sc_look_at_marks : FnScope N_look_at_marks ["marks"] (defScope s_look_at_marks) := ⟨rfl, rfl, rfl, by decide +kernel, rfl, by decide +kernel, by decide +kernel⟩
theorem ok_look_at_marks (f_look_at_size : FnM (TT K) P w mg base 2 "look_at_size" ["size"] F_look_at_size) (m_len : mg (st "len") = none) (f_look_at_mark : FnM (TT K) P w mg base 2 "look_at_mark" ["mark"] F_look_at_mark) (D : ∃ fd, FunD K (st "look_at_marks") (st "look_at_marks") (defArgs s_look_at_marks) (defBody s_look_at_marks) (defScope s_look_at_marks) [] [] (He.ga K (st "look_at_marks")) fd) (at_ : mg (st "look_at_marks") = some (.ref (He.ga K (st "look_at_marks")))) :
    FnM (TT K) P w mg base 3 "look_at_marks" ["marks"] F_look_at_marks := by
  rw [F_look_at_marks_eq]
  refine fnM_mk (T := TT K) D at_ sc_look_at_marks rfl rfl (fun _ _ _ _ _ _ us hl => match us, hl with | [_], _ => rfl) fun cdv A outer s H E hr => ?_
  have tk := takes_of (X := cxOf (L2.CX P w) P w K mg base N_look_at_marks (st "look_at_marks") (defScope s_look_at_marks) (He.ga K (st "look_at_marks")) cdv A outer s H E) rfl rfl rfl rfl
  have po : PassesOwn _ (cxOf (L2.CX P w) P w K mg base N_look_at_marks (st "look_at_marks") (defScope s_look_at_marks) (He.ga K (st "look_at_marks")) cdv A outer s H E).A _ (cxOf (L2.CX P w) P w K mg base N_look_at_marks (st "look_at_marks") (defScope s_look_at_marks) (He.ga K (st "look_at_marks")) cdv A outer s H E).xe := passes_of rfl
  have nd := sc_look_at_marks.nd
  have hu64 := hr.units
  have hu1 := Nat.lt_of_le_of_lt (Nat.add_le_add_left (by decide : 1 ≤ 64) _) hu64
  exact (ss_cons (s_ex (e_call rfl tk f_look_at_size (by decide) hr rfl (a_cons (e_b (b_len rfl) rfl m_len (by decide +kernel) (a_cons (e_var (pv 0)) a_nil) (by decide) (by decide)) a_nil) (by decide)))
  (ss_one (s_for po rfl (i_seq rfl (e_var (pv 0))) (g_name (pg_name (i := 1) nd rfl (by first | exact Or.inl rfl | exact Or.inr rfl))) (ss_one (s_ex (e_call rfl tk f_look_at_mark (by decide) hr rfl (a_cons (e_var (pv 1)) a_nil) (by decide)))))))
abbrev s_front : Stmt := top 35
abbrev N_front : List Str := ["bits", "bit", "first", "at"]
theorem sc_front : FnScope N_front ["bits"] (defScope s_front) := ⟨rfl, rfl, rfl, by decide +kernel, rfl, by decide +kernel, by decide +kernel⟩
theorem ok_front (f_look_at_size : FnM (TT K) P w mg base 2 "look_at_size" ["size"] F_look_at_size) (m_len : mg (st "len") = none) (ex_BadMark : ExF (TT K) mg "BadMark") (ex_Crooked : ExF (TT K) mg "Crooked") (D : ∃ fd, FunD K (st "front") (st "front") (defArgs s_front) (defBody s_front) (defScope s_front) [] [] (He.ga K (st "front")) fd) (at_ : mg (st "front") = some (.ref (He.ga K (st "front")))) :
    FnM (TT K) P w mg base 3 "front" ["bits"] F_front := by
  rw [F_front_eq]
  refine fnM_mk (T := TT K) D at_ sc_front rfl rfl (fun _ _ _ _ _ _ us hl => match us, hl with | [_], _ => rfl) fun cdv A outer s H E hr => ?_
  have tk := takes_of (X := cxOf (L2.CX P w) P w K mg base N_front (st "front") (defScope s_front) (He.ga K (st "front")) cdv A outer s H E) rfl rfl rfl rfl
  have po : PassesOwn _ (cxOf (L2.CX P w) P w K mg base N_front (st "front") (defScope s_front) (He.ga K (st "front")) cdv A outer s H E).A _ (cxOf (L2.CX P w) P w K mg base N_front (st "front") (defScope s_front) (He.ga K (st "front")) cdv A outer s H E).xe := passes_of rfl
  have nd := sc_front.nd
  have hu64 := hr.units
  have hu1 := Nat.lt_of_le_of_lt (Nat.add_le_add_left (by decide : 1 ≤ 64) _) hu64
  exact (ss_cons (s_ex (e_call rfl tk f_look_at_size (by decide) hr rfl (a_cons (e_b (b_len rfl) rfl m_len (by decide +kernel) (a_cons (e_var (pv 0)) a_nil) (by decide) (by decide)) a_nil) (by decide)))
  (ss_cons (s_for po rfl (i_seq rfl (e_var (pv 0))) (g_name (pg_name (i := 1) nd rfl (by first | exact Or.inl rfl | exact Or.inr rfl))) (ss_one (s_if (PW.pt (t_or (t_cmp o_lt (e_var (pv 1)) e_int (nomark _)) (t_or1 (t_cmp o_gt (e_var (pv 1)) e_int (nomark _))))) (ss_one (s_raise' ex_BadMark rfl rfl tk rfl (by decide))) ss_nil)))
  (ss_cons (s_set (i := 2) (fun _ h => ps_set (i := 2) nd rfl (by first | exact Or.inl rfl | exact Or.inr rfl) h) (e_ix rfl hu1 (e_var (pv 0)) e_int (fun _ _ => rfl)))
  (ss_cons (s_set (i := 3) (fun _ h => ps_set (i := 3) nd rfl (by first | exact Or.inl rfl | exact Or.inr rfl) h) e_int)
  (ss_cons (s_while po (PW.pt (t_and (t_cmp o_lt (e_var (pv 3)) (e_b (b_len rfl) rfl m_len (by decide +kernel) (a_cons (e_var (pv 0)) a_nil) (by decide) (by decide)) (nomark _)) (t_and1 (t_cmp (o_eq rfl hu64) (e_ix rfl hu1 (e_var (pv 0)) (e_var (pv 3)) (fun _ _ => rfl)) (e_var (pv 2)) (nomark _))))) (ss_one (s_set (i := 3) (fun _ h => ps_set (i := 3) nd rfl (by first | exact Or.inl rfl | exact Or.inr rfl) h) (e_op (o_add rfl) (e_var (pv 3)) e_int))))
  (ss_cons (s_if (t_cmp (o_eq rfl hu64) (e_var (pv 3)) (e_b (b_len rfl) rfl m_len (by decide +kernel) (a_cons (e_var (pv 0)) a_nil) (by decide) (by decide)) (nomark _)) (ss_one (s_ret (e_op o_mul (e_b (b_len rfl) rfl m_len (by decide +kernel) (a_cons (e_var (pv 0)) a_nil) (by decide) (by decide)) (e_op o_sub e_int (e_var (pv 2)))))) ss_nil)
  (ss_cons (s_if (t_cmp (o_in rfl hu1) (e_var (pv 2)) (e_sl rfl (e_var (pv 0)) (p_some (e_var (pv 3))) p_none) (by rfl)) (ss_one (s_raise' ex_Crooked rfl rfl tk rfl (by decide))) ss_nil)
  (ss_one (s_ret (e_op (o_add rfl) (e_op o_mul (e_b (b_len rfl) rfl m_len (by decide +kernel) (a_cons (e_var (pv 0)) a_nil) (by decide) (by decide)) (e_var (pv 2))) (e_var (pv 3))))))))))))
abbrev s_odd_bits : Stmt := top 38
abbrev N_odd_bits : List Str := ["marks", "mark"]
theorem sc_odd_bits : FnScope N_odd_bits ["marks"] (defScope s_odd_bits) := ⟨rfl, rfl, rfl, by decide +kernel, rfl, by decide +kernel, by decide +kernel⟩
theorem ok_odd_bits  (D : ∃ fd, FunD K (st "odd_bits") (st "odd_bits") (defArgs s_odd_bits) (defBody s_odd_bits) (defScope s_odd_bits) [] [] (He.ga K (st "odd_bits")) fd) (at_ : mg (st "odd_bits") = some (.ref (He.ga K (st "odd_bits")))) :
    FnM (TT K) P w mg base 2 "odd_bits" ["marks"] F_odd_bits := by
  rw [F_odd_bits_eq]
  refine fnM_mk (T := TT K) D at_ sc_odd_bits rfl rfl (fun _ _ _ _ _ _ us hl => match us, hl with | [_], _ => rfl) fun cdv A outer s H E hr => ?_
  have tk := takes_of (X := cxOf (L2.CX P w) P w K mg base N_odd_bits (st "odd_bits") (defScope s_odd_bits) (He.ga K (st "odd_bits")) cdv A outer s H E) rfl rfl rfl rfl
  have po : PassesOwn _ (cxOf (L2.CX P w) P w K mg base N_odd_bits (st "odd_bits") (defScope s_odd_bits) (He.ga K (st "odd_bits")) cdv A outer s H E).A _ (cxOf (L2.CX P w) P w K mg base N_odd_bits (st "odd_bits") (defScope s_odd_bits) (He.ga K (st "odd_bits")) cdv A outer s H E).xe := passes_of rfl
  have nd := sc_odd_bits.nd
  have hu64 := hr.units
  have hu1 := Nat.lt_of_le_of_lt (Nat.add_le_add_left (by decide : 1 ≤ 64) _) hu64
  exact (ss_one (s_ret (e_comp rfl nd (i_seq rfl (e_var (pv 0))) (blkOk_by (own := [(st "mark", 1)]) (N := N_odd_bits) (sc := defScope s_odd_bits) (by decide +kernel)) (fun _ _ _ _ _ => pg_name (i := 1) nd rfl (by first | exact Or.inl rfl | exact Or.inr rfl)) (fun _ _ _ _ _ => tst_nil) (fun _ _ _ _ _ => (e_op o_mod (e_op (o_add rfl) (e_op o_div (e_var (pv 1)) e_int) (e_var (pv 1))) e_int)))))
abbrev s_taker_turn : Stmt := top 40
abbrev N_taker_turn : List Str := ["marks"]
theorem sc_taker_turn : FnScope N_taker_turn ["marks"] (defScope s_taker_turn) := ⟨rfl, rfl, rfl, by decide +kernel, rfl, by decide +kernel, by decide +kernel⟩
theorem ok_taker_turn (f_look_at_marks : FnM (TT K) P w mg base 3 "look_at_marks" ["marks"] F_look_at_marks) (f_front : FnM (TT K) P w mg base 3 "front" ["bits"] F_front) (f_odd_bits : FnM (TT K) P w mg base 2 "odd_bits" ["marks"] F_odd_bits) (D : ∃ fd, FunD K (st "taker_turn") (st "taker_turn") (defArgs s_taker_turn) (defBody s_taker_turn) (defScope s_taker_turn) [] [] (He.ga K (st "taker_turn")) fd) (at_ : mg (st "taker_turn") = some (.ref (He.ga K (st "taker_turn")))) :
    FnM (TT K) P w mg base 4 "taker_turn" ["marks"] F_taker_turn := by
  rw [F_taker_turn_eq]
  refine fnM_mk (T := TT K) D at_ sc_taker_turn rfl rfl (fun _ _ _ _ _ _ us hl => match us, hl with | [_], _ => rfl) fun cdv A outer s H E hr => ?_
  have tk := takes_of (X := cxOf (L2.CX P w) P w K mg base N_taker_turn (st "taker_turn") (defScope s_taker_turn) (He.ga K (st "taker_turn")) cdv A outer s H E) rfl rfl rfl rfl
  have po : PassesOwn _ (cxOf (L2.CX P w) P w K mg base N_taker_turn (st "taker_turn") (defScope s_taker_turn) (He.ga K (st "taker_turn")) cdv A outer s H E).A _ (cxOf (L2.CX P w) P w K mg base N_taker_turn (st "taker_turn") (defScope s_taker_turn) (He.ga K (st "taker_turn")) cdv A outer s H E).xe := passes_of rfl
  have nd := sc_taker_turn.nd
  have hu64 := hr.units
  have hu1 := Nat.lt_of_le_of_lt (Nat.add_le_add_left (by decide : 1 ≤ 64) _) hu64
  exact (ss_cons (s_ex (e_call rfl tk f_look_at_marks (by decide) hr rfl (a_cons (e_var (pv 0)) a_nil) (by decide)))
  (ss_one (s_ret (e_call rfl tk f_front (by decide) hr rfl (a_cons (e_call rfl tk f_odd_bits (by decide) hr rfl (a_cons (e_var (pv 0)) a_nil) (by decide)) a_nil) (by decide)))))
abbrev s_look_at_turn : Stmt := top 14
abbrev N_look_at_turn : List Str := ["size", "turn"]
theorem sc_look_at_turn : FnScope N_look_at_turn ["size", "turn"] (defScope s_look_at_turn) := ⟨rfl, rfl, rfl, by decide +kernel, rfl, by decide +kernel, by decide +kernel⟩
theorem ok_look_at_turn (f_look_at_size : FnM (TT K) P w mg base 2 "look_at_size" ["size"] F_look_at_size) (ex_NoTurn : ExF (TT K) mg "NoTurn") (D : ∃ fd, FunD K (st "look_at_turn") (st "look_at_turn") (defArgs s_look_at_turn) (defBody s_look_at_turn) (defScope s_look_at_turn) [] [] (He.ga K (st "look_at_turn")) fd) (at_ : mg (st "look_at_turn") = some (.ref (He.ga K (st "look_at_turn")))) :
    FnM (TT K) P w mg base 3 "look_at_turn" ["size", "turn"] F_look_at_turn := by
  rw [F_look_at_turn_eq]
  refine fnM_mk (T := TT K) D at_ sc_look_at_turn rfl rfl (fun _ _ _ _ _ _ us hl => match us, hl with | [_, _], _ => rfl) fun cdv A outer s H E hr => ?_
  have tk := takes_of (X := cxOf (L2.CX P w) P w K mg base N_look_at_turn (st "look_at_turn") (defScope s_look_at_turn) (He.ga K (st "look_at_turn")) cdv A outer s H E) rfl rfl rfl rfl
  have po : PassesOwn _ (cxOf (L2.CX P w) P w K mg base N_look_at_turn (st "look_at_turn") (defScope s_look_at_turn) (He.ga K (st "look_at_turn")) cdv A outer s H E).A _ (cxOf (L2.CX P w) P w K mg base N_look_at_turn (st "look_at_turn") (defScope s_look_at_turn) (He.ga K (st "look_at_turn")) cdv A outer s H E).xe := passes_of rfl
  have nd := sc_look_at_turn.nd
  have hu64 := hr.units
  have hu1 := Nat.lt_of_le_of_lt (Nat.add_le_add_left (by decide : 1 ≤ 64) _) hu64
  exact (ss_cons (s_ex (e_call rfl tk f_look_at_size (by decide) hr rfl (a_cons (e_var (pv 0)) a_nil) (by decide)))
  (ss_one (s_if (PW.pt (t_or (t_cmp o_lt (e_var (pv 1)) e_int (nomark _)) (t_or1 (t_cmp o_ge (e_var (pv 1)) (e_op o_mul e_int (e_var (pv 0))) (nomark _))))) (ss_one (s_raise' ex_NoTurn rfl rfl tk rfl (by decide))) ss_nil)))
abbrev s_lap_of : Stmt := top 16
abbrev N_lap_of : List Str := ["size", "turn"]
theorem sc_lap_of : FnScope N_lap_of ["size", "turn"] (defScope s_lap_of) := ⟨rfl, rfl, rfl, by decide +kernel, rfl, by decide +kernel, by decide +kernel⟩
theorem ok_lap_of (f_look_at_turn : FnM (TT K) P w mg base 3 "look_at_turn" ["size", "turn"] F_look_at_turn) (D : ∃ fd, FunD K (st "lap_of") (st "lap_of") (defArgs s_lap_of) (defBody s_lap_of) (defScope s_lap_of) [] [] (He.ga K (st "lap_of")) fd) (at_ : mg (st "lap_of") = some (.ref (He.ga K (st "lap_of")))) :
    FnM (TT K) P w mg base 4 "lap_of" ["size", "turn"] F_lap_of := by
  rw [F_lap_of_eq]
  refine fnM_mk (T := TT K) D at_ sc_lap_of rfl rfl (fun _ _ _ _ _ _ us hl => match us, hl with | [_, _], _ => rfl) fun cdv A outer s H E hr => ?_
  have tk := takes_of (X := cxOf (L2.CX P w) P w K mg base N_lap_of (st "lap_of") (defScope s_lap_of) (He.ga K (st "lap_of")) cdv A outer s H E) rfl rfl rfl rfl
  have po : PassesOwn _ (cxOf (L2.CX P w) P w K mg base N_lap_of (st "lap_of") (defScope s_lap_of) (He.ga K (st "lap_of")) cdv A outer s H E).A _ (cxOf (L2.CX P w) P w K mg base N_lap_of (st "lap_of") (defScope s_lap_of) (He.ga K (st "lap_of")) cdv A outer s H E).xe := passes_of rfl
  have nd := sc_lap_of.nd
  have hu64 := hr.units
  have hu1 := Nat.lt_of_le_of_lt (Nat.add_le_add_left (by decide : 1 ≤ 64) _) hu64
  exact (ss_cons (s_ex (e_call rfl tk f_look_at_turn (by decide) hr rfl (a_cons (e_var (pv 0)) (a_cons (e_var (pv 1)) a_nil)) (by decide)))
  (ss_one (s_ret (e_op o_div (e_var (pv 1)) (e_var (pv 0))))))
abbrev s_may_take : Stmt := top 33
abbrev N_may_take : List Str := ["size", "turn", "mark", "lap"]
theorem sc_may_take : FnScope N_may_take ["size", "turn", "mark"] (defScope s_may_take) := ⟨rfl, rfl, rfl, by decide +kernel, rfl, by decide +kernel, by decide +kernel⟩
theorem ok_may_take (f_lap_of : FnM (TT K) P w mg base 4 "lap_of" ["size", "turn"] F_lap_of) (f_look_at_mark : FnM (TT K) P w mg base 2 "look_at_mark" ["mark"] F_look_at_mark) (D : ∃ fd, FunD K (st "may_take") (st "may_take") (defArgs s_may_take) (defBody s_may_take) (defScope s_may_take) [] [] (He.ga K (st "may_take")) fd) (at_ : mg (st "may_take") = some (.ref (He.ga K (st "may_take")))) :
    FnM (TT K) P w mg base 5 "may_take" ["size", "turn", "mark"] F_may_take := by
  rw [F_may_take_eq]
  refine fnM_mk (T := TT K) D at_ sc_may_take rfl rfl (fun _ _ _ _ _ _ us hl => match us, hl with | [_, _, _], _ => rfl) fun cdv A outer s H E hr => ?_
  have tk := takes_of (X := cxOf (L2.CX P w) P w K mg base N_may_take (st "may_take") (defScope s_may_take) (He.ga K (st "may_take")) cdv A outer s H E) rfl rfl rfl rfl
  have po : PassesOwn _ (cxOf (L2.CX P w) P w K mg base N_may_take (st "may_take") (defScope s_may_take) (He.ga K (st "may_take")) cdv A outer s H E).A _ (cxOf (L2.CX P w) P w K mg base N_may_take (st "may_take") (defScope s_may_take) (He.ga K (st "may_take")) cdv A outer s H E).xe := passes_of rfl
  have nd := sc_may_take.nd
  have hu64 := hr.units
  have hu1 := Nat.lt_of_le_of_lt (Nat.add_le_add_left (by decide : 1 ≤ 64) _) hu64
  exact (ss_cons (s_set (i := 3) (fun _ h => ps_set (i := 3) nd rfl (by first | exact Or.inl rfl | exact Or.inr rfl) h) (e_call rfl tk f_lap_of (by decide) hr rfl (a_cons (e_var (pv 0)) (a_cons (e_var (pv 1)) a_nil)) (by decide)))
  (ss_cons (s_ex (e_call rfl tk f_look_at_mark (by decide) hr rfl (a_cons (e_var (pv 2)) a_nil) (by decide)))
  (ss_one (s_ret (e_cmp (o_eq rfl hu64) (e_var (pv 2)) (e_op (o_add rfl) (e_op o_mul e_int (e_var (pv 3))) e_int) (nomark _))))))
abbrev s_Taker_may : Stmt := sub (top 49) 3
abbrev N_Taker_may : List Str := ["self", "mark"]
theorem sc_Taker_may : FnScope N_Taker_may ["self", "mark"] (defScope s_Taker_may) := ⟨rfl, rfl, rfl, by decide +kernel, rfl, by decide +kernel, by decide +kernel⟩
theorem ok_Taker_may {c : String} (f_may_take : FnM (TT K) P w mg base 5 "may_take" ["size", "turn", "mark"] F_may_take) (hcl : ClsF (TT K)) (na_spot : NoF (TT K) "spot") (na_board : NoF (TT K) "board") (na_size : NoF (TT K) "size") (D : ∃ fd, FunD K (st "may") (st "Taker.may") (defArgs s_Taker_may) (defBody s_Taker_may) (defScope s_Taker_may) [] [] (He.ma K (clA K c) (st "may")) fd) (at_ : Meth K (clA K c) (st "may") (He.ma K (clA K c) (st "may"))) : MtM (TT K) P w mg base 6 c "may" ["self", "mark"] F_Taker_may := by
  rw [F_Taker_may_eq]
  refine mtM_mk (T := TT K) D at_ sc_Taker_may rfl rfl (fun _ _ _ _ _ _ us hl => match us, hl with | [_, _], _ => rfl) fun cdv A outer s H E hr => ?_
  have tk := takes_of (X := cxOf (L2.CX P w) P w K mg base N_Taker_may (st "Taker.may") (defScope s_Taker_may) (He.ma K (clA K c) (st "may")) cdv A outer s H E) rfl rfl rfl rfl
  have po : PassesOwn _ (cxOf (L2.CX P w) P w K mg base N_Taker_may (st "Taker.may") (defScope s_Taker_may) (He.ma K (clA K c) (st "may")) cdv A outer s H E).A _ (cxOf (L2.CX P w) P w K mg base N_Taker_may (st "Taker.may") (defScope s_Taker_may) (He.ma K (clA K c) (st "may")) cdv A outer s H E).xe := passes_of rfl
  have nd := sc_Taker_may.nd
  have hu64 := hr.units
  have hu1 := Nat.lt_of_le_of_lt (Nat.add_le_add_left (by decide : 1 ≤ 64) _) hu64
  exact (ss_one (s_ret (e_call rfl tk f_may_take (by decide) hr rfl (a_cons (e_fld rfl hcl na_size.na (e_fld rfl hcl na_board.na (e_var (pv 0)) (by rfl)) (by rfl)) (a_cons (e_fld rfl hcl na_spot.na (e_var (pv 0)) (by rfl)) (a_cons (e_var (pv 1)) a_nil))) (by decide))))
abbrev s_may_give : Stmt := top 32
abbrev N_may_give : List Str := ["size", "turn", "mark", "lap"]
theorem sc_may_give : FnScope N_may_give ["size", "turn", "mark"] (defScope s_may_give) := ⟨rfl, rfl, rfl, by decide +kernel, rfl, by decide +kernel, by decide +kernel⟩
theorem ok_may_give (f_lap_of : FnM (TT K) P w mg base 4 "lap_of" ["size", "turn"] F_lap_of) (f_look_at_mark : FnM (TT K) P w mg base 2 "look_at_mark" ["mark"] F_look_at_mark) (D : ∃ fd, FunD K (st "may_give") (st "may_give") (defArgs s_may_give) (defBody s_may_give) (defScope s_may_give) [] [] (He.ga K (st "may_give")) fd) (at_ : mg (st "may_give") = some (.ref (He.ga K (st "may_give")))) :
    FnM (TT K) P w mg base 5 "may_give" ["size", "turn", "mark"] F_may_give := by
  rw [F_may_give_eq]
  refine fnM_mk (T := TT K) D at_ sc_may_give rfl rfl (fun _ _ _ _ _ _ us hl => match us, hl with | [_, _, _], _ => rfl) fun cdv A outer s H E hr => ?_
  have tk := takes_of (X := cxOf (L2.CX P w) P w K mg base N_may_give (st "may_give") (defScope s_may_give) (He.ga K (st "may_give")) cdv A outer s H E) rfl rfl rfl rfl
  have po : PassesOwn _ (cxOf (L2.CX P w) P w K mg base N_may_give (st "may_give") (defScope s_may_give) (He.ga K (st "may_give")) cdv A outer s H E).A _ (cxOf (L2.CX P w) P w K mg base N_may_give (st "may_give") (defScope s_may_give) (He.ga K (st "may_give")) cdv A outer s H E).xe := passes_of rfl
  have nd := sc_may_give.nd
  have hu64 := hr.units
  have hu1 := Nat.lt_of_le_of_lt (Nat.add_le_add_left (by decide : 1 ≤ 64) _) hu64
  exact (ss_cons (s_set (i := 3) (fun _ h => ps_set (i := 3) nd rfl (by first | exact Or.inl rfl | exact Or.inr rfl) h) (e_call rfl tk f_lap_of (by decide) hr rfl (a_cons (e_var (pv 0)) (a_cons (e_var (pv 1)) a_nil)) (by decide)))
  (ss_cons (s_ex (e_call rfl tk f_look_at_mark (by decide) hr rfl (a_cons (e_var (pv 2)) a_nil) (by decide)))
  (ss_one (s_ret (e_cmp (o_eq rfl hu64) (e_var (pv 2)) (e_op o_mul e_int (e_op o_sub e_int (e_var (pv 3)))) (nomark _))))))
abbrev s_Giver_may : Stmt := sub (top 47) 3
abbrev N_Giver_may : List Str := ["self", "mark"]
theorem sc_Giver_may : FnScope N_Giver_may ["self", "mark"] (defScope s_Giver_may) := ⟨rfl, rfl, rfl, by decide +kernel, rfl, by decide +kernel, by decide +kernel⟩
theorem ok_Giver_may {c : String} (f_may_give : FnM (TT K) P w mg base 5 "may_give" ["size", "turn", "mark"] F_may_give) (hcl : ClsF (TT K)) (na_spot : NoF (TT K) "spot") (na_board : NoF (TT K) "board") (na_size : NoF (TT K) "size") (D : ∃ fd, FunD K (st "may") (st "Giver.may") (defArgs s_Giver_may) (defBody s_Giver_may) (defScope s_Giver_may) [] [] (He.ma K (clA K c) (st "may")) fd) (at_ : Meth K (clA K c) (st "may") (He.ma K (clA K c) (st "may"))) : MtM (TT K) P w mg base 6 c "may" ["self", "mark"] F_Giver_may := by
  rw [F_Giver_may_eq]
  refine mtM_mk (T := TT K) D at_ sc_Giver_may rfl rfl (fun _ _ _ _ _ _ us hl => match us, hl with | [_, _], _ => rfl) fun cdv A outer s H E hr => ?_
  have tk := takes_of (X := cxOf (L2.CX P w) P w K mg base N_Giver_may (st "Giver.may") (defScope s_Giver_may) (He.ma K (clA K c) (st "may")) cdv A outer s H E) rfl rfl rfl rfl
  have po : PassesOwn _ (cxOf (L2.CX P w) P w K mg base N_Giver_may (st "Giver.may") (defScope s_Giver_may) (He.ma K (clA K c) (st "may")) cdv A outer s H E).A _ (cxOf (L2.CX P w) P w K mg base N_Giver_may (st "Giver.may") (defScope s_Giver_may) (He.ma K (clA K c) (st "may")) cdv A outer s H E).xe := passes_of rfl
  have nd := sc_Giver_may.nd
  have hu64 := hr.units
  have hu1 := Nat.lt_of_le_of_lt (Nat.add_le_add_left (by decide : 1 ≤ 64) _) hu64
  exact (ss_one (s_ret (e_call rfl tk f_may_give (by decide) hr rfl (a_cons (e_fld rfl hcl na_size.na (e_fld rfl hcl na_board.na (e_var (pv 0)) (by rfl)) (by rfl)) (a_cons (e_fld rfl hcl na_spot.na (e_var (pv 0)) (by rfl)) (a_cons (e_var (pv 1)) a_nil))) (by decide))))
abbrev s_place_of : Stmt := top 15
abbrev N_place_of : List Str := ["size", "turn"]
theorem sc_place_of : FnScope N_place_of ["size", "turn"] (defScope s_place_of) := ⟨rfl, rfl, rfl, by decide +kernel, rfl, by decide +kernel, by decide +kernel⟩
theorem ok_place_of (f_look_at_turn : FnM (TT K) P w mg base 3 "look_at_turn" ["size", "turn"] F_look_at_turn) (D : ∃ fd, FunD K (st "place_of") (st "place_of") (defArgs s_place_of) (defBody s_place_of) (defScope s_place_of) [] [] (He.ga K (st "place_of")) fd) (at_ : mg (st "place_of") = some (.ref (He.ga K (st "place_of")))) :
    FnM (TT K) P w mg base 4 "place_of" ["size", "turn"] F_place_of := by
  rw [F_place_of_eq]
  refine fnM_mk (T := TT K) D at_ sc_place_of rfl rfl (fun _ _ _ _ _ _ us hl => match us, hl with | [_, _], _ => rfl) fun cdv A outer s H E hr => ?_
  have tk := takes_of (X := cxOf (L2.CX P w) P w K mg base N_place_of (st "place_of") (defScope s_place_of) (He.ga K (st "place_of")) cdv A outer s H E) rfl rfl rfl rfl
  have po : PassesOwn _ (cxOf (L2.CX P w) P w K mg base N_place_of (st "place_of") (defScope s_place_of) (He.ga K (st "place_of")) cdv A outer s H E).A _ (cxOf (L2.CX P w) P w K mg base N_place_of (st "place_of") (defScope s_place_of) (He.ga K (st "place_of")) cdv A outer s H E).xe := passes_of rfl
  have nd := sc_place_of.nd
  have hu64 := hr.units
  have hu1 := Nat.lt_of_le_of_lt (Nat.add_le_add_left (by decide : 1 ≤ 64) _) hu64
  exact (ss_cons (s_ex (e_call rfl tk f_look_at_turn (by decide) hr rfl (a_cons (e_var (pv 0)) (a_cons (e_var (pv 1)) a_nil)) (by decide)))
  (ss_one (s_ret (e_op o_mod (e_var (pv 1)) (e_var (pv 0))))))
abbrev s_Hand_mark_there : Stmt := sub (top 45) 4
abbrev N_Hand_mark_there : List Str := ["self"]
theorem sc_Hand_mark_there : FnScope N_Hand_mark_there ["self"] (defScope s_Hand_mark_there) := ⟨rfl, rfl, rfl, by decide +kernel, rfl, by decide +kernel, by decide +kernel⟩
theorem ok_Hand_mark_there {c : String} (mt_Board_read : MtM (TT K) P w mg base 3 "Board" "read" ["self", "cell"] F_Board_read) (hcl : ClsF (TT K)) (na_board : NoF (TT K) "board") (f_mark_cell : FnM (TT K) P w mg base 2 "mark_cell" ["place"] F_mark_cell) (f_place_of : FnM (TT K) P w mg base 4 "place_of" ["size", "turn"] F_place_of) (na_spot : NoF (TT K) "spot") (na_size : NoF (TT K) "size") (D : ∃ fd, FunD K (st "mark_there") (st "Hand.mark_there") (defArgs s_Hand_mark_there) (defBody s_Hand_mark_there) (defScope s_Hand_mark_there) [] [] (He.ma K (clA K c) (st "mark_there")) fd) (at_ : Meth K (clA K c) (st "mark_there") (He.ma K (clA K c) (st "mark_there"))) : MtM (TT K) P w mg base 5 c "mark_there" ["self"] F_Hand_mark_there := by
  rw [F_Hand_mark_there_eq]
  refine mtM_mk (T := TT K) D at_ sc_Hand_mark_there rfl rfl (fun _ _ _ _ _ _ us hl => match us, hl with | [_], _ => rfl) fun cdv A outer s H E hr => ?_
  have tk := takes_of (X := cxOf (L2.CX P w) P w K mg base N_Hand_mark_there (st "Hand.mark_there") (defScope s_Hand_mark_there) (He.ma K (clA K c) (st "mark_there")) cdv A outer s H E) rfl rfl rfl rfl
  have po : PassesOwn _ (cxOf (L2.CX P w) P w K mg base N_Hand_mark_there (st "Hand.mark_there") (defScope s_Hand_mark_there) (He.ma K (clA K c) (st "mark_there")) cdv A outer s H E).A _ (cxOf (L2.CX P w) P w K mg base N_Hand_mark_there (st "Hand.mark_there") (defScope s_Hand_mark_there) (He.ma K (clA K c) (st "mark_there")) cdv A outer s H E).xe := passes_of rfl
  have nd := sc_Hand_mark_there.nd
  have hu64 := hr.units
  have hu1 := Nat.lt_of_le_of_lt (Nat.add_le_add_left (by decide : 1 ≤ 64) _) hu64
  exact (ss_one (s_ret (e_meth rfl tk hcl (MtAll.one mt_Board_read (by decide)) (show _ ∉ FLS by decide) hr (e_fld rfl hcl na_board.na (e_var (pv 0)) (by rfl)) (a_cons (e_call rfl tk f_mark_cell (by decide) hr rfl (a_cons (e_call rfl tk f_place_of (by decide) hr rfl (a_cons (e_fld rfl hcl na_size.na (e_fld rfl hcl na_board.na (e_var (pv 0)) (by rfl)) (by rfl)) (a_cons (e_fld rfl hcl na_spot.na (e_var (pv 0)) (by rfl)) a_nil)) (by decide)) a_nil) (by decide)) a_nil))))
abbrev s_Hand_wait : Stmt := sub (top 45) 6
abbrev N_Hand_wait : List Str := ["self", "size"]
theorem sc_Hand_wait : FnScope N_Hand_wait ["self"] (defScope s_Hand_wait) := ⟨rfl, rfl, rfl, by decide +kernel, rfl, by decide +kernel, by decide +kernel⟩
theorem ok_Hand_wait {c : String} (hcl : ClsF (TT K)) (na_board : NoF (TT K) "board") (na_size : NoF (TT K) "size") (na_here : NoF (TT K) "here") (mt_Board_write : MtM (TT K) P w mg base 3 "Board" "write" ["self", "cell", "number"] F_Board_write) (na_spot : NoF (TT K) "spot") (f_card_cell : FnM (TT K) P w mg base 3 "card_cell" ["size", "hand"] F_card_cell) (na_name : NoF (TT K) "name") (mt_Taker_may : MtM (TT K) P w mg base 6 "Taker" "may" ["self", "mark"] F_Taker_may) (mt_Giver_may : MtM (TT K) P w mg base 6 "Giver" "may" ["self", "mark"] F_Giver_may) (mt_Taker_mark_there : MtM (TT K) P w mg base 5 "Taker" "mark_there" ["self"] F_Hand_mark_there) (mt_Giver_mark_there : MtM (TT K) P w mg base 5 "Giver" "mark_there" ["self"] F_Hand_mark_there) (mt_Board_read : MtM (TT K) P w mg base 3 "Board" "read" ["self", "cell"] F_Board_read) (f_bell_cell : FnM (TT K) P w mg base 3 "bell_cell" ["size", "hand"] F_bell_cell) (D : ∃ fd, FunD K (st "wait") (st "Hand.wait") (defArgs s_Hand_wait) (defBody s_Hand_wait) (defScope s_Hand_wait) [] [] (He.ma K (clA K c) (st "wait")) fd) (at_ : Meth K (clA K c) (st "wait") (He.ma K (clA K c) (st "wait"))) : MtM (TT K) P w mg base 7 c "wait" ["self"] F_Hand_wait := by
  rw [F_Hand_wait_eq]
  refine mtM_mk (T := TT K) D at_ sc_Hand_wait rfl rfl (fun _ _ _ _ _ _ us hl => match us, hl with | [_], _ => rfl) fun cdv A outer s H E hr => ?_
  have tk := takes_of (X := cxOf (L2.CX P w) P w K mg base N_Hand_wait (st "Hand.wait") (defScope s_Hand_wait) (He.ma K (clA K c) (st "wait")) cdv A outer s H E) rfl rfl rfl rfl
  have po : PassesOwn _ (cxOf (L2.CX P w) P w K mg base N_Hand_wait (st "Hand.wait") (defScope s_Hand_wait) (He.ma K (clA K c) (st "wait")) cdv A outer s H E).A _ (cxOf (L2.CX P w) P w K mg base N_Hand_wait (st "Hand.wait") (defScope s_Hand_wait) (He.ma K (clA K c) (st "wait")) cdv A outer s H E).xe := passes_of rfl
  have nd := sc_Hand_wait.nd
  have hu64 := hr.units
  have hu1 := Nat.lt_of_le_of_lt (Nat.add_le_add_left (by decide : 1 ≤ 64) _) hu64
  exact (ss_cons (s_set (i := 1) (fun _ h => ps_set (i := 1) nd rfl (by first | exact Or.inl rfl | exact Or.inr rfl) h) (e_fld rfl hcl na_size.na (e_fld rfl hcl na_board.na (e_var (pv 0)) (by rfl)) (by rfl)))
  (ss_one (s_if (t_cmp (o_eq rfl hu64) (e_fld rfl hcl na_here.na (e_var (pv 0)) (by rfl)) e_str (nomark _)) (ss_cons (s_ex (e_meth rfl tk hcl (MtAll.one mt_Board_write (by decide)) (show _ ∉ FLS by decide) hr (e_fld rfl hcl na_board.na (e_var (pv 0)) (by rfl)) (a_cons (e_call rfl tk f_card_cell (by decide) hr rfl (a_cons (e_var (pv 1)) (a_cons (e_fld rfl hcl na_name.na (e_var (pv 0)) (by rfl)) a_nil)) (by decide)) (a_cons (e_fld rfl hcl na_spot.na (e_var (pv 0)) (by rfl)) a_nil))))
  (ss_one (s_fld rfl hcl na_here.na na_here.mem (e_var (pv 0)) e_str))) (ss_one (s_if (t_cmp (o_eq rfl hu64) (e_fld rfl hcl na_here.na (e_var (pv 0)) (by rfl)) e_str (nomark _)) (ss_one (s_fld rfl hcl na_here.na na_here.mem (e_var (pv 0)) (e_if (t_tru rfl (e_meth rfl tk hcl (MtAll.or (MtAll.one mt_Giver_may (by decide)) (MtAll.one mt_Taker_may (by decide))) (show _ ∉ FLS by decide) hr (e_var (pv 0)) (a_cons (e_meth0 rfl tk hcl (MtAll.or (MtAll.one mt_Giver_mark_there (by decide)) (MtAll.one mt_Taker_mark_there (by decide))) (show _ ∉ FLS by decide) hr (e_var (pv 0))) a_nil)) (by intro _; rfl)) e_str e_str))) (ss_one (s_if (t_cmp (o_eq rfl hu64) (e_fld rfl hcl na_here.na (e_var (pv 0)) (by rfl)) e_str (nomark _)) (ss_one (s_if (t_cmp (o_ne rfl hu64) (e_meth rfl tk hcl (MtAll.one mt_Board_read (by decide)) (show _ ∉ FLS by decide) hr (e_fld rfl hcl na_board.na (e_var (pv 0)) (by rfl)) (a_cons (e_call rfl tk f_bell_cell (by decide) hr rfl (a_cons (e_var (pv 1)) (a_cons (e_fld rfl hcl na_name.na (e_var (pv 0)) (by rfl)) a_nil)) (by decide)) a_nil)) e_int (nomark _)) (ss_one (s_fld rfl hcl na_here.na na_here.mem (e_var (pv 0)) e_str)) ss_nil)) (ss_one (s_if (t_cmp (o_eq rfl hu64) (e_fld rfl hcl na_here.na (e_var (pv 0)) (by rfl)) e_str (nomark _)) (ss_cons (s_ex (e_meth rfl tk hcl (MtAll.one mt_Board_write (by decide)) (show _ ∉ FLS by decide) hr (e_fld rfl hcl na_board.na (e_var (pv 0)) (by rfl)) (a_cons (e_call rfl tk f_bell_cell (by decide) hr rfl (a_cons (e_var (pv 1)) (a_cons (e_fld rfl hcl na_name.na (e_var (pv 0)) (by rfl)) a_nil)) (by decide)) (a_cons e_int a_nil))))
  (ss_one (s_fld rfl hcl na_here.na na_here.mem (e_var (pv 0)) e_str))) (ss_cons (s_ex (e_meth rfl tk hcl (MtAll.one mt_Board_write (by decide)) (show _ ∉ FLS by decide) hr (e_fld rfl hcl na_board.na (e_var (pv 0)) (by rfl)) (a_cons (e_call rfl tk f_card_cell (by decide) hr rfl (a_cons (e_var (pv 1)) (a_cons (e_fld rfl hcl na_name.na (e_var (pv 0)) (by rfl)) a_nil)) (by decide)) (a_cons (e_un u_neg e_int) a_nil))))
  (ss_one (s_fld rfl hcl na_here.na na_here.mem (e_var (pv 0)) e_str))))))))))))
abbrev s_free_mark : Stmt := top 31
abbrev N_free_mark : List Str := ["size", "turn"]
theorem sc_free_mark : FnScope N_free_mark ["size", "turn"] (defScope s_free_mark) := ⟨rfl, rfl, rfl, by decide +kernel, rfl, by decide +kernel, by decide +kernel⟩
theorem ok_free_mark (f_lap_of : FnM (TT K) P w mg base 4 "lap_of" ["size", "turn"] F_lap_of) (D : ∃ fd, FunD K (st "free_mark") (st "free_mark") (defArgs s_free_mark) (defBody s_free_mark) (defScope s_free_mark) [] [] (He.ga K (st "free_mark")) fd) (at_ : mg (st "free_mark") = some (.ref (He.ga K (st "free_mark")))) :
    FnM (TT K) P w mg base 5 "free_mark" ["size", "turn"] F_free_mark := by
  rw [F_free_mark_eq]
  refine fnM_mk (T := TT K) D at_ sc_free_mark rfl rfl (fun _ _ _ _ _ _ us hl => match us, hl with | [_, _], _ => rfl) fun cdv A outer s H E hr => ?_
  have tk := takes_of (X := cxOf (L2.CX P w) P w K mg base N_free_mark (st "free_mark") (defScope s_free_mark) (He.ga K (st "free_mark")) cdv A outer s H E) rfl rfl rfl rfl
  have po : PassesOwn _ (cxOf (L2.CX P w) P w K mg base N_free_mark (st "free_mark") (defScope s_free_mark) (He.ga K (st "free_mark")) cdv A outer s H E).A _ (cxOf (L2.CX P w) P w K mg base N_free_mark (st "free_mark") (defScope s_free_mark) (He.ga K (st "free_mark")) cdv A outer s H E).xe := passes_of rfl
  have nd := sc_free_mark.nd
  have hu64 := hr.units
  have hu1 := Nat.lt_of_le_of_lt (Nat.add_le_add_left (by decide : 1 ≤ 64) _) hu64
  exact (ss_one (s_ret (e_op o_mul e_int (e_call rfl tk f_lap_of (by decide) hr rfl (a_cons (e_var (pv 0)) (a_cons (e_var (pv 1)) a_nil)) (by decide)))))
abbrev s_onward : Stmt := top 17
abbrev N_onward : List Str := ["size", "turn", "many"]
theorem sc_onward : FnScope N_onward ["size", "turn", "many"] (defScope s_onward) := ⟨rfl, rfl, rfl, by decide +kernel, rfl, by decide +kernel, by decide +kernel⟩
theorem ok_onward (f_look_at_turn : FnM (TT K) P w mg base 3 "look_at_turn" ["size", "turn"] F_look_at_turn) (D : ∃ fd, FunD K (st "onward") (st "onward") (defArgs s_onward) (defBody s_onward) (defScope s_onward) [] [] (He.ga K (st "onward")) fd) (at_ : mg (st "onward") = some (.ref (He.ga K (st "onward")))) :
    FnM (TT K) P w mg base 4 "onward" ["size", "turn", "many"] F_onward := by
  rw [F_onward_eq]
  refine fnM_mk (T := TT K) D at_ sc_onward rfl rfl (fun _ _ _ _ _ _ us hl => match us, hl with | [_, _, _], _ => rfl) fun cdv A outer s H E hr => ?_
  have tk := takes_of (X := cxOf (L2.CX P w) P w K mg base N_onward (st "onward") (defScope s_onward) (He.ga K (st "onward")) cdv A outer s H E) rfl rfl rfl rfl
  have po : PassesOwn _ (cxOf (L2.CX P w) P w K mg base N_onward (st "onward") (defScope s_onward) (He.ga K (st "onward")) cdv A outer s H E).A _ (cxOf (L2.CX P w) P w K mg base N_onward (st "onward") (defScope s_onward) (He.ga K (st "onward")) cdv A outer s H E).xe := passes_of rfl
  have nd := sc_onward.nd
  have hu64 := hr.units
  have hu1 := Nat.lt_of_le_of_lt (Nat.add_le_add_left (by decide : 1 ≤ 64) _) hu64
  exact (ss_cons (s_ex (e_call rfl tk f_look_at_turn (by decide) hr rfl (a_cons (e_var (pv 0)) (a_cons (e_var (pv 1)) a_nil)) (by decide)))
  (ss_one (s_ret (e_op o_mod (e_op (o_add rfl) (e_var (pv 1)) (e_var (pv 2))) (e_op o_mul e_int (e_var (pv 0)))))))
abbrev s_Taker_freed : Stmt := sub (top 49) 9
abbrev N_Taker_freed : List Str := ["self", "last"]
theorem sc_Taker_freed : FnScope N_Taker_freed ["self"] (defScope s_Taker_freed) := ⟨rfl, rfl, rfl, by decide +kernel, rfl, by decide +kernel, by decide +kernel⟩
theorem ok_Taker_freed {c : String} (hcl : ClsF (TT K)) (na_early : NoF (TT K) "early") (na_spot : NoF (TT K) "spot") (f_onward : FnM (TT K) P w mg base 4 "onward" ["size", "turn", "many"] F_onward) (na_board : NoF (TT K) "board") (na_size : NoF (TT K) "size") (na_here : NoF (TT K) "here") (na_parts : NoF (TT K) "parts") (D : ∃ fd, FunD K (st "freed") (st "Taker.freed") (defArgs s_Taker_freed) (defBody s_Taker_freed) (defScope s_Taker_freed) [] [] (He.ma K (clA K c) (st "freed")) fd) (at_ : Meth K (clA K c) (st "freed") (He.ma K (clA K c) (st "freed"))) : MtM (TT K) P w mg base 5 c "freed" ["self"] F_Taker_freed := by
  rw [F_Taker_freed_eq]
  refine mtM_mk (T := TT K) D at_ sc_Taker_freed rfl rfl (fun _ _ _ _ _ _ us hl => match us, hl with | [_], _ => rfl) fun cdv A outer s H E hr => ?_
  have tk := takes_of (X := cxOf (L2.CX P w) P w K mg base N_Taker_freed (st "Taker.freed") (defScope s_Taker_freed) (He.ma K (clA K c) (st "freed")) cdv A outer s H E) rfl rfl rfl rfl
  have po : PassesOwn _ (cxOf (L2.CX P w) P w K mg base N_Taker_freed (st "Taker.freed") (defScope s_Taker_freed) (He.ma K (clA K c) (st "freed")) cdv A outer s H E).A _ (cxOf (L2.CX P w) P w K mg base N_Taker_freed (st "Taker.freed") (defScope s_Taker_freed) (He.ma K (clA K c) (st "freed")) cdv A outer s H E).xe := passes_of rfl
  have nd := sc_Taker_freed.nd
  have hu64 := hr.units
  have hu1 := Nat.lt_of_le_of_lt (Nat.add_le_add_left (by decide : 1 ≤ 64) _) hu64
  exact (ss_cons (s_set (i := 1) (fun _ h => ps_set (i := 1) nd rfl (by first | exact Or.inl rfl | exact Or.inr rfl) h) (e_cmp (o_eq rfl hu64) (e_fld rfl hcl na_early.na (e_var (pv 0)) (by rfl)) (e_fld rfl hcl na_spot.na (e_var (pv 0)) (by rfl)) (nomark _)))
  (ss_cons (s_fld rfl hcl na_early.na na_early.mem (e_var (pv 0)) (e_call rfl tk f_onward (by decide) hr rfl (a_cons (e_fld rfl hcl na_size.na (e_fld rfl hcl na_board.na (e_var (pv 0)) (by rfl)) (by rfl)) (a_cons (e_fld rfl hcl na_early.na (e_var (pv 0)) (by rfl)) (a_cons e_int a_nil))) (by decide)))
  (ss_cons (s_fld rfl hcl na_here.na na_here.mem (e_var (pv 0)) e_str)
  (ss_one (s_if (t_tru rfl (e_var (pv 1)) (by intro _; rfl)) (ss_cons (s_fld rfl hcl na_spot.na na_spot.mem (e_var (pv 0)) (e_fld rfl hcl na_early.na (e_var (pv 0)) (by rfl)))
  (ss_cons (s_fld rfl hcl na_parts.na na_parts.mem (e_var (pv 0)) (e_lst a_nil))
  (ss_one (s_fld rfl hcl na_here.na na_here.mem (e_var (pv 0)) e_str)))) ss_nil)))))
abbrev s_Taker_release : Stmt := sub (top 49) 8
abbrev N_Taker_release : List Str := ["self", "size"]
theorem sc_Taker_release : FnScope N_Taker_release ["self"] (defScope s_Taker_release) := ⟨rfl, rfl, rfl, by decide +kernel, rfl, by decide +kernel, by decide +kernel⟩
theorem ok_Taker_release {c : String} (hcl : ClsF (TT K)) (na_board : NoF (TT K) "board") (na_size : NoF (TT K) "size") (na_here : NoF (TT K) "here") (mt_Board_write : MtM (TT K) P w mg base 3 "Board" "write" ["self", "cell", "number"] F_Board_write) (f_free_mark : FnM (TT K) P w mg base 5 "free_mark" ["size", "turn"] F_free_mark) (na_early : NoF (TT K) "early") (f_mark_cell : FnM (TT K) P w mg base 2 "mark_cell" ["place"] F_mark_cell) (f_place_of : FnM (TT K) P w mg base 4 "place_of" ["size", "turn"] F_place_of) (f_bell_cell : FnM (TT K) P w mg base 3 "bell_cell" ["size", "hand"] F_bell_cell) (mt_Taker_freed : MtM (TT K) P w mg base 5 "Taker" "freed" ["self"] F_Taker_freed) (mt_Board_read : MtM (TT K) P w mg base 3 "Board" "read" ["self", "cell"] F_Board_read) (f_card_cell : FnM (TT K) P w mg base 3 "card_cell" ["size", "hand"] F_card_cell) (f_onward : FnM (TT K) P w mg base 4 "onward" ["size", "turn", "many"] F_onward) (D : ∃ fd, FunD K (st "release") (st "Taker.release") (defArgs s_Taker_release) (defBody s_Taker_release) (defScope s_Taker_release) [] [] (He.ma K (clA K c) (st "release")) fd) (at_ : Meth K (clA K c) (st "release") (He.ma K (clA K c) (st "release"))) : MtM (TT K) P w mg base 6 c "release" ["self"] F_Taker_release := by
  rw [F_Taker_release_eq]
  refine mtM_mk (T := TT K) D at_ sc_Taker_release rfl rfl (fun _ _ _ _ _ _ us hl => match us, hl with | [_], _ => rfl) fun cdv A outer s H E hr => ?_
  have tk := takes_of (X := cxOf (L2.CX P w) P w K mg base N_Taker_release (st "Taker.release") (defScope s_Taker_release) (He.ma K (clA K c) (st "release")) cdv A outer s H E) rfl rfl rfl rfl
  have po : PassesOwn _ (cxOf (L2.CX P w) P w K mg base N_Taker_release (st "Taker.release") (defScope s_Taker_release) (He.ma K (clA K c) (st "release")) cdv A outer s H E).A _ (cxOf (L2.CX P w) P w K mg base N_Taker_release (st "Taker.release") (defScope s_Taker_release) (He.ma K (clA K c) (st "release")) cdv A outer s H E).xe := passes_of rfl
  have nd := sc_Taker_release.nd
  have hu64 := hr.units
  have hu1 := Nat.lt_of_le_of_lt (Nat.add_le_add_left (by decide : 1 ≤ 64) _) hu64
  exact (ss_cons (s_set (i := 1) (fun _ h => ps_set (i := 1) nd rfl (by first | exact Or.inl rfl | exact Or.inr rfl) h) (e_fld rfl hcl na_size.na (e_fld rfl hcl na_board.na (e_var (pv 0)) (by rfl)) (by rfl)))
  (ss_one (s_if (t_cmp (o_eq rfl hu64) (e_fld rfl hcl na_here.na (e_var (pv 0)) (by rfl)) e_str (nomark _)) (ss_cons (s_ex (e_meth rfl tk hcl (MtAll.one mt_Board_write (by decide)) (show _ ∉ FLS by decide) hr (e_fld rfl hcl na_board.na (e_var (pv 0)) (by rfl)) (a_cons (e_call rfl tk f_mark_cell (by decide) hr rfl (a_cons (e_call rfl tk f_place_of (by decide) hr rfl (a_cons (e_var (pv 1)) (a_cons (e_fld rfl hcl na_early.na (e_var (pv 0)) (by rfl)) a_nil)) (by decide)) a_nil) (by decide)) (a_cons (e_call rfl tk f_free_mark (by decide) hr rfl (a_cons (e_var (pv 1)) (a_cons (e_fld rfl hcl na_early.na (e_var (pv 0)) (by rfl)) a_nil)) (by decide)) a_nil))))
  (ss_one (s_fld rfl hcl na_here.na na_here.mem (e_var (pv 0)) e_str))) (ss_one (s_if (t_cmp (o_eq rfl hu64) (e_fld rfl hcl na_here.na (e_var (pv 0)) (by rfl)) e_str (nomark _)) (ss_cons (s_ex (e_meth rfl tk hcl (MtAll.one mt_Board_write (by decide)) (show _ ∉ FLS by decide) hr (e_fld rfl hcl na_board.na (e_var (pv 0)) (by rfl)) (a_cons (e_call rfl tk f_bell_cell (by decide) hr rfl (a_cons (e_var (pv 1)) (a_cons e_str a_nil)) (by decide)) (a_cons e_int a_nil))))
  (ss_one (s_ex (e_meth0 rfl tk hcl (MtAll.one mt_Taker_freed (by decide)) (show _ ∉ FLS by decide) hr (e_var (pv 0)))))) (ss_one (s_if (t_cmp (o_eq rfl hu64) (e_meth rfl tk hcl (MtAll.one mt_Board_read (by decide)) (show _ ∉ FLS by decide) hr (e_fld rfl hcl na_board.na (e_var (pv 0)) (by rfl)) (a_cons (e_call rfl tk f_card_cell (by decide) hr rfl (a_cons (e_var (pv 1)) (a_cons e_str a_nil)) (by decide)) a_nil)) (e_call rfl tk f_onward (by decide) hr rfl (a_cons (e_var (pv 1)) (a_cons (e_fld rfl hcl na_early.na (e_var (pv 0)) (by rfl)) (a_cons (e_var (pv 1)) a_nil))) (by decide)) (nomark _)) (ss_one (s_fld rfl hcl na_here.na na_here.mem (e_var (pv 0)) e_str)) (ss_one (s_ex (e_meth0 rfl tk hcl (MtAll.one mt_Taker_freed (by decide)) (show _ ∉ FLS by decide) hr (e_var (pv 0))))))))))))
abbrev s_number_cell : Stmt := top 21
abbrev N_number_cell : List Str := ["place"]
theorem sc_number_cell : FnScope N_number_cell ["place"] (defScope s_number_cell) := ⟨rfl, rfl, rfl, by decide +kernel, rfl, by decide +kernel, by decide +kernel⟩
theorem ok_number_cell  (D : ∃ fd, FunD K (st "number_cell") (st "number_cell") (defArgs s_number_cell) (defBody s_number_cell) (defScope s_number_cell) [] [] (He.ga K (st "number_cell")) fd) (at_ : mg (st "number_cell") = some (.ref (He.ga K (st "number_cell")))) :
    FnM (TT K) P w mg base 2 "number_cell" ["place"] F_number_cell := by
  rw [F_number_cell_eq]
  refine fnM_mk (T := TT K) D at_ sc_number_cell rfl rfl (fun _ _ _ _ _ _ us hl => match us, hl with | [_], _ => rfl) fun cdv A outer s H E hr => ?_
  have tk := takes_of (X := cxOf (L2.CX P w) P w K mg base N_number_cell (st "number_cell") (defScope s_number_cell) (He.ga K (st "number_cell")) cdv A outer s H E) rfl rfl rfl rfl
  have po : PassesOwn _ (cxOf (L2.CX P w) P w K mg base N_number_cell (st "number_cell") (defScope s_number_cell) (He.ga K (st "number_cell")) cdv A outer s H E).A _ (cxOf (L2.CX P w) P w K mg base N_number_cell (st "number_cell") (defScope s_number_cell) (He.ga K (st "number_cell")) cdv A outer s H E).xe := passes_of rfl
  have nd := sc_number_cell.nd
  have hu64 := hr.units
  have hu1 := Nat.lt_of_le_of_lt (Nat.add_le_add_left (by decide : 1 ≤ 64) _) hu64
  exact (ss_one (s_ret (e_op (o_add rfl) (e_op o_mul e_int (e_var (pv 0))) e_int)))
abbrev s_left_cell : Stmt := top 22
abbrev N_left_cell : List Str := ["place"]
theorem sc_left_cell : FnScope N_left_cell ["place"] (defScope s_left_cell) := ⟨rfl, rfl, rfl, by decide +kernel, rfl, by decide +kernel, by decide +kernel⟩
theorem ok_left_cell  (D : ∃ fd, FunD K (st "left_cell") (st "left_cell") (defArgs s_left_cell) (defBody s_left_cell) (defScope s_left_cell) [] [] (He.ga K (st "left_cell")) fd) (at_ : mg (st "left_cell") = some (.ref (He.ga K (st "left_cell")))) :
    FnM (TT K) P w mg base 2 "left_cell" ["place"] F_left_cell := by
  rw [F_left_cell_eq]
  refine fnM_mk (T := TT K) D at_ sc_left_cell rfl rfl (fun _ _ _ _ _ _ us hl => match us, hl with | [_], _ => rfl) fun cdv A outer s H E hr => ?_
  have tk := takes_of (X := cxOf (L2.CX P w) P w K mg base N_left_cell (st "left_cell") (defScope s_left_cell) (He.ga K (st "left_cell")) cdv A outer s H E) rfl rfl rfl rfl
  have po : PassesOwn _ (cxOf (L2.CX P w) P w K mg base N_left_cell (st "left_cell") (defScope s_left_cell) (He.ga K (st "left_cell")) cdv A outer s H E).A _ (cxOf (L2.CX P w) P w K mg base N_left_cell (st "left_cell") (defScope s_left_cell) (He.ga K (st "left_cell")) cdv A outer s H E).xe := passes_of rfl
  have nd := sc_left_cell.nd
  have hu64 := hr.units
  have hu1 := Nat.lt_of_le_of_lt (Nat.add_le_add_left (by decide : 1 ≤ 64) _) hu64
  exact (ss_one (s_ret (e_op (o_add rfl) (e_op o_mul e_int (e_var (pv 0))) e_int)))
abbrev s_thing_cell : Stmt := top 23
abbrev N_thing_cell : List Str := ["place"]
theorem sc_thing_cell : FnScope N_thing_cell ["place"] (defScope s_thing_cell) := ⟨rfl, rfl, rfl, by decide +kernel, rfl, by decide +kernel, by decide +kernel⟩
theorem ok_thing_cell  (D : ∃ fd, FunD K (st "thing_cell") (st "thing_cell") (defArgs s_thing_cell) (defBody s_thing_cell) (defScope s_thing_cell) [] [] (He.ga K (st "thing_cell")) fd) (at_ : mg (st "thing_cell") = some (.ref (He.ga K (st "thing_cell")))) :
    FnM (TT K) P w mg base 2 "thing_cell" ["place"] F_thing_cell := by
  rw [F_thing_cell_eq]
  refine fnM_mk (T := TT K) D at_ sc_thing_cell rfl rfl (fun _ _ _ _ _ _ us hl => match us, hl with | [_], _ => rfl) fun cdv A outer s H E hr => ?_
  have tk := takes_of (X := cxOf (L2.CX P w) P w K mg base N_thing_cell (st "thing_cell") (defScope s_thing_cell) (He.ga K (st "thing_cell")) cdv A outer s H E) rfl rfl rfl rfl
  have po : PassesOwn _ (cxOf (L2.CX P w) P w K mg base N_thing_cell (st "thing_cell") (defScope s_thing_cell) (He.ga K (st "thing_cell")) cdv A outer s H E).A _ (cxOf (L2.CX P w) P w K mg base N_thing_cell (st "thing_cell") (defScope s_thing_cell) (He.ga K (st "thing_cell")) cdv A outer s H E).xe := passes_of rfl
  have nd := sc_thing_cell.nd
  have hu64 := hr.units
  have hu1 := Nat.lt_of_le_of_lt (Nat.add_le_add_left (by decide : 1 ≤ 64) _) hu64
  exact (ss_one (s_ret (e_op (o_add rfl) (e_op o_mul e_int (e_var (pv 0))) e_int)))
abbrev s_Taker_put_down : Stmt := sub (top 49) 7
abbrev N_Taker_put_down : List Str := ["self"]
theorem sc_Taker_put_down : FnScope N_Taker_put_down ["self"] (defScope s_Taker_put_down) := ⟨rfl, rfl, rfl, by decide +kernel, rfl, by decide +kernel, by decide +kernel⟩
theorem ok_Taker_put_down {c : String} (hcl : ClsF (TT K)) (na_here : NoF (TT K) "here") (na_number : NoF (TT K) "number") (m_len : mg (st "len") = none) (na_taken : NoF (TT K) "taken") (m_list : mg (st "list") = none) (na_parts : NoF (TT K) "parts") (D : ∃ fd, FunD K (st "put_down") (st "Taker.put_down") (defArgs s_Taker_put_down) (defBody s_Taker_put_down) (defScope s_Taker_put_down) [] [] (He.ma K (clA K c) (st "put_down")) fd) (at_ : Meth K (clA K c) (st "put_down") (He.ma K (clA K c) (st "put_down"))) : MtM (TT K) P w mg base 2 c "put_down" ["self"] F_Taker_put_down := by
  rw [F_Taker_put_down_eq]
  refine mtM_mk (T := TT K) D at_ sc_Taker_put_down rfl rfl (fun _ _ _ _ _ _ us hl => match us, hl with | [_], _ => rfl) fun cdv A outer s H E hr => ?_
  have tk := takes_of (X := cxOf (L2.CX P w) P w K mg base N_Taker_put_down (st "Taker.put_down") (defScope s_Taker_put_down) (He.ma K (clA K c) (st "put_down")) cdv A outer s H E) rfl rfl rfl rfl
  have po : PassesOwn _ (cxOf (L2.CX P w) P w K mg base N_Taker_put_down (st "Taker.put_down") (defScope s_Taker_put_down) (He.ma K (clA K c) (st "put_down")) cdv A outer s H E).A _ (cxOf (L2.CX P w) P w K mg base N_Taker_put_down (st "Taker.put_down") (defScope s_Taker_put_down) (He.ma K (clA K c) (st "put_down")) cdv A outer s H E).xe := passes_of rfl
  have nd := sc_Taker_put_down.nd
  have hu64 := hr.units
  have hu1 := Nat.lt_of_le_of_lt (Nat.add_le_add_left (by decide : 1 ≤ 64) _) hu64
  exact (ss_cons (s_fld rfl hcl na_here.na na_here.mem (e_var (pv 0)) e_str)
  (ss_one (s_if (t_cmp (o_eq rfl hu64) (e_fld rfl hcl na_number.na (e_var (pv 0)) (by rfl)) (e_b (b_len rfl) rfl m_len (by decide +kernel) (a_cons (e_fld rfl hcl na_taken.na (e_var (pv 0)) (by rfl)) a_nil) (by decide) (by decide)) (nomark _)) (ss_one (s_ex (e_bm rfl PySem.F.plainAttrs_list PySem.F.slot_list_append PySem.F.type_list_append m_append (e_fld rfl hcl na_taken.na (e_var (pv 0)) (by rfl)) (a_cons (e_bt (b_list rfl) rfl m_list (by decide +kernel) (a_cons (e_fld rfl hcl na_parts.na (e_var (pv 0)) (by rfl)) a_nil) (by decide) (by decide)) a_nil)))) ss_nil)))
abbrev s_Taker_take : Stmt := sub (top 49) 6
abbrev N_Taker_take : List Str := ["self", "size", "place"]
theorem sc_Taker_take : FnScope N_Taker_take ["self"] (defScope s_Taker_take) := ⟨rfl, rfl, rfl, by decide +kernel, rfl, by decide +kernel, by decide +kernel⟩
theorem ok_Taker_take {c : String} (hcl : ClsF (TT K)) (na_board : NoF (TT K) "board") (na_size : NoF (TT K) "size") (f_place_of : FnM (TT K) P w mg base 4 "place_of" ["size", "turn"] F_place_of) (na_spot : NoF (TT K) "spot") (na_here : NoF (TT K) "here") (mt_Taker_may : MtM (TT K) P w mg base 6 "Taker" "may" ["self", "mark"] F_Taker_may) (mt_Taker_mark_there : MtM (TT K) P w mg base 5 "Taker" "mark_there" ["self"] F_Hand_mark_there) (mt_Board_read : MtM (TT K) P w mg base 3 "Board" "read" ["self", "cell"] F_Board_read) (f_number_cell : FnM (TT K) P w mg base 2 "number_cell" ["place"] F_number_cell) (na_number : NoF (TT K) "number") (f_left_cell : FnM (TT K) P w mg base 2 "left_cell" ["place"] F_left_cell) (na_left : NoF (TT K) "left") (na_parts : NoF (TT K) "parts") (f_thing_cell : FnM (TT K) P w mg base 2 "thing_cell" ["place"] F_thing_cell) (f_onward : FnM (TT K) P w mg base 4 "onward" ["size", "turn", "many"] F_onward) (mt_Taker_put_down : MtM (TT K) P w mg base 2 "Taker" "put_down" ["self"] F_Taker_put_down) (D : ∃ fd, FunD K (st "take") (st "Taker.take") (defArgs s_Taker_take) (defBody s_Taker_take) (defScope s_Taker_take) [] [] (He.ma K (clA K c) (st "take")) fd) (at_ : Meth K (clA K c) (st "take") (He.ma K (clA K c) (st "take"))) : MtM (TT K) P w mg base 7 c "take" ["self"] F_Taker_take := by
  rw [F_Taker_take_eq]
  refine mtM_mk (T := TT K) D at_ sc_Taker_take rfl rfl (fun _ _ _ _ _ _ us hl => match us, hl with | [_], _ => rfl) fun cdv A outer s H E hr => ?_
  have tk := takes_of (X := cxOf (L2.CX P w) P w K mg base N_Taker_take (st "Taker.take") (defScope s_Taker_take) (He.ma K (clA K c) (st "take")) cdv A outer s H E) rfl rfl rfl rfl
  have po : PassesOwn _ (cxOf (L2.CX P w) P w K mg base N_Taker_take (st "Taker.take") (defScope s_Taker_take) (He.ma K (clA K c) (st "take")) cdv A outer s H E).A _ (cxOf (L2.CX P w) P w K mg base N_Taker_take (st "Taker.take") (defScope s_Taker_take) (He.ma K (clA K c) (st "take")) cdv A outer s H E).xe := passes_of rfl
  have nd := sc_Taker_take.nd
  have hu64 := hr.units
  have hu1 := Nat.lt_of_le_of_lt (Nat.add_le_add_left (by decide : 1 ≤ 64) _) hu64
  exact (ss_cons (s_set (i := 1) (fun _ h => ps_set (i := 1) nd rfl (by first | exact Or.inl rfl | exact Or.inr rfl) h) (e_fld rfl hcl na_size.na (e_fld rfl hcl na_board.na (e_var (pv 0)) (by rfl)) (by rfl)))
  (ss_cons (s_set (i := 2) (fun _ h => ps_set (i := 2) nd rfl (by first | exact Or.inl rfl | exact Or.inr rfl) h) (e_call rfl tk f_place_of (by decide) hr rfl (a_cons (e_var (pv 1)) (a_cons (e_fld rfl hcl na_spot.na (e_var (pv 0)) (by rfl)) a_nil)) (by decide)))
  (ss_one (s_if (t_cmp (o_eq rfl hu64) (e_fld rfl hcl na_here.na (e_var (pv 0)) (by rfl)) e_str (nomark _)) (ss_one (s_fld rfl hcl na_here.na na_here.mem (e_var (pv 0)) (e_if (t_tru rfl (e_meth rfl tk hcl (MtAll.one mt_Taker_may (by decide)) (show _ ∉ FLS by decide) hr (e_var (pv 0)) (a_cons (e_meth0 rfl tk hcl (MtAll.one mt_Taker_mark_there (by decide)) (show _ ∉ FLS by decide) hr (e_var (pv 0))) a_nil)) (by intro _; rfl)) e_str e_str))) (ss_one (s_if (t_cmp (o_eq rfl hu64) (e_fld rfl hcl na_here.na (e_var (pv 0)) (by rfl)) e_str (nomark _)) (ss_cons (s_fld rfl hcl na_number.na na_number.mem (e_var (pv 0)) (e_meth rfl tk hcl (MtAll.one mt_Board_read (by decide)) (show _ ∉ FLS by decide) hr (e_fld rfl hcl na_board.na (e_var (pv 0)) (by rfl)) (a_cons (e_call rfl tk f_number_cell (by decide) hr rfl (a_cons (e_var (pv 2)) a_nil) (by decide)) a_nil)))
  (ss_one (s_fld rfl hcl na_here.na na_here.mem (e_var (pv 0)) e_str))) (ss_one (s_if (t_cmp (o_eq rfl hu64) (e_fld rfl hcl na_here.na (e_var (pv 0)) (by rfl)) e_str (nomark _)) (ss_cons (s_fld rfl hcl na_left.na na_left.mem (e_var (pv 0)) (e_meth rfl tk hcl (MtAll.one mt_Board_read (by decide)) (show _ ∉ FLS by decide) hr (e_fld rfl hcl na_board.na (e_var (pv 0)) (by rfl)) (a_cons (e_call rfl tk f_left_cell (by decide) hr rfl (a_cons (e_var (pv 2)) a_nil) (by decide)) a_nil)))
  (ss_one (s_fld rfl hcl na_here.na na_here.mem (e_var (pv 0)) e_str))) (ss_cons (s_ex (e_bm rfl PySem.F.plainAttrs_list PySem.F.slot_list_append PySem.F.type_list_append m_append (e_fld rfl hcl na_parts.na (e_var (pv 0)) (by rfl)) (a_cons (e_meth rfl tk hcl (MtAll.one mt_Board_read (by decide)) (show _ ∉ FLS by decide) hr (e_fld rfl hcl na_board.na (e_var (pv 0)) (by rfl)) (a_cons (e_call rfl tk f_thing_cell (by decide) hr rfl (a_cons (e_var (pv 2)) a_nil) (by decide)) a_nil)) a_nil)))
  (ss_one (s_if (t_cmp o_gt (e_fld rfl hcl na_left.na (e_var (pv 0)) (by rfl)) e_int (nomark _)) (ss_cons (s_fld rfl hcl na_spot.na na_spot.mem (e_var (pv 0)) (e_call rfl tk f_onward (by decide) hr rfl (a_cons (e_var (pv 1)) (a_cons (e_fld rfl hcl na_spot.na (e_var (pv 0)) (by rfl)) (a_cons e_int a_nil))) (by decide)))
  (ss_one (s_fld rfl hcl na_here.na na_here.mem (e_var (pv 0)) e_str))) (ss_one (s_ex (e_meth0 rfl tk hcl (MtAll.one mt_Taker_put_down (by decide)) (show _ ∉ FLS by decide) hr (e_var (pv 0))))))))))))))))
abbrev s_Taker_step : Stmt := sub (top 49) 5
abbrev N_Taker_step : List Str := ["self"]
theorem sc_Taker_step : FnScope N_Taker_step ["self"] (defScope s_Taker_step) := ⟨rfl, rfl, rfl, by decide +kernel, rfl, by decide +kernel, by decide +kernel⟩
theorem ok_Taker_step {c : String} (hcl : ClsF (TT K)) (na_here : NoF (TT K) "here") (c_RISING : TupF (TT K) mg "RISING" ["rouse", "clear", "mute", "marks"]) (mt_Taker_rise : MtM (TT K) P w mg base 4 "Taker" "rise" ["self"] F_Hand_rise) (f_taker_turn : FnM (TT K) P w mg base 4 "taker_turn" ["marks"] F_taker_turn) (na_seen : NoF (TT K) "seen") (na_spot : NoF (TT K) "spot") (na_early : NoF (TT K) "early") (c_WAITING : TupF (TT K) mg "WAITING" ["wish", "again", "sleep", "hush", "unwish"]) (mt_Taker_wait : MtM (TT K) P w mg base 7 "Taker" "wait" ["self"] F_Hand_wait) (mt_Taker_release : MtM (TT K) P w mg base 6 "Taker" "release" ["self"] F_Taker_release) (mt_Taker_take : MtM (TT K) P w mg base 7 "Taker" "take" ["self"] F_Taker_take) (D : ∃ fd, FunD K (st "step") (st "Taker.step") (defArgs s_Taker_step) (defBody s_Taker_step) (defScope s_Taker_step) [] [] (He.ma K (clA K c) (st "step")) fd) (at_ : Meth K (clA K c) (st "step") (He.ma K (clA K c) (st "step"))) : MtM (TT K) P w mg base 8 c "step" ["self"] F_Taker_step := by
  rw [F_Taker_step_eq]
  refine mtM_mk (T := TT K) D at_ sc_Taker_step rfl rfl (fun _ _ _ _ _ _ us hl => match us, hl with | [_], _ => rfl) fun cdv A outer s H E hr => ?_
  have tk := takes_of (X := cxOf (L2.CX P w) P w K mg base N_Taker_step (st "Taker.step") (defScope s_Taker_step) (He.ma K (clA K c) (st "step")) cdv A outer s H E) rfl rfl rfl rfl
  have po : PassesOwn _ (cxOf (L2.CX P w) P w K mg base N_Taker_step (st "Taker.step") (defScope s_Taker_step) (He.ma K (clA K c) (st "step")) cdv A outer s H E).A _ (cxOf (L2.CX P w) P w K mg base N_Taker_step (st "Taker.step") (defScope s_Taker_step) (He.ma K (clA K c) (st "step")) cdv A outer s H E).xe := passes_of rfl
  have nd := sc_Taker_step.nd
  have hu64 := hr.units
  have hu1 := Nat.lt_of_le_of_lt (Nat.add_le_add_left (by decide : 1 ≤ 64) _) hu64
  exact (ss_cons (s_if (t_cmp (o_in rfl hu1) (e_fld rfl hcl na_here.na (e_var (pv 0)) (by rfl)) (e_gstrs (ss := ["rouse", "clear", "mute", "marks"]) c_RISING rfl (by decide)) (by rfl)) (ss_one (s_if (t_tru rfl (e_meth0 rfl tk hcl (MtAll.one mt_Taker_rise (by decide)) (show _ ∉ FLS by decide) hr (e_var (pv 0))) (by intro _; rfl)) (ss_cons (s_fld rfl hcl na_spot.na na_spot.mem (e_var (pv 0)) (e_call rfl tk f_taker_turn (by decide) hr rfl (a_cons (e_fld rfl hcl na_seen.na (e_var (pv 0)) (by rfl)) a_nil) (by decide)))
  (ss_cons (s_fld rfl hcl na_early.na na_early.mem (e_var (pv 0)) (e_fld rfl hcl na_spot.na (e_var (pv 0)) (by rfl)))
  (ss_one (s_fld rfl hcl na_here.na na_here.mem (e_var (pv 0)) e_str)))) ss_nil)) (ss_one (s_if (t_cmp (o_in rfl hu1) (e_fld rfl hcl na_here.na (e_var (pv 0)) (by rfl)) (e_gstrs (ss := ["wish", "again", "sleep", "hush", "unwish"]) c_WAITING rfl (by decide)) (by rfl)) (ss_one (s_ex (e_meth0 rfl tk hcl (MtAll.one mt_Taker_wait (by decide)) (show _ ∉ FLS by decide) hr (e_var (pv 0))))) (ss_one (s_if (PW.pt (t_or (t_cmp (o_eq rfl hu64) (e_fld rfl hcl na_here.na (e_var (pv 0)) (by rfl)) e_str (nomark _)) (t_or (t_cmp (o_eq rfl hu64) (e_fld rfl hcl na_here.na (e_var (pv 0)) (by rfl)) e_str (nomark _)) (t_or1 (t_cmp (o_eq rfl hu64) (e_fld rfl hcl na_here.na (e_var (pv 0)) (by rfl)) e_str (nomark _)))))) (ss_one (s_ex (e_meth0 rfl tk hcl (MtAll.one mt_Taker_release (by decide)) (show _ ∉ FLS by decide) hr (e_var (pv 0))))) (ss_one (s_ex (e_meth0 rfl tk hcl (MtAll.one mt_Taker_take (by decide)) (show _ ∉ FLS by decide) hr (e_var (pv 0))))))))))
  (ss_one (s_ret e_bl)))
abbrev s_Giver_rests : Stmt := sub (top 47) 4
abbrev N_Giver_rests : List Str := ["self"]
theorem sc_Giver_rests : FnScope N_Giver_rests ["self"] (defScope s_Giver_rests) := ⟨rfl, rfl, rfl, by decide +kernel, rfl, by decide +kernel, by decide +kernel⟩
theorem ok_Giver_rests {c : String} (hcl : ClsF (TT K)) (na_here : NoF (TT K) "here") (na_at : NoF (TT K) "at") (m_len : mg (st "len") = none) (na_wares : NoF (TT K) "wares") (D : ∃ fd, FunD K (st "rests") (st "Giver.rests") (defArgs s_Giver_rests) (defBody s_Giver_rests) (defScope s_Giver_rests) [] [] (He.ma K (clA K c) (st "rests")) fd) (at_ : Meth K (clA K c) (st "rests") (He.ma K (clA K c) (st "rests"))) : MtM (TT K) P w mg base 2 c "rests" ["self"] F_Giver_rests := by
  rw [F_Giver_rests_eq]
  refine mtM_mk (T := TT K) D at_ sc_Giver_rests rfl rfl (fun _ _ _ _ _ _ us hl => match us, hl with | [_], _ => rfl) fun cdv A outer s H E hr => ?_
  have tk := takes_of (X := cxOf (L2.CX P w) P w K mg base N_Giver_rests (st "Giver.rests") (defScope s_Giver_rests) (He.ma K (clA K c) (st "rests")) cdv A outer s H E) rfl rfl rfl rfl
  have po : PassesOwn _ (cxOf (L2.CX P w) P w K mg base N_Giver_rests (st "Giver.rests") (defScope s_Giver_rests) (He.ma K (clA K c) (st "rests")) cdv A outer s H E).A _ (cxOf (L2.CX P w) P w K mg base N_Giver_rests (st "Giver.rests") (defScope s_Giver_rests) (He.ma K (clA K c) (st "rests")) cdv A outer s H E).xe := passes_of rfl
  have nd := sc_Giver_rests.nd
  have hu64 := hr.units
  have hu1 := Nat.lt_of_le_of_lt (Nat.add_le_add_left (by decide : 1 ≤ 64) _) hu64
  exact (ss_one (s_ret (e_and (e_cmp (o_eq rfl hu64) (e_fld rfl hcl na_here.na (e_var (pv 0)) (by rfl)) e_str (nomark _)) (e_one (e_cmp o_ge (e_fld rfl hcl na_at.na (e_var (pv 0)) (by rfl)) (e_b (b_len rfl) rfl m_len (by decide +kernel) (a_cons (e_fld rfl hcl na_wares.na (e_var (pv 0)) (by rfl)) a_nil) (by decide) (by decide)) (nomark _))))))
abbrev s_lap_bits : Stmt := top 37
abbrev N_lap_bits : List Str := ["marks", "mark"]
theorem sc_lap_bits : FnScope N_lap_bits ["marks"] (defScope s_lap_bits) := ⟨rfl, rfl, rfl, by decide +kernel, rfl, by decide +kernel, by decide +kernel⟩
theorem ok_lap_bits  (D : ∃ fd, FunD K (st "lap_bits") (st "lap_bits") (defArgs s_lap_bits) (defBody s_lap_bits) (defScope s_lap_bits) [] [] (He.ga K (st "lap_bits")) fd) (at_ : mg (st "lap_bits") = some (.ref (He.ga K (st "lap_bits")))) :
    FnM (TT K) P w mg base 2 "lap_bits" ["marks"] F_lap_bits := by
  rw [F_lap_bits_eq]
  refine fnM_mk (T := TT K) D at_ sc_lap_bits rfl rfl (fun _ _ _ _ _ _ us hl => match us, hl with | [_], _ => rfl) fun cdv A outer s H E hr => ?_
  have tk := takes_of (X := cxOf (L2.CX P w) P w K mg base N_lap_bits (st "lap_bits") (defScope s_lap_bits) (He.ga K (st "lap_bits")) cdv A outer s H E) rfl rfl rfl rfl
  have po : PassesOwn _ (cxOf (L2.CX P w) P w K mg base N_lap_bits (st "lap_bits") (defScope s_lap_bits) (He.ga K (st "lap_bits")) cdv A outer s H E).A _ (cxOf (L2.CX P w) P w K mg base N_lap_bits (st "lap_bits") (defScope s_lap_bits) (He.ga K (st "lap_bits")) cdv A outer s H E).xe := passes_of rfl
  have nd := sc_lap_bits.nd
  have hu64 := hr.units
  have hu1 := Nat.lt_of_le_of_lt (Nat.add_le_add_left (by decide : 1 ≤ 64) _) hu64
  exact (ss_one (s_ret (e_comp rfl nd (i_seq rfl (e_var (pv 0))) (blkOk_by (own := [(st "mark", 1)]) (N := N_lap_bits) (sc := defScope s_lap_bits) (by decide +kernel)) (fun _ _ _ _ _ => pg_name (i := 1) nd rfl (by first | exact Or.inl rfl | exact Or.inr rfl)) (fun _ _ _ _ _ => tst_nil) (fun _ _ _ _ _ => (e_op o_div (e_var (pv 1)) e_int)))))
abbrev s_giver_turn : Stmt := top 39
abbrev N_giver_turn : List Str := ["marks"]
theorem sc_giver_turn : FnScope N_giver_turn ["marks"] (defScope s_giver_turn) := ⟨rfl, rfl, rfl, by decide +kernel, rfl, by decide +kernel, by decide +kernel⟩
theorem ok_giver_turn (f_look_at_marks : FnM (TT K) P w mg base 3 "look_at_marks" ["marks"] F_look_at_marks) (f_front : FnM (TT K) P w mg base 3 "front" ["bits"] F_front) (f_lap_bits : FnM (TT K) P w mg base 2 "lap_bits" ["marks"] F_lap_bits) (D : ∃ fd, FunD K (st "giver_turn") (st "giver_turn") (defArgs s_giver_turn) (defBody s_giver_turn) (defScope s_giver_turn) [] [] (He.ga K (st "giver_turn")) fd) (at_ : mg (st "giver_turn") = some (.ref (He.ga K (st "giver_turn")))) :
    FnM (TT K) P w mg base 4 "giver_turn" ["marks"] F_giver_turn := by
  rw [F_giver_turn_eq]
  refine fnM_mk (T := TT K) D at_ sc_giver_turn rfl rfl (fun _ _ _ _ _ _ us hl => match us, hl with | [_], _ => rfl) fun cdv A outer s H E hr => ?_
  have tk := takes_of (X := cxOf (L2.CX P w) P w K mg base N_giver_turn (st "giver_turn") (defScope s_giver_turn) (He.ga K (st "giver_turn")) cdv A outer s H E) rfl rfl rfl rfl
  have po : PassesOwn _ (cxOf (L2.CX P w) P w K mg base N_giver_turn (st "giver_turn") (defScope s_giver_turn) (He.ga K (st "giver_turn")) cdv A outer s H E).A _ (cxOf (L2.CX P w) P w K mg base N_giver_turn (st "giver_turn") (defScope s_giver_turn) (He.ga K (st "giver_turn")) cdv A outer s H E).xe := passes_of rfl
  have nd := sc_giver_turn.nd
  have hu64 := hr.units
  have hu1 := Nat.lt_of_le_of_lt (Nat.add_le_add_left (by decide : 1 ≤ 64) _) hu64
  exact (ss_cons (s_ex (e_call rfl tk f_look_at_marks (by decide) hr rfl (a_cons (e_var (pv 0)) a_nil) (by decide)))
  (ss_one (s_ret (e_call rfl tk f_front (by decide) hr rfl (a_cons (e_call rfl tk f_lap_bits (by decide) hr rfl (a_cons (e_var (pv 0)) a_nil) (by decide)) a_nil) (by decide)))))
abbrev s_Giver_remember : Stmt := sub (top 47) 7
abbrev N_Giver_remember : List Str := ["self", "size", "place", "left"]
theorem sc_Giver_remember : FnScope N_Giver_remember ["self"] (defScope s_Giver_remember) := ⟨rfl, rfl, rfl, by decide +kernel, rfl, by decide +kernel, by decide +kernel⟩
theorem ok_Giver_remember {c : String} (hcl : ClsF (TT K)) (na_board : NoF (TT K) "board") (na_size : NoF (TT K) "size") (f_place_of : FnM (TT K) P w mg base 4 "place_of" ["size", "turn"] F_place_of) (f_onward : FnM (TT K) P w mg base 4 "onward" ["size", "turn", "many"] F_onward) (na_spot : NoF (TT K) "spot") (na_here : NoF (TT K) "here") (mt_Board_read : MtM (TT K) P w mg base 3 "Board" "read" ["self", "cell"] F_Board_read) (f_number_cell : FnM (TT K) P w mg base 2 "number_cell" ["place"] F_number_cell) (na_at : NoF (TT K) "at") (f_left_cell : FnM (TT K) P w mg base 2 "left_cell" ["place"] F_left_cell) (na_part : NoF (TT K) "part") (m_len : mg (st "len") = none) (na_wares : NoF (TT K) "wares") (D : ∃ fd, FunD K (st "remember") (st "Giver.remember") (defArgs s_Giver_remember) (defBody s_Giver_remember) (defScope s_Giver_remember) [] [] (He.ma K (clA K c) (st "remember")) fd) (at_ : Meth K (clA K c) (st "remember") (He.ma K (clA K c) (st "remember"))) : MtM (TT K) P w mg base 5 c "remember" ["self"] F_Giver_remember := by
  rw [F_Giver_remember_eq]
  refine mtM_mk (T := TT K) D at_ sc_Giver_remember rfl rfl (fun _ _ _ _ _ _ us hl => match us, hl with | [_], _ => rfl) fun cdv A outer s H E hr => ?_
  have tk := takes_of (X := cxOf (L2.CX P w) P w K mg base N_Giver_remember (st "Giver.remember") (defScope s_Giver_remember) (He.ma K (clA K c) (st "remember")) cdv A outer s H E) rfl rfl rfl rfl
  have po : PassesOwn _ (cxOf (L2.CX P w) P w K mg base N_Giver_remember (st "Giver.remember") (defScope s_Giver_remember) (He.ma K (clA K c) (st "remember")) cdv A outer s H E).A _ (cxOf (L2.CX P w) P w K mg base N_Giver_remember (st "Giver.remember") (defScope s_Giver_remember) (He.ma K (clA K c) (st "remember")) cdv A outer s H E).xe := passes_of rfl
  have nd := sc_Giver_remember.nd
  have hu64 := hr.units
  have hu1 := Nat.lt_of_le_of_lt (Nat.add_le_add_left (by decide : 1 ≤ 64) _) hu64
  exact (ss_cons (s_set (i := 1) (fun _ h => ps_set (i := 1) nd rfl (by first | exact Or.inl rfl | exact Or.inr rfl) h) (e_fld rfl hcl na_size.na (e_fld rfl hcl na_board.na (e_var (pv 0)) (by rfl)) (by rfl)))
  (ss_cons (s_set (i := 2) (fun _ h => ps_set (i := 2) nd rfl (by first | exact Or.inl rfl | exact Or.inr rfl) h) (e_call rfl tk f_place_of (by decide) hr rfl (a_cons (e_var (pv 1)) (a_cons (e_call rfl tk f_onward (by decide) hr rfl (a_cons (e_var (pv 1)) (a_cons (e_fld rfl hcl na_spot.na (e_var (pv 0)) (by rfl)) (a_cons (e_un u_neg e_int) a_nil))) (by decide)) a_nil)) (by decide)))
  (ss_one (s_if (t_cmp (o_eq rfl hu64) (e_fld rfl hcl na_here.na (e_var (pv 0)) (by rfl)) e_str (nomark _)) (ss_cons (s_fld rfl hcl na_at.na na_at.mem (e_var (pv 0)) (e_meth rfl tk hcl (MtAll.one mt_Board_read (by decide)) (show _ ∉ FLS by decide) hr (e_fld rfl hcl na_board.na (e_var (pv 0)) (by rfl)) (a_cons (e_call rfl tk f_number_cell (by decide) hr rfl (a_cons (e_var (pv 2)) a_nil) (by decide)) a_nil)))
  (ss_one (s_fld rfl hcl na_here.na na_here.mem (e_var (pv 0)) e_str))) (ss_cons (s_set (i := 3) (fun _ h => ps_set (i := 3) nd rfl (by first | exact Or.inl rfl | exact Or.inr rfl) h) (e_meth rfl tk hcl (MtAll.one mt_Board_read (by decide)) (show _ ∉ FLS by decide) hr (e_fld rfl hcl na_board.na (e_var (pv 0)) (by rfl)) (a_cons (e_call rfl tk f_left_cell (by decide) hr rfl (a_cons (e_var (pv 2)) a_nil) (by decide)) a_nil)))
  (ss_cons (s_fld rfl hcl na_here.na na_here.mem (e_var (pv 0)) e_str)
  (ss_cons (s_fld rfl hcl na_part.na na_part.mem (e_var (pv 0)) e_int)
  (ss_one (s_if (PW.pt (t_and (t_cmp o_ge (e_fld rfl hcl na_at.na (e_var (pv 0)) (by rfl)) e_int (nomark _)) (t_and1 (t_cmp o_gt (e_var (pv 3)) e_int (nomark _))))) (ss_one (s_fld rfl hcl na_part.na na_part.mem (e_var (pv 0)) (e_op o_sub (e_b (b_len rfl) rfl m_len (by decide +kernel) (a_cons (e_ix rfl hu1 (e_fld rfl hcl na_wares.na (e_var (pv 0)) (by rfl)) (e_fld rfl hcl na_at.na (e_var (pv 0)) (by rfl)) (fun _ _ => rfl)) a_nil) (by decide) (by decide)) (e_var (pv 3))))) (ss_one (s_fld rfl hcl na_at.na na_at.mem (e_var (pv 0)) (e_op (o_add rfl) (e_fld rfl hcl na_at.na (e_var (pv 0)) (by rfl)) e_int))))))))))))
abbrev s_full_mark : Stmt := top 30
abbrev N_full_mark : List Str := ["size", "turn"]
theorem sc_full_mark : FnScope N_full_mark ["size", "turn"] (defScope s_full_mark) := ⟨rfl, rfl, rfl, by decide +kernel, rfl, by decide +kernel, by decide +kernel⟩
theorem ok_full_mark (f_lap_of : FnM (TT K) P w mg base 4 "lap_of" ["size", "turn"] F_lap_of) (D : ∃ fd, FunD K (st "full_mark") (st "full_mark") (defArgs s_full_mark) (defBody s_full_mark) (defScope s_full_mark) [] [] (He.ga K (st "full_mark")) fd) (at_ : mg (st "full_mark") = some (.ref (He.ga K (st "full_mark")))) :
    FnM (TT K) P w mg base 5 "full_mark" ["size", "turn"] F_full_mark := by
  rw [F_full_mark_eq]
  refine fnM_mk (T := TT K) D at_ sc_full_mark rfl rfl (fun _ _ _ _ _ _ us hl => match us, hl with | [_, _], _ => rfl) fun cdv A outer s H E hr => ?_
  have tk := takes_of (X := cxOf (L2.CX P w) P w K mg base N_full_mark (st "full_mark") (defScope s_full_mark) (He.ga K (st "full_mark")) cdv A outer s H E) rfl rfl rfl rfl
  have po : PassesOwn _ (cxOf (L2.CX P w) P w K mg base N_full_mark (st "full_mark") (defScope s_full_mark) (He.ga K (st "full_mark")) cdv A outer s H E).A _ (cxOf (L2.CX P w) P w K mg base N_full_mark (st "full_mark") (defScope s_full_mark) (He.ga K (st "full_mark")) cdv A outer s H E).xe := passes_of rfl
  have nd := sc_full_mark.nd
  have hu64 := hr.units
  have hu1 := Nat.lt_of_le_of_lt (Nat.add_le_add_left (by decide : 1 ≤ 64) _) hu64
  exact (ss_one (s_ret (e_op (o_add rfl) (e_op o_mul e_int (e_call rfl tk f_lap_of (by decide) hr rfl (a_cons (e_var (pv 0)) (a_cons (e_var (pv 1)) a_nil)) (by decide))) e_int)))
abbrev s_Giver_go_on : Stmt := sub (top 47) 9
abbrev N_Giver_go_on : List Str := ["self"]
theorem sc_Giver_go_on : FnScope N_Giver_go_on ["self"] (defScope s_Giver_go_on) := ⟨rfl, rfl, rfl, by decide +kernel, rfl, by decide +kernel, by decide +kernel⟩
theorem ok_Giver_go_on {c : String} (hcl : ClsF (TT K)) (na_here : NoF (TT K) "here") (f_onward : FnM (TT K) P w mg base 4 "onward" ["size", "turn", "many"] F_onward) (na_spot : NoF (TT K) "spot") (na_board : NoF (TT K) "board") (na_size : NoF (TT K) "size") (na_part : NoF (TT K) "part") (m_len : mg (st "len") = none) (na_wares : NoF (TT K) "wares") (na_at : NoF (TT K) "at") (D : ∃ fd, FunD K (st "go_on") (st "Giver.go_on") (defArgs s_Giver_go_on) (defBody s_Giver_go_on) (defScope s_Giver_go_on) [] [] (He.ma K (clA K c) (st "go_on")) fd) (at_ : Meth K (clA K c) (st "go_on") (He.ma K (clA K c) (st "go_on"))) : MtM (TT K) P w mg base 5 c "go_on" ["self"] F_Giver_go_on := by
  rw [F_Giver_go_on_eq]
  refine mtM_mk (T := TT K) D at_ sc_Giver_go_on rfl rfl (fun _ _ _ _ _ _ us hl => match us, hl with | [_], _ => rfl) fun cdv A outer s H E hr => ?_
  have tk := takes_of (X := cxOf (L2.CX P w) P w K mg base N_Giver_go_on (st "Giver.go_on") (defScope s_Giver_go_on) (He.ma K (clA K c) (st "go_on")) cdv A outer s H E) rfl rfl rfl rfl
  have po : PassesOwn _ (cxOf (L2.CX P w) P w K mg base N_Giver_go_on (st "Giver.go_on") (defScope s_Giver_go_on) (He.ma K (clA K c) (st "go_on")) cdv A outer s H E).A _ (cxOf (L2.CX P w) P w K mg base N_Giver_go_on (st "Giver.go_on") (defScope s_Giver_go_on) (He.ma K (clA K c) (st "go_on")) cdv A outer s H E).xe := passes_of rfl
  have nd := sc_Giver_go_on.nd
  have hu64 := hr.units
  have hu1 := Nat.lt_of_le_of_lt (Nat.add_le_add_left (by decide : 1 ≤ 64) _) hu64
  exact (ss_cons (s_fld rfl hcl na_here.na na_here.mem (e_var (pv 0)) e_str)
  (ss_cons (s_fld rfl hcl na_spot.na na_spot.mem (e_var (pv 0)) (e_call rfl tk f_onward (by decide) hr rfl (a_cons (e_fld rfl hcl na_size.na (e_fld rfl hcl na_board.na (e_var (pv 0)) (by rfl)) (by rfl)) (a_cons (e_fld rfl hcl na_spot.na (e_var (pv 0)) (by rfl)) (a_cons e_int a_nil))) (by decide)))
  (ss_cons (s_fld rfl hcl na_part.na na_part.mem (e_var (pv 0)) (e_op (o_add rfl) (e_fld rfl hcl na_part.na (e_var (pv 0)) (by rfl)) e_int))
  (ss_one (s_if (t_cmp (o_eq rfl hu64) (e_fld rfl hcl na_part.na (e_var (pv 0)) (by rfl)) (e_b (b_len rfl) rfl m_len (by decide +kernel) (a_cons (e_ix rfl hu1 (e_fld rfl hcl na_wares.na (e_var (pv 0)) (by rfl)) (e_fld rfl hcl na_at.na (e_var (pv 0)) (by rfl)) (fun _ _ => rfl)) a_nil) (by decide) (by decide)) (nomark _)) (ss_cons (s_fld rfl hcl na_at.na na_at.mem (e_var (pv 0)) (e_op (o_add rfl) (e_fld rfl hcl na_at.na (e_var (pv 0)) (by rfl)) e_int))
  (ss_one (s_fld rfl hcl na_part.na na_part.mem (e_var (pv 0)) e_int))) ss_nil)))))
abbrev s_Giver_give : Stmt := sub (top 47) 8
abbrev N_Giver_give : List Str := ["self", "size", "place", "order"]
theorem sc_Giver_give : FnScope N_Giver_give ["self"] (defScope s_Giver_give) := ⟨rfl, rfl, rfl, by decide +kernel, rfl, by decide +kernel, by decide +kernel⟩
theorem ok_Giver_give {c : String} (hcl : ClsF (TT K)) (na_board : NoF (TT K) "board") (na_size : NoF (TT K) "size") (f_place_of : FnM (TT K) P w mg base 4 "place_of" ["size", "turn"] F_place_of) (na_spot : NoF (TT K) "spot") (na_wares : NoF (TT K) "wares") (na_at : NoF (TT K) "at") (na_here : NoF (TT K) "here") (mt_Giver_may : MtM (TT K) P w mg base 6 "Giver" "may" ["self", "mark"] F_Giver_may) (mt_Giver_mark_there : MtM (TT K) P w mg base 5 "Giver" "mark_there" ["self"] F_Hand_mark_there) (mt_Board_write : MtM (TT K) P w mg base 3 "Board" "write" ["self", "cell", "number"] F_Board_write) (f_number_cell : FnM (TT K) P w mg base 2 "number_cell" ["place"] F_number_cell) (m_len : mg (st "len") = none) (na_part : NoF (TT K) "part") (f_left_cell : FnM (TT K) P w mg base 2 "left_cell" ["place"] F_left_cell) (f_thing_cell : FnM (TT K) P w mg base 2 "thing_cell" ["place"] F_thing_cell) (f_full_mark : FnM (TT K) P w mg base 5 "full_mark" ["size", "turn"] F_full_mark) (f_mark_cell : FnM (TT K) P w mg base 2 "mark_cell" ["place"] F_mark_cell) (mt_Board_read : MtM (TT K) P w mg base 3 "Board" "read" ["self", "cell"] F_Board_read) (f_card_cell : FnM (TT K) P w mg base 3 "card_cell" ["size", "hand"] F_card_cell) (f_bell_cell : FnM (TT K) P w mg base 3 "bell_cell" ["size", "hand"] F_bell_cell) (mt_Giver_go_on : MtM (TT K) P w mg base 5 "Giver" "go_on" ["self"] F_Giver_go_on) (D : ∃ fd, FunD K (st "give") (st "Giver.give") (defArgs s_Giver_give) (defBody s_Giver_give) (defScope s_Giver_give) [] [] (He.ma K (clA K c) (st "give")) fd) (at_ : Meth K (clA K c) (st "give") (He.ma K (clA K c) (st "give"))) : MtM (TT K) P w mg base 7 c "give" ["self"] F_Giver_give := by
  rw [F_Giver_give_eq]
  refine mtM_mk (T := TT K) D at_ sc_Giver_give rfl rfl (fun _ _ _ _ _ _ us hl => match us, hl with | [_], _ => rfl) fun cdv A outer s H E hr => ?_
  have tk := takes_of (X := cxOf (L2.CX P w) P w K mg base N_Giver_give (st "Giver.give") (defScope s_Giver_give) (He.ma K (clA K c) (st "give")) cdv A outer s H E) rfl rfl rfl rfl
  have po : PassesOwn _ (cxOf (L2.CX P w) P w K mg base N_Giver_give (st "Giver.give") (defScope s_Giver_give) (He.ma K (clA K c) (st "give")) cdv A outer s H E).A _ (cxOf (L2.CX P w) P w K mg base N_Giver_give (st "Giver.give") (defScope s_Giver_give) (He.ma K (clA K c) (st "give")) cdv A outer s H E).xe := passes_of rfl
  have nd := sc_Giver_give.nd
  have hu64 := hr.units
  have hu1 := Nat.lt_of_le_of_lt (Nat.add_le_add_left (by decide : 1 ≤ 64) _) hu64
  exact (ss_cons (s_set (i := 1) (fun _ h => ps_set (i := 1) nd rfl (by first | exact Or.inl rfl | exact Or.inr rfl) h) (e_fld rfl hcl na_size.na (e_fld rfl hcl na_board.na (e_var (pv 0)) (by rfl)) (by rfl)))
  (ss_cons (s_set (i := 2) (fun _ h => ps_set (i := 2) nd rfl (by first | exact Or.inl rfl | exact Or.inr rfl) h) (e_call rfl tk f_place_of (by decide) hr rfl (a_cons (e_var (pv 1)) (a_cons (e_fld rfl hcl na_spot.na (e_var (pv 0)) (by rfl)) a_nil)) (by decide)))
  (ss_cons (s_set (i := 3) (fun _ h => ps_set (i := 3) nd rfl (by first | exact Or.inl rfl | exact Or.inr rfl) h) (e_ix rfl hu1 (e_fld rfl hcl na_wares.na (e_var (pv 0)) (by rfl)) (e_fld rfl hcl na_at.na (e_var (pv 0)) (by rfl)) (fun _ _ => rfl)))
  (ss_one (s_if (t_cmp (o_eq rfl hu64) (e_fld rfl hcl na_here.na (e_var (pv 0)) (by rfl)) e_str (nomark _)) (ss_one (s_fld rfl hcl na_here.na na_here.mem (e_var (pv 0)) (e_if (t_tru rfl (e_meth rfl tk hcl (MtAll.one mt_Giver_may (by decide)) (show _ ∉ FLS by decide) hr (e_var (pv 0)) (a_cons (e_meth0 rfl tk hcl (MtAll.one mt_Giver_mark_there (by decide)) (show _ ∉ FLS by decide) hr (e_var (pv 0))) a_nil)) (by intro _; rfl)) e_str e_str))) (ss_one (s_if (t_cmp (o_eq rfl hu64) (e_fld rfl hcl na_here.na (e_var (pv 0)) (by rfl)) e_str (nomark _)) (ss_cons (s_ex (e_meth rfl tk hcl (MtAll.one mt_Board_write (by decide)) (show _ ∉ FLS by decide) hr (e_fld rfl hcl na_board.na (e_var (pv 0)) (by rfl)) (a_cons (e_call rfl tk f_number_cell (by decide) hr rfl (a_cons (e_var (pv 2)) a_nil) (by decide)) (a_cons (e_fld rfl hcl na_at.na (e_var (pv 0)) (by rfl)) a_nil))))
  (ss_one (s_fld rfl hcl na_here.na na_here.mem (e_var (pv 0)) e_str))) (ss_one (s_if (t_cmp (o_eq rfl hu64) (e_fld rfl hcl na_here.na (e_var (pv 0)) (by rfl)) e_str (nomark _)) (ss_cons (s_ex (e_meth rfl tk hcl (MtAll.one mt_Board_write (by decide)) (show _ ∉ FLS by decide) hr (e_fld rfl hcl na_board.na (e_var (pv 0)) (by rfl)) (a_cons (e_call rfl tk f_left_cell (by decide) hr rfl (a_cons (e_var (pv 2)) a_nil) (by decide)) (a_cons (e_op o_sub (e_op o_sub (e_b (b_len rfl) rfl m_len (by decide +kernel) (a_cons (e_var (pv 3)) a_nil) (by decide) (by decide)) e_int) (e_fld rfl hcl na_part.na (e_var (pv 0)) (by rfl))) a_nil))))
  (ss_one (s_fld rfl hcl na_here.na na_here.mem (e_var (pv 0)) e_str))) (ss_one (s_if (t_cmp (o_eq rfl hu64) (e_fld rfl hcl na_here.na (e_var (pv 0)) (by rfl)) e_str (nomark _)) (ss_cons (s_ex (e_meth rfl tk hcl (MtAll.one mt_Board_write (by decide)) (show _ ∉ FLS by decide) hr (e_fld rfl hcl na_board.na (e_var (pv 0)) (by rfl)) (a_cons (e_call rfl tk f_thing_cell (by decide) hr rfl (a_cons (e_var (pv 2)) a_nil) (by decide)) (a_cons (e_ix rfl hu1 (e_var (pv 3)) (e_fld rfl hcl na_part.na (e_var (pv 0)) (by rfl)) (fun _ _ => rfl)) a_nil))))
  (ss_one (s_fld rfl hcl na_here.na na_here.mem (e_var (pv 0)) e_str))) (ss_one (s_if (t_cmp (o_eq rfl hu64) (e_fld rfl hcl na_here.na (e_var (pv 0)) (by rfl)) e_str (nomark _)) (ss_cons (s_ex (e_meth rfl tk hcl (MtAll.one mt_Board_write (by decide)) (show _ ∉ FLS by decide) hr (e_fld rfl hcl na_board.na (e_var (pv 0)) (by rfl)) (a_cons (e_call rfl tk f_mark_cell (by decide) hr rfl (a_cons (e_var (pv 2)) a_nil) (by decide)) (a_cons (e_call rfl tk f_full_mark (by decide) hr rfl (a_cons (e_var (pv 1)) (a_cons (e_fld rfl hcl na_spot.na (e_var (pv 0)) (by rfl)) a_nil)) (by decide)) a_nil))))
  (ss_one (s_fld rfl hcl na_here.na na_here.mem (e_var (pv 0)) e_str))) (ss_one (s_if (PW.pt (t_and (t_cmp (o_eq rfl hu64) (e_fld rfl hcl na_here.na (e_var (pv 0)) (by rfl)) e_str (nomark _)) (t_and1 (t_cmp (o_eq rfl hu64) (e_meth rfl tk hcl (MtAll.one mt_Board_read (by decide)) (show _ ∉ FLS by decide) hr (e_fld rfl hcl na_board.na (e_var (pv 0)) (by rfl)) (a_cons (e_call rfl tk f_card_cell (by decide) hr rfl (a_cons (e_var (pv 1)) (a_cons e_str a_nil)) (by decide)) a_nil)) (e_fld rfl hcl na_spot.na (e_var (pv 0)) (by rfl)) (nomark _))))) (ss_one (s_fld rfl hcl na_here.na na_here.mem (e_var (pv 0)) e_str)) (ss_one (s_if (t_cmp (o_eq rfl hu64) (e_fld rfl hcl na_here.na (e_var (pv 0)) (by rfl)) e_str (nomark _)) (ss_cons (s_ex (e_meth rfl tk hcl (MtAll.one mt_Board_write (by decide)) (show _ ∉ FLS by decide) hr (e_fld rfl hcl na_board.na (e_var (pv 0)) (by rfl)) (a_cons (e_call rfl tk f_bell_cell (by decide) hr rfl (a_cons (e_var (pv 1)) (a_cons e_str a_nil)) (by decide)) (a_cons e_int a_nil))))
  (ss_one (s_ex (e_meth0 rfl tk hcl (MtAll.one mt_Giver_go_on (by decide)) (show _ ∉ FLS by decide) hr (e_var (pv 0)))))) (ss_one (s_ex (e_meth0 rfl tk hcl (MtAll.one mt_Giver_go_on (by decide)) (show _ ∉ FLS by decide) hr (e_var (pv 0))))))))))))))))))))))
abbrev s_Giver_step : Stmt := sub (top 47) 6
abbrev N_Giver_step : List Str := ["self"]
theorem sc_Giver_step : FnScope N_Giver_step ["self"] (defScope s_Giver_step) := ⟨rfl, rfl, rfl, by decide +kernel, rfl, by decide +kernel, by decide +kernel⟩
theorem ok_Giver_step {c : String} (mt_Giver_rests : MtM (TT K) P w mg base 2 "Giver" "rests" ["self"] F_Giver_rests) (hcl : ClsF (TT K)) (na_here : NoF (TT K) "here") (c_RISING : TupF (TT K) mg "RISING" ["rouse", "clear", "mute", "marks"]) (mt_Giver_rise : MtM (TT K) P w mg base 4 "Giver" "rise" ["self"] F_Hand_rise) (f_giver_turn : FnM (TT K) P w mg base 4 "giver_turn" ["marks"] F_giver_turn) (na_seen : NoF (TT K) "seen") (na_spot : NoF (TT K) "spot") (c_WAITING : TupF (TT K) mg "WAITING" ["wish", "again", "sleep", "hush", "unwish"]) (mt_Giver_wait : MtM (TT K) P w mg base 7 "Giver" "wait" ["self"] F_Hand_wait) (mt_Giver_remember : MtM (TT K) P w mg base 5 "Giver" "remember" ["self"] F_Giver_remember) (mt_Giver_give : MtM (TT K) P w mg base 7 "Giver" "give" ["self"] F_Giver_give) (D : ∃ fd, FunD K (st "step") (st "Giver.step") (defArgs s_Giver_step) (defBody s_Giver_step) (defScope s_Giver_step) [] [] (He.ma K (clA K c) (st "step")) fd) (at_ : Meth K (clA K c) (st "step") (He.ma K (clA K c) (st "step"))) : MtM (TT K) P w mg base 8 c "step" ["self"] F_Giver_step := by
  rw [F_Giver_step_eq]
  refine mtM_mk (T := TT K) D at_ sc_Giver_step rfl rfl (fun _ _ _ _ _ _ us hl => match us, hl with | [_], _ => rfl) fun cdv A outer s H E hr => ?_
  have tk := takes_of (X := cxOf (L2.CX P w) P w K mg base N_Giver_step (st "Giver.step") (defScope s_Giver_step) (He.ma K (clA K c) (st "step")) cdv A outer s H E) rfl rfl rfl rfl
  have po : PassesOwn _ (cxOf (L2.CX P w) P w K mg base N_Giver_step (st "Giver.step") (defScope s_Giver_step) (He.ma K (clA K c) (st "step")) cdv A outer s H E).A _ (cxOf (L2.CX P w) P w K mg base N_Giver_step (st "Giver.step") (defScope s_Giver_step) (He.ma K (clA K c) (st "step")) cdv A outer s H E).xe := passes_of rfl
  have nd := sc_Giver_step.nd
  have hu64 := hr.units
  have hu1 := Nat.lt_of_le_of_lt (Nat.add_le_add_left (by decide : 1 ≤ 64) _) hu64
  exact (ss_cons (s_if (t_tru rfl (e_meth0 rfl tk hcl (MtAll.one mt_Giver_rests (by decide)) (show _ ∉ FLS by decide) hr (e_var (pv 0))) (by intro _; rfl)) (ss_one (s_ret e_bl)) ss_nil)
  (ss_cons (s_if (t_cmp (o_in rfl hu1) (e_fld rfl hcl na_here.na (e_var (pv 0)) (by rfl)) (e_gstrs (ss := ["rouse", "clear", "mute", "marks"]) c_RISING rfl (by decide)) (by rfl)) (ss_one (s_if (t_tru rfl (e_meth0 rfl tk hcl (MtAll.one mt_Giver_rise (by decide)) (show _ ∉ FLS by decide) hr (e_var (pv 0))) (by intro _; rfl)) (ss_cons (s_fld rfl hcl na_spot.na na_spot.mem (e_var (pv 0)) (e_call rfl tk f_giver_turn (by decide) hr rfl (a_cons (e_fld rfl hcl na_seen.na (e_var (pv 0)) (by rfl)) a_nil) (by decide)))
  (ss_one (s_fld rfl hcl na_here.na na_here.mem (e_var (pv 0)) e_str))) ss_nil)) (ss_one (s_if (t_cmp (o_in rfl hu1) (e_fld rfl hcl na_here.na (e_var (pv 0)) (by rfl)) (e_gstrs (ss := ["wish", "again", "sleep", "hush", "unwish"]) c_WAITING rfl (by decide)) (by rfl)) (ss_one (s_ex (e_meth0 rfl tk hcl (MtAll.one mt_Giver_wait (by decide)) (show _ ∉ FLS by decide) hr (e_var (pv 0))))) (ss_one (s_if (PW.pt (t_or (t_cmp (o_eq rfl hu64) (e_fld rfl hcl na_here.na (e_var (pv 0)) (by rfl)) e_str (nomark _)) (t_or1 (t_cmp (o_eq rfl hu64) (e_fld rfl hcl na_here.na (e_var (pv 0)) (by rfl)) e_str (nomark _))))) (ss_one (s_ex (e_meth0 rfl tk hcl (MtAll.one mt_Giver_remember (by decide)) (show _ ∉ FLS by decide) hr (e_var (pv 0))))) (ss_one (s_ex (e_meth0 rfl tk hcl (MtAll.one mt_Giver_give (by decide)) (show _ ∉ FLS by decide) hr (e_var (pv 0))))))))))
  (ss_one (s_ret e_bl))))
abbrev s_Lane_hand_of : Stmt := sub (top 51) 2
abbrev N_Lane_hand_of : List Str := ["self", "name"]
theorem sc_Lane_hand_of : FnScope N_Lane_hand_of ["self", "name"] (defScope s_Lane_hand_of) := ⟨rfl, rfl, rfl, by decide +kernel, rfl, by decide +kernel, by decide +kernel⟩
theorem ok_Lane_hand_of {c : String} (f_look_at_hand : FnM (TT K) P w mg base 2 "look_at_hand" ["hand"] F_look_at_hand) (hcl : ClsF (TT K)) (na_giver : NoF (TT K) "giver") (na_taker : NoF (TT K) "taker") (D : ∃ fd, FunD K (st "hand_of") (st "Lane.hand_of") (defArgs s_Lane_hand_of) (defBody s_Lane_hand_of) (defScope s_Lane_hand_of) [] [] (He.ma K (clA K c) (st "hand_of")) fd) (at_ : Meth K (clA K c) (st "hand_of") (He.ma K (clA K c) (st "hand_of"))) : MtM (TT K) P w mg base 3 c "hand_of" ["self", "name"] F_Lane_hand_of := by
  rw [F_Lane_hand_of_eq]
  refine mtM_mk (T := TT K) D at_ sc_Lane_hand_of rfl rfl (fun _ _ _ _ _ _ us hl => match us, hl with | [_, _], _ => rfl) fun cdv A outer s H E hr => ?_
  have tk := takes_of (X := cxOf (L2.CX P w) P w K mg base N_Lane_hand_of (st "Lane.hand_of") (defScope s_Lane_hand_of) (He.ma K (clA K c) (st "hand_of")) cdv A outer s H E) rfl rfl rfl rfl
  have po : PassesOwn _ (cxOf (L2.CX P w) P w K mg base N_Lane_hand_of (st "Lane.hand_of") (defScope s_Lane_hand_of) (He.ma K (clA K c) (st "hand_of")) cdv A outer s H E).A _ (cxOf (L2.CX P w) P w K mg base N_Lane_hand_of (st "Lane.hand_of") (defScope s_Lane_hand_of) (He.ma K (clA K c) (st "hand_of")) cdv A outer s H E).xe := passes_of rfl
  have nd := sc_Lane_hand_of.nd
  have hu64 := hr.units
  have hu1 := Nat.lt_of_le_of_lt (Nat.add_le_add_left (by decide : 1 ≤ 64) _) hu64
  exact (ss_cons (s_ex (e_call rfl tk f_look_at_hand (by decide) hr rfl (a_cons (e_var (pv 1)) a_nil) (by decide)))
  (ss_cons (s_if (t_cmp (o_eq rfl hu64) (e_var (pv 1)) e_str (nomark _)) (ss_one (s_ret (e_fld rfl hcl na_giver.na (e_var (pv 0)) (by rfl)))) ss_nil)
  (ss_one (s_ret (e_fld rfl hcl na_taker.na (e_var (pv 0)) (by rfl))))))
abbrev s_Board_last_touch : Stmt := sub (top 27) 8
abbrev N_Board_last_touch : List Str := ["self"]
theorem sc_Board_last_touch : FnScope N_Board_last_touch ["self"] (defScope s_Board_last_touch) := ⟨rfl, rfl, rfl, by decide +kernel, rfl, by decide +kernel, by decide +kernel⟩
theorem ok_Board_last_touch {c : String} (hcl : ClsF (TT K)) (na_latest : NoF (TT K) "latest") (D : ∃ fd, FunD K (st "last_touch") (st "Board.last_touch") (defArgs s_Board_last_touch) (defBody s_Board_last_touch) (defScope s_Board_last_touch) [] [] (He.ma K (clA K c) (st "last_touch")) fd) (at_ : Meth K (clA K c) (st "last_touch") (He.ma K (clA K c) (st "last_touch"))) : MtM (TT K) P w mg base 2 c "last_touch" ["self"] F_Board_last_touch := by
  rw [F_Board_last_touch_eq]
  refine mtM_mk (T := TT K) D at_ sc_Board_last_touch rfl rfl (fun _ _ _ _ _ _ us hl => match us, hl with | [_], _ => rfl) fun cdv A outer s H E hr => ?_
  have tk := takes_of (X := cxOf (L2.CX P w) P w K mg base N_Board_last_touch (st "Board.last_touch") (defScope s_Board_last_touch) (He.ma K (clA K c) (st "last_touch")) cdv A outer s H E) rfl rfl rfl rfl
  have po : PassesOwn _ (cxOf (L2.CX P w) P w K mg base N_Board_last_touch (st "Board.last_touch") (defScope s_Board_last_touch) (He.ma K (clA K c) (st "last_touch")) cdv A outer s H E).A _ (cxOf (L2.CX P w) P w K mg base N_Board_last_touch (st "Board.last_touch") (defScope s_Board_last_touch) (He.ma K (clA K c) (st "last_touch")) cdv A outer s H E).xe := passes_of rfl
  have nd := sc_Board_last_touch.nd
  have hu64 := hr.units
  have hu1 := Nat.lt_of_le_of_lt (Nat.add_le_add_left (by decide : 1 ≤ 64) _) hu64
  exact (ss_one (s_ret (e_fld rfl hcl na_latest.na (e_var (pv 0)) (by rfl))))
abbrev s_Lane_step : Stmt := sub (top 51) 3
abbrev N_Lane_step : List Str := ["self", "name"]
theorem sc_Lane_step : FnScope N_Lane_step ["self", "name"] (defScope s_Lane_step) := ⟨rfl, rfl, rfl, by decide +kernel, rfl, by decide +kernel, by decide +kernel⟩
theorem ok_Lane_step {c : String} (mt_Taker_step : MtM (TT K) P w mg base 8 "Taker" "step" ["self"] F_Taker_step) (mt_Giver_step : MtM (TT K) P w mg base 8 "Giver" "step" ["self"] F_Giver_step) (hcl : ClsF (TT K)) (mt_Lane_hand_of : MtM (TT K) P w mg base 3 "Lane" "hand_of" ["self", "name"] F_Lane_hand_of) (na_walked : NoF (TT K) "walked") (mt_Board_last_touch : MtM (TT K) P w mg base 2 "Board" "last_touch" ["self"] F_Board_last_touch) (na_board : NoF (TT K) "board") (D : ∃ fd, FunD K (st "step") (st "Lane.step") (defArgs s_Lane_step) (defBody s_Lane_step) (defScope s_Lane_step) [] [] (He.ma K (clA K c) (st "step")) fd) (at_ : Meth K (clA K c) (st "step") (He.ma K (clA K c) (st "step"))) : MtM (TT K) P w mg base 9 c "step" ["self", "name"] F_Lane_step := by
  rw [F_Lane_step_eq]
  refine mtM_mk (T := TT K) D at_ sc_Lane_step rfl rfl (fun _ _ _ _ _ _ us hl => match us, hl with | [_, _], _ => rfl) fun cdv A outer s H E hr => ?_
  have tk := takes_of (X := cxOf (L2.CX P w) P w K mg base N_Lane_step (st "Lane.step") (defScope s_Lane_step) (He.ma K (clA K c) (st "step")) cdv A outer s H E) rfl rfl rfl rfl
  have po : PassesOwn _ (cxOf (L2.CX P w) P w K mg base N_Lane_step (st "Lane.step") (defScope s_Lane_step) (He.ma K (clA K c) (st "step")) cdv A outer s H E).A _ (cxOf (L2.CX P w) P w K mg base N_Lane_step (st "Lane.step") (defScope s_Lane_step) (He.ma K (clA K c) (st "step")) cdv A outer s H E).xe := passes_of rfl
  have nd := sc_Lane_step.nd
  have hu64 := hr.units
  have hu1 := Nat.lt_of_le_of_lt (Nat.add_le_add_left (by decide : 1 ≤ 64) _) hu64
  exact (ss_cons (s_if (t_not (t_tru rfl (e_meth0 rfl tk hcl (MtAll.or (MtAll.one mt_Giver_step (by decide)) (MtAll.one mt_Taker_step (by decide))) (show _ ∉ FLS by decide) hr (e_meth rfl tk hcl (MtAll.one mt_Lane_hand_of (by decide)) (show _ ∉ FLS by decide) hr (e_var (pv 0)) (a_cons (e_var (pv 1)) a_nil))) (by intro _; rfl))) (ss_one (s_ret e_bl)) ss_nil)
  (ss_cons (s_ex (e_bm rfl PySem.F.plainAttrs_list PySem.F.slot_list_append PySem.F.type_list_append m_append (e_fld rfl hcl na_walked.na (e_var (pv 0)) (by rfl)) (a_cons (e_op (o_add rfl) (e_tup (a_cons (e_var (pv 1)) a_nil)) (e_meth0 rfl tk hcl (MtAll.one mt_Board_last_touch (by decide)) (show _ ∉ FLS by decide) hr (e_fld rfl hcl na_board.na (e_var (pv 0)) (by rfl)))) a_nil)))
  (ss_one (s_ret e_bl))))
abbrev s_Giver_orders : Stmt := sub (top 47) 2
abbrev N_Giver_orders : List Str := ["self", "order"]
theorem sc_Giver_orders : FnScope N_Giver_orders ["self"] (defScope s_Giver_orders) := ⟨rfl, rfl, rfl, by decide +kernel, rfl, by decide +kernel, by decide +kernel⟩
theorem ok_Giver_orders {c : String} (hcl : ClsF (TT K)) (na_wares : NoF (TT K) "wares") (m_list : mg (st "list") = none) (D : ∃ fd, FunD K (st "orders") (st "Giver.orders") (defArgs s_Giver_orders) (defBody s_Giver_orders) (defScope s_Giver_orders) [] [] (He.ma K (clA K c) (st "orders")) fd) (at_ : Meth K (clA K c) (st "orders") (He.ma K (clA K c) (st "orders"))) : MtM (TT K) P w mg base 2 c "orders" ["self"] F_Giver_orders := by
  rw [F_Giver_orders_eq]
  refine mtM_mk (T := TT K) D at_ sc_Giver_orders rfl rfl (fun _ _ _ _ _ _ us hl => match us, hl with | [_], _ => rfl) fun cdv A outer s H E hr => ?_
  have tk := takes_of (X := cxOf (L2.CX P w) P w K mg base N_Giver_orders (st "Giver.orders") (defScope s_Giver_orders) (He.ma K (clA K c) (st "orders")) cdv A outer s H E) rfl rfl rfl rfl
  have po : PassesOwn _ (cxOf (L2.CX P w) P w K mg base N_Giver_orders (st "Giver.orders") (defScope s_Giver_orders) (He.ma K (clA K c) (st "orders")) cdv A outer s H E).A _ (cxOf (L2.CX P w) P w K mg base N_Giver_orders (st "Giver.orders") (defScope s_Giver_orders) (He.ma K (clA K c) (st "orders")) cdv A outer s H E).xe := passes_of rfl
  have nd := sc_Giver_orders.nd
  have hu64 := hr.units
  have hu1 := Nat.lt_of_le_of_lt (Nat.add_le_add_left (by decide : 1 ≤ 64) _) hu64
  exact (ss_one (s_ret (e_comp rfl nd (i_seq rfl (e_fld rfl hcl na_wares.na (e_var (pv 0)) (by rfl))) (blkOk_by (own := [(st "order", 1)]) (N := N_Giver_orders) (sc := defScope s_Giver_orders) (by decide +kernel)) (fun _ _ _ _ _ => pg_name (i := 1) nd rfl (by first | exact Or.inl rfl | exact Or.inr rfl)) (fun _ _ _ _ _ => tst_nil) (fun _ _ _ _ _ => (e_bt (b_list rfl) rfl m_list (by decide +kernel) (a_cons (e_var (pv 1)) a_nil) (by decide) (by decide))))))
abbrev s_Taker_book : Stmt := sub (top 49) 1
abbrev N_Taker_book : List Str := ["self", "order"]
theorem sc_Taker_book : FnScope N_Taker_book ["self"] (defScope s_Taker_book) := ⟨rfl, rfl, rfl, by decide +kernel, rfl, by decide +kernel, by decide +kernel⟩
theorem ok_Taker_book {c : String} (hcl : ClsF (TT K)) (na_taken : NoF (TT K) "taken") (m_list : mg (st "list") = none) (D : ∃ fd, FunD K (st "book") (st "Taker.book") (defArgs s_Taker_book) (defBody s_Taker_book) (defScope s_Taker_book) [] [] (He.ma K (clA K c) (st "book")) fd) (at_ : Meth K (clA K c) (st "book") (He.ma K (clA K c) (st "book"))) : MtM (TT K) P w mg base 2 c "book" ["self"] F_Taker_book := by
  rw [F_Taker_book_eq]
  refine mtM_mk (T := TT K) D at_ sc_Taker_book rfl rfl (fun _ _ _ _ _ _ us hl => match us, hl with | [_], _ => rfl) fun cdv A outer s H E hr => ?_
  have tk := takes_of (X := cxOf (L2.CX P w) P w K mg base N_Taker_book (st "Taker.book") (defScope s_Taker_book) (He.ma K (clA K c) (st "book")) cdv A outer s H E) rfl rfl rfl rfl
  have po : PassesOwn _ (cxOf (L2.CX P w) P w K mg base N_Taker_book (st "Taker.book") (defScope s_Taker_book) (He.ma K (clA K c) (st "book")) cdv A outer s H E).A _ (cxOf (L2.CX P w) P w K mg base N_Taker_book (st "Taker.book") (defScope s_Taker_book) (He.ma K (clA K c) (st "book")) cdv A outer s H E).xe := passes_of rfl
  have nd := sc_Taker_book.nd
  have hu64 := hr.units
  have hu1 := Nat.lt_of_le_of_lt (Nat.add_le_add_left (by decide : 1 ≤ 64) _) hu64
  exact (ss_one (s_ret (e_comp rfl nd (i_seq rfl (e_fld rfl hcl na_taken.na (e_var (pv 0)) (by rfl))) (blkOk_by (own := [(st "order", 1)]) (N := N_Taker_book) (sc := defScope s_Taker_book) (by decide +kernel)) (fun _ _ _ _ _ => pg_name (i := 1) nd rfl (by first | exact Or.inl rfl | exact Or.inr rfl)) (fun _ _ _ _ _ => tst_nil) (fun _ _ _ _ _ => (e_bt (b_list rfl) rfl m_list (by decide +kernel) (a_cons (e_var (pv 1)) a_nil) (by decide) (by decide))))))
abbrev s_Lane_fall : Stmt := sub (top 51) 4
abbrev N_Lane_fall : List Str := ["self", "name"]
theorem sc_Lane_fall : FnScope N_Lane_fall ["self", "name"] (defScope s_Lane_fall) := ⟨rfl, rfl, rfl, by decide +kernel, rfl, by decide +kernel, by decide +kernel⟩
theorem ok_Lane_fall {c : String} (f_look_at_hand : FnM (TT K) P w mg base 2 "look_at_hand" ["hand"] F_look_at_hand) (mk_Giver : MkM (TT K) P w mg base 3 "Giver" ["self", "board", "orders"] F_Giver___init) (mt_Giver_orders : MtM (TT K) P w mg base 2 "Giver" "orders" ["self"] F_Giver_orders) (hcl : ClsF (TT K)) (na_giver : NoF (TT K) "giver") (na_board : NoF (TT K) "board") (mk_Taker : MkM (TT K) P w mg base 3 "Taker" ["self", "board", "book"] F_Taker___init) (mt_Taker_book : MtM (TT K) P w mg base 2 "Taker" "book" ["self"] F_Taker_book) (na_taker : NoF (TT K) "taker") (D : ∃ fd, FunD K (st "fall") (st "Lane.fall") (defArgs s_Lane_fall) (defBody s_Lane_fall) (defScope s_Lane_fall) [] [] (He.ma K (clA K c) (st "fall")) fd) (at_ : Meth K (clA K c) (st "fall") (He.ma K (clA K c) (st "fall"))) : MtM (TT K) P w mg base 5 c "fall" ["self", "name"] F_Lane_fall := by
  rw [F_Lane_fall_eq]
  refine mtM_mk (T := TT K) D at_ sc_Lane_fall rfl rfl (fun _ _ _ _ _ _ us hl => match us, hl with | [_, _], _ => rfl) fun cdv A outer s H E hr => ?_
  have tk := takes_of (X := cxOf (L2.CX P w) P w K mg base N_Lane_fall (st "Lane.fall") (defScope s_Lane_fall) (He.ma K (clA K c) (st "fall")) cdv A outer s H E) rfl rfl rfl rfl
  have po : PassesOwn _ (cxOf (L2.CX P w) P w K mg base N_Lane_fall (st "Lane.fall") (defScope s_Lane_fall) (He.ma K (clA K c) (st "fall")) cdv A outer s H E).A _ (cxOf (L2.CX P w) P w K mg base N_Lane_fall (st "Lane.fall") (defScope s_Lane_fall) (He.ma K (clA K c) (st "fall")) cdv A outer s H E).xe := passes_of rfl
  have nd := sc_Lane_fall.nd
  have hu64 := hr.units
  have hu1 := Nat.lt_of_le_of_lt (Nat.add_le_add_left (by decide : 1 ≤ 64) _) hu64
  exact (ss_cons (s_ex (e_call rfl tk f_look_at_hand (by decide) hr rfl (a_cons (e_var (pv 1)) a_nil) (by decide)))
  (ss_one (s_if (t_cmp (o_eq rfl hu64) (e_var (pv 1)) e_str (nomark _)) (ss_one (s_fld rfl hcl na_giver.na na_giver.mem (e_var (pv 0)) (e_make rfl tk mk_Giver (by decide) (k := 3) hr rfl (a_cons (e_fld rfl hcl na_board.na (e_var (pv 0)) (by rfl)) (a_cons (e_meth0 rfl tk hcl (MtAll.one mt_Giver_orders (by decide)) (show _ ∉ FLS by decide) hr (e_fld rfl hcl na_giver.na (e_var (pv 0)) (by rfl))) a_nil)) (by decide)))) (ss_one (s_fld rfl hcl na_taker.na na_taker.mem (e_var (pv 0)) (e_make rfl tk mk_Taker (by decide) (k := 3) hr rfl (a_cons (e_fld rfl hcl na_board.na (e_var (pv 0)) (by rfl)) (a_cons (e_meth0 rfl tk hcl (MtAll.one mt_Taker_book (by decide)) (show _ ∉ FLS by decide) hr (e_fld rfl hcl na_taker.na (e_var (pv 0)) (by rfl))) a_nil)) (by decide)))))))
abbrev s_law_order : Stmt := top 55
abbrev N_law_order : List Str := ["well", "size", "way", "order", "k", "far"]
theorem sc_law_order : FnScope N_law_order ["well", "size"] (defScope s_law_order) := ⟨rfl, rfl, rfl, by decide +kernel, rfl, by decide +kernel, by decide +kernel⟩
theorem ok_law_order (f__law_take : FnM (TT K) P w mg base 2 "_law_take" ["well", "many"] F_law_take) (m_range : mg (st "range") = none) (D : ∃ fd, FunD K (st "_law_order") (st "_law_order") (defArgs s_law_order) (defBody s_law_order) (defScope s_law_order) [] [] (He.ga K (st "_law_order")) fd) (at_ : mg (st "_law_order") = some (.ref (He.ga K (st "_law_order")))) :
    FnM (TT K) P w mg base 3 "_law_order" ["well", "size"] F_law_order := by
  rw [F_law_order_eq]
  refine fnM_mk (T := TT K) D at_ sc_law_order rfl rfl (fun _ _ _ _ _ _ us hl => match us, hl with | [_, _], _ => rfl) fun cdv A outer s H E hr => ?_
  have tk := takes_of (X := cxOf (L2.CX P w) P w K mg base N_law_order (st "_law_order") (defScope s_law_order) (He.ga K (st "_law_order")) cdv A outer s H E) rfl rfl rfl rfl
  have po : PassesOwn _ (cxOf (L2.CX P w) P w K mg base N_law_order (st "_law_order") (defScope s_law_order) (He.ga K (st "_law_order")) cdv A outer s H E).A _ (cxOf (L2.CX P w) P w K mg base N_law_order (st "_law_order") (defScope s_law_order) (He.ga K (st "_law_order")) cdv A outer s H E).xe := passes_of rfl
  have nd := sc_law_order.nd
  have hu64 := hr.units
  have hu1 := Nat.lt_of_le_of_lt (Nat.add_le_add_left (by decide : 1 ≤ 64) _) hu64
  exact (ss_cons (s_set (i := 2) (fun _ h => ps_set (i := 2) nd rfl (by first | exact Or.inl rfl | exact Or.inr rfl) h) (e_call rfl tk f__law_take (by decide) hr rfl (a_cons (e_var (pv 0)) (a_cons e_int a_nil)) (by decide)))
  (ss_cons (s_set (i := 3) (fun _ h => ps_set (i := 3) nd rfl (by first | exact Or.inl rfl | exact Or.inr rfl) h) (e_lst a_nil))
  (ss_cons (s_for po rfl (i_rng1 rfl m_range (e_ix rfl hu1 (e_lst (a_cons e_int (a_cons (e_var (pv 1)) (a_cons (e_op (o_add rfl) e_int (e_call rfl tk f__law_take (by decide) hr rfl (a_cons (e_var (pv 0)) (a_cons (e_var (pv 1)) a_nil)) (by decide))) a_nil)))) (e_var (pv 2)) (fun _ _ => rfl))) (g_name (pg_name (i := 4) nd rfl (by first | exact Or.inl rfl | exact Or.inr rfl))) (ss_cons (s_set (i := 5) (fun _ h => ps_set (i := 5) nd rfl (by first | exact Or.inl rfl | exact Or.inr rfl) h) (e_op o_sub (e_call rfl tk f__law_take (by decide) hr rfl (a_cons (e_var (pv 0)) (a_cons (e_op o_pow e_int e_int) a_nil)) (by decide)) (e_op o_mul e_int (e_op o_pow e_int e_int))))
  (ss_one (s_ex (e_bm rfl PySem.F.plainAttrs_list PySem.F.slot_list_append PySem.F.type_list_append m_append (e_var (pv 3)) (a_cons (e_ix rfl hu1 (e_lst (a_cons (e_op o_sub (e_call rfl tk f__law_take (by decide) hr rfl (a_cons (e_var (pv 0)) (a_cons e_int a_nil)) (by decide)) e_int) (a_cons (e_var (pv 5)) a_nil))) (e_op o_div (e_call rfl tk f__law_take (by decide) hr rfl (a_cons (e_var (pv 0)) (a_cons e_int a_nil)) (by decide)) e_int) (fun _ _ => rfl)) a_nil))))))
  (ss_one (s_ret (e_var (pv 3)))))))
abbrev s_Giver_add : Stmt := sub (top 47) 1
abbrev N_Giver_add : List Str := ["self", "order"]
theorem sc_Giver_add : FnScope N_Giver_add ["self", "order"] (defScope s_Giver_add) := ⟨rfl, rfl, rfl, by decide +kernel, rfl, by decide +kernel, by decide +kernel⟩
theorem ok_Giver_add {c : String} (f_look_at_order : FnM (TT K) P w mg base 2 "look_at_order" ["size", "order"] F_look_at_order) (hcl : ClsF (TT K)) (na_board : NoF (TT K) "board") (na_size : NoF (TT K) "size") (na_wares : NoF (TT K) "wares") (m_list : mg (st "list") = none) (m_len : mg (st "len") = none) (D : ∃ fd, FunD K (st "add") (st "Giver.add") (defArgs s_Giver_add) (defBody s_Giver_add) (defScope s_Giver_add) [] [] (He.ma K (clA K c) (st "add")) fd) (at_ : Meth K (clA K c) (st "add") (He.ma K (clA K c) (st "add"))) : MtM (TT K) P w mg base 3 c "add" ["self", "order"] F_Giver_add := by
  rw [F_Giver_add_eq]
  refine mtM_mk (T := TT K) D at_ sc_Giver_add rfl rfl (fun _ _ _ _ _ _ us hl => match us, hl with | [_, _], _ => rfl) fun cdv A outer s H E hr => ?_
  have tk := takes_of (X := cxOf (L2.CX P w) P w K mg base N_Giver_add (st "Giver.add") (defScope s_Giver_add) (He.ma K (clA K c) (st "add")) cdv A outer s H E) rfl rfl rfl rfl
  have po : PassesOwn _ (cxOf (L2.CX P w) P w K mg base N_Giver_add (st "Giver.add") (defScope s_Giver_add) (He.ma K (clA K c) (st "add")) cdv A outer s H E).A _ (cxOf (L2.CX P w) P w K mg base N_Giver_add (st "Giver.add") (defScope s_Giver_add) (He.ma K (clA K c) (st "add")) cdv A outer s H E).xe := passes_of rfl
  have nd := sc_Giver_add.nd
  have hu64 := hr.units
  have hu1 := Nat.lt_of_le_of_lt (Nat.add_le_add_left (by decide : 1 ≤ 64) _) hu64
  exact (ss_cons (s_ex (e_call rfl tk f_look_at_order (by decide) hr rfl (a_cons (e_fld rfl hcl na_size.na (e_fld rfl hcl na_board.na (e_var (pv 0)) (by rfl)) (by rfl)) (a_cons (e_var (pv 1)) a_nil)) (by decide)))
  (ss_cons (s_ex (e_bm rfl PySem.F.plainAttrs_list PySem.F.slot_list_append PySem.F.type_list_append m_append (e_fld rfl hcl na_wares.na (e_var (pv 0)) (by rfl)) (a_cons (e_bt (b_list rfl) rfl m_list (by decide +kernel) (a_cons (e_var (pv 1)) a_nil) (by decide) (by decide)) a_nil)))
  (ss_one (s_ret (e_op o_sub (e_b (b_len rfl) rfl m_len (by decide +kernel) (a_cons (e_fld rfl hcl na_wares.na (e_var (pv 0)) (by rfl)) a_nil) (by decide) (by decide)) e_int)))))
abbrev s_Lane_hand_in : Stmt := sub (top 51) 1
abbrev N_Lane_hand_in : List Str := ["self", "order"]
theorem sc_Lane_hand_in : FnScope N_Lane_hand_in ["self", "order"] (defScope s_Lane_hand_in) := ⟨rfl, rfl, rfl, by decide +kernel, rfl, by decide +kernel, by decide +kernel⟩
theorem ok_Lane_hand_in {c : String} (mt_Giver_add : MtM (TT K) P w mg base 3 "Giver" "add" ["self", "order"] F_Giver_add) (hcl : ClsF (TT K)) (na_giver : NoF (TT K) "giver") (D : ∃ fd, FunD K (st "hand_in") (st "Lane.hand_in") (defArgs s_Lane_hand_in) (defBody s_Lane_hand_in) (defScope s_Lane_hand_in) [] [] (He.ma K (clA K c) (st "hand_in")) fd) (at_ : Meth K (clA K c) (st "hand_in") (He.ma K (clA K c) (st "hand_in"))) : MtM (TT K) P w mg base 4 c "hand_in" ["self", "order"] F_Lane_hand_in := by
  rw [F_Lane_hand_in_eq]
  refine mtM_mk (T := TT K) D at_ sc_Lane_hand_in rfl rfl (fun _ _ _ _ _ _ us hl => match us, hl with | [_, _], _ => rfl) fun cdv A outer s H E hr => ?_
  have tk := takes_of (X := cxOf (L2.CX P w) P w K mg base N_Lane_hand_in (st "Lane.hand_in") (defScope s_Lane_hand_in) (He.ma K (clA K c) (st "hand_in")) cdv A outer s H E) rfl rfl rfl rfl
  have po : PassesOwn _ (cxOf (L2.CX P w) P w K mg base N_Lane_hand_in (st "Lane.hand_in") (defScope s_Lane_hand_in) (He.ma K (clA K c) (st "hand_in")) cdv A outer s H E).A _ (cxOf (L2.CX P w) P w K mg base N_Lane_hand_in (st "Lane.hand_in") (defScope s_Lane_hand_in) (He.ma K (clA K c) (st "hand_in")) cdv A outer s H E).xe := passes_of rfl
  have nd := sc_Lane_hand_in.nd
  have hu64 := hr.units
  have hu1 := Nat.lt_of_le_of_lt (Nat.add_le_add_left (by decide : 1 ≤ 64) _) hu64
  exact (ss_one (s_ret (e_meth rfl tk hcl (MtAll.one mt_Giver_add (by decide)) (show _ ∉ FLS by decide) hr (e_fld rfl hcl na_giver.na (e_var (pv 0)) (by rfl)) (a_cons (e_var (pv 1)) a_nil))))
abbrev s_law_moved : Stmt := top 57
abbrev N_law_moved : List Str := ["lane", "move", "well", "size", "orders", "order"]
theorem sc_law_moved : FnScope N_law_moved ["lane", "move", "well", "size", "orders"] (defScope s_law_moved) := ⟨rfl, rfl, rfl, by decide +kernel, rfl, by decide +kernel, by decide +kernel⟩
theorem ok_law_moved (mt_Lane_step : MtM (TT K) P w mg base 9 "Lane" "step" ["self", "name"] F_Lane_step) (hcl : ClsF (TT K)) (mt_Lane_fall : MtM (TT K) P w mg base 5 "Lane" "fall" ["self", "name"] F_Lane_fall) (m_len : mg (st "len") = none) (f__law_order : FnM (TT K) P w mg base 3 "_law_order" ["well", "size"] F_law_order) (mt_Lane_hand_in : MtM (TT K) P w mg base 4 "Lane" "hand_in" ["self", "order"] F_Lane_hand_in) (m_list : mg (st "list") = none) (D : ∃ fd, FunD K (st "_law_moved") (st "_law_moved") (defArgs s_law_moved) (defBody s_law_moved) (defScope s_law_moved) [] [] (He.ga K (st "_law_moved")) fd) (at_ : mg (st "_law_moved") = some (.ref (He.ga K (st "_law_moved")))) :
    FnM (TT K) P w mg base 10 "_law_moved" ["lane", "move", "well", "size", "orders"] F_law_moved := by
  rw [F_law_moved_eq]
  refine fnM_mk (T := TT K) D at_ sc_law_moved rfl rfl (fun _ _ _ _ _ _ us hl => match us, hl with | [_, _, _, _, _], _ => rfl) fun cdv A outer s H E hr => ?_
  have tk := takes_of (X := cxOf (L2.CX P w) P w K mg base N_law_moved (st "_law_moved") (defScope s_law_moved) (He.ga K (st "_law_moved")) cdv A outer s H E) rfl rfl rfl rfl
  have po : PassesOwn _ (cxOf (L2.CX P w) P w K mg base N_law_moved (st "_law_moved") (defScope s_law_moved) (He.ga K (st "_law_moved")) cdv A outer s H E).A _ (cxOf (L2.CX P w) P w K mg base N_law_moved (st "_law_moved") (defScope s_law_moved) (He.ga K (st "_law_moved")) cdv A outer s H E).xe := passes_of rfl
  have nd := sc_law_moved.nd
  have hu64 := hr.units
  have hu1 := Nat.lt_of_le_of_lt (Nat.add_le_add_left (by decide : 1 ≤ 64) _) hu64
  exact (ss_one (s_if (t_cmp o_lt (e_var (pv 1)) e_int (nomark _)) (ss_one (s_ex (e_meth rfl tk hcl (MtAll.one mt_Lane_step (by decide)) (show _ ∉ FLS by decide) hr (e_var (pv 0)) (a_cons (e_ix rfl hu1 (e_lst (a_cons e_str (a_cons e_str a_nil))) (e_var (pv 1)) (fun _ _ => rfl)) a_nil)))) (ss_one (s_if (t_cmp o_lt (e_var (pv 1)) e_int (nomark _)) (ss_one (s_ex (e_meth rfl tk hcl (MtAll.one mt_Lane_fall (by decide)) (show _ ∉ FLS by decide) hr (e_var (pv 0)) (a_cons (e_ix rfl hu1 (e_lst (a_cons e_str (a_cons e_str a_nil))) (e_op o_sub (e_var (pv 1)) e_int) (fun _ _ => rfl)) a_nil)))) (ss_one (s_if (t_cmp o_lt (e_b (b_len rfl) rfl m_len (by decide +kernel) (a_cons (e_var (pv 4)) a_nil) (by decide) (by decide)) e_int (nomark _)) (ss_cons (s_set (i := 5) (fun _ h => ps_set (i := 5) nd rfl (by first | exact Or.inl rfl | exact Or.inr rfl) h) (e_call rfl tk f__law_order (by decide) hr rfl (a_cons (e_var (pv 2)) (a_cons (e_var (pv 3)) a_nil)) (by decide)))
  (ss_cons (s_ex (e_bm rfl PySem.F.plainAttrs_list PySem.F.slot_list_append PySem.F.type_list_append m_append (e_var (pv 4)) (a_cons (e_var (pv 5)) a_nil)))
  (ss_one (s_ex (e_meth rfl tk hcl (MtAll.one mt_Lane_hand_in (by decide)) (show _ ∉ FLS by decide) hr (e_var (pv 0)) (a_cons (e_bt (b_list rfl) rfl m_list (by decide +kernel) (a_cons (e_var (pv 5)) a_nil) (by decide) (by decide)) a_nil)))))) ss_nil))))))
abbrev s_Lane_book : Stmt := sub (top 51) 5
abbrev N_Lane_book : List Str := ["self"]
theorem sc_Lane_book : FnScope N_Lane_book ["self"] (defScope s_Lane_book) := ⟨rfl, rfl, rfl, by decide +kernel, rfl, by decide +kernel, by decide +kernel⟩
theorem ok_Lane_book {c : String} (mt_Taker_book : MtM (TT K) P w mg base 2 "Taker" "book" ["self"] F_Taker_book) (hcl : ClsF (TT K)) (na_taker : NoF (TT K) "taker") (D : ∃ fd, FunD K (st "book") (st "Lane.book") (defArgs s_Lane_book) (defBody s_Lane_book) (defScope s_Lane_book) [] [] (He.ma K (clA K c) (st "book")) fd) (at_ : Meth K (clA K c) (st "book") (He.ma K (clA K c) (st "book"))) : MtM (TT K) P w mg base 3 c "book" ["self"] F_Lane_book := by
  rw [F_Lane_book_eq]
  refine mtM_mk (T := TT K) D at_ sc_Lane_book rfl rfl (fun _ _ _ _ _ _ us hl => match us, hl with | [_], _ => rfl) fun cdv A outer s H E hr => ?_
  have tk := takes_of (X := cxOf (L2.CX P w) P w K mg base N_Lane_book (st "Lane.book") (defScope s_Lane_book) (He.ma K (clA K c) (st "book")) cdv A outer s H E) rfl rfl rfl rfl
  have po : PassesOwn _ (cxOf (L2.CX P w) P w K mg base N_Lane_book (st "Lane.book") (defScope s_Lane_book) (He.ma K (clA K c) (st "book")) cdv A outer s H E).A _ (cxOf (L2.CX P w) P w K mg base N_Lane_book (st "Lane.book") (defScope s_Lane_book) (He.ma K (clA K c) (st "book")) cdv A outer s H E).xe := passes_of rfl
  have nd := sc_Lane_book.nd
  have hu64 := hr.units
  have hu1 := Nat.lt_of_le_of_lt (Nat.add_le_add_left (by decide : 1 ≤ 64) _) hu64
  exact (ss_one (s_ret (e_meth0 rfl tk hcl (MtAll.one mt_Taker_book (by decide)) (show _ ∉ FLS by decide) hr (e_fld rfl hcl na_taker.na (e_var (pv 0)) (by rfl)))))
abbrev s_Lane_orders : Stmt := sub (top 51) 6
abbrev N_Lane_orders : List Str := ["self"]
theorem sc_Lane_orders : FnScope N_Lane_orders ["self"] (defScope s_Lane_orders) := ⟨rfl, rfl, rfl, by decide +kernel, rfl, by decide +kernel, by decide +kernel⟩
theorem ok_Lane_orders {c : String} (mt_Giver_orders : MtM (TT K) P w mg base 2 "Giver" "orders" ["self"] F_Giver_orders) (hcl : ClsF (TT K)) (na_giver : NoF (TT K) "giver") (D : ∃ fd, FunD K (st "orders") (st "Lane.orders") (defArgs s_Lane_orders) (defBody s_Lane_orders) (defScope s_Lane_orders) [] [] (He.ma K (clA K c) (st "orders")) fd) (at_ : Meth K (clA K c) (st "orders") (He.ma K (clA K c) (st "orders"))) : MtM (TT K) P w mg base 3 c "orders" ["self"] F_Lane_orders := by
  rw [F_Lane_orders_eq]
  refine mtM_mk (T := TT K) D at_ sc_Lane_orders rfl rfl (fun _ _ _ _ _ _ us hl => match us, hl with | [_], _ => rfl) fun cdv A outer s H E hr => ?_
  have tk := takes_of (X := cxOf (L2.CX P w) P w K mg base N_Lane_orders (st "Lane.orders") (defScope s_Lane_orders) (He.ma K (clA K c) (st "orders")) cdv A outer s H E) rfl rfl rfl rfl
  have po : PassesOwn _ (cxOf (L2.CX P w) P w K mg base N_Lane_orders (st "Lane.orders") (defScope s_Lane_orders) (He.ma K (clA K c) (st "orders")) cdv A outer s H E).A _ (cxOf (L2.CX P w) P w K mg base N_Lane_orders (st "Lane.orders") (defScope s_Lane_orders) (He.ma K (clA K c) (st "orders")) cdv A outer s H E).xe := passes_of rfl
  have nd := sc_Lane_orders.nd
  have hu64 := hr.units
  have hu1 := Nat.lt_of_le_of_lt (Nat.add_le_add_left (by decide : 1 ≤ 64) _) hu64
  exact (ss_one (s_ret (e_meth0 rfl tk hcl (MtAll.one mt_Giver_orders (by decide)) (show _ ∉ FLS by decide) hr (e_fld rfl hcl na_giver.na (e_var (pv 0)) (by rfl)))))
abbrev s_law_v8 : Stmt := top 58
abbrev N_law_v8 : List Str := ["script", "well", "size", "lane", "orders", "many", "move", "book", "order", "told"]
theorem sc_law_v8 : FnScope N_law_v8 ["script"] (defScope s_law_v8) := ⟨rfl, rfl, rfl, by decide +kernel, rfl, by decide +kernel, by decide +kernel⟩
theorem ok_law_v8 (f__law_well : FnM (TT K) P w mg base 2 "_law_well" ["script", "k"] F_law_well) (f__law_take : FnM (TT K) P w mg base 2 "_law_take" ["well", "many"] F_law_take) (mk_Lane : MkM (TT K) P w mg base 5 "Lane" ["self", "size"] F_Lane___init) (f__law_moves : FnM (TT K) P w mg base 3 "_law_moves" ["script", "first", "most"] F_law_moves) (f__law_moved : FnM (TT K) P w mg base 10 "_law_moved" ["lane", "move", "well", "size", "orders"] F_law_moved) (mt_Lane_book : MtM (TT K) P w mg base 3 "Lane" "book" ["self"] F_Lane_book) (hcl : ClsF (TT K)) (m_isinstance : mg (st "isinstance") = none) (m_list : mg (st "list") = none) (m_len : mg (st "len") = none) (mt_Lane_orders : MtM (TT K) P w mg base 3 "Lane" "orders" ["self"] F_Lane_orders) (D : ∃ fd, FunD K (st "law") (st "law") (defArgs s_law_v8) (defBody s_law_v8) (defScope s_law_v8) [] [] (He.ga K (st "law")) fd) (at_ : mg (st "law") = some (.ref (He.ga K (st "law")))) :
    FnM (TT K) P w mg base 11 "law" ["script"] F_law_v8 := by
  rw [F_law_v8_eq]
  refine fnM_mk (T := TT K) D at_ sc_law_v8 rfl rfl (fun _ _ _ _ _ _ us hl => match us, hl with | [_], _ => rfl) fun cdv A outer s H E hr => ?_
  have tk := takes_of (X := cxOf (L2.CX P w) P w K mg base N_law_v8 (st "law") (defScope s_law_v8) (He.ga K (st "law")) cdv A outer s H E) rfl rfl rfl rfl
  have po : PassesOwn _ (cxOf (L2.CX P w) P w K mg base N_law_v8 (st "law") (defScope s_law_v8) (He.ga K (st "law")) cdv A outer s H E).A _ (cxOf (L2.CX P w) P w K mg base N_law_v8 (st "law") (defScope s_law_v8) (He.ga K (st "law")) cdv A outer s H E).xe := passes_of rfl
  have nd := sc_law_v8.nd
  have hu64 := hr.units
  have hu1 := Nat.lt_of_le_of_lt (Nat.add_le_add_left (by decide : 1 ≤ 64) _) hu64
  exact (ss_cons (s_set (i := 1) (fun _ h => ps_set (i := 1) nd rfl (by first | exact Or.inl rfl | exact Or.inr rfl) h) (e_call rfl tk f__law_well (by decide) hr rfl (a_cons (e_var (pv 0)) (a_cons e_int a_nil)) (by decide)))
  (ss_cons (s_set (i := 2) (fun _ h => ps_set (i := 2) nd rfl (by first | exact Or.inl rfl | exact Or.inr rfl) h) (e_op (o_add rfl) e_int (e_call rfl tk f__law_take (by decide) hr rfl (a_cons (e_var (pv 1)) (a_cons e_int a_nil)) (by decide))))
  (ss_cons (s_set (i := 3) (fun _ h => ps_set (i := 3) nd rfl (by first | exact Or.inl rfl | exact Or.inr rfl) h) (e_make rfl tk mk_Lane (by decide) (k := 9) hr rfl (a_cons (e_var (pv 2)) a_nil) (by decide)))
  (ss_cons (s_set (i := 4) (fun _ h => ps_set (i := 4) nd rfl (by first | exact Or.inl rfl | exact Or.inr rfl) h) (e_lst a_nil))
  (ss_cons (s_set (i := 5) (fun _ h => ps_set (i := 5) nd rfl (by first | exact Or.inl rfl | exact Or.inr rfl) h) e_int)
  (ss_cons (s_for po rfl (i_seq rfl (e_op (o_add rfl) (e_lst (a_cons e_int a_nil)) (e_call rfl tk f__law_moves (by decide) hr rfl (a_cons (e_var (pv 0)) (a_cons e_int (a_cons e_int a_nil))) (by decide)))) (g_name (pg_name (i := 6) nd rfl (by first | exact Or.inl rfl | exact Or.inr rfl))) (ss_cons (s_ex (e_call rfl tk f__law_moved (by decide) hr rfl (a_cons (e_var (pv 3)) (a_cons (e_var (pv 6)) (a_cons (e_var (pv 1)) (a_cons (e_var (pv 2)) (a_cons (e_var (pv 4)) a_nil))))) (by decide)))
  (ss_cons (s_set (i := 7) (fun _ h => ps_set (i := 7) nd rfl (by first | exact Or.inl rfl | exact Or.inr rfl) h) (e_meth0 rfl tk hcl (MtAll.one mt_Lane_book (by decide)) (show _ ∉ FLS by decide) hr (e_var (pv 3))))
  (ss_cons (s_if (PW.pt (t_or (t_not (t_tru rfl (e_isi (ty := "list") rfl rfl m_isinstance rfl m_list (by decide +kernel) (by decide) (by decide) (kit_list K) (e_var (pv 7))) (by intro _; rfl))) (t_or (t_cmp o_lt (e_b (b_len rfl) rfl m_len (by decide +kernel) (a_cons (e_var (pv 7)) a_nil) (by decide) (by decide)) (e_var (pv 5)) (nomark _)) (t_or1 (t_cmp (o_ne rfl hu64) (e_var (pv 7)) (e_sl rfl (e_var (pv 4)) p_none (p_some (e_b (b_len rfl) rfl m_len (by decide +kernel) (a_cons (e_var (pv 7)) a_nil) (by decide) (by decide)))) (nomark _)))))) (ss_one (s_ret e_bl)) ss_nil)
  (ss_cons (s_set (i := 5) (fun _ h => ps_set (i := 5) nd rfl (by first | exact Or.inl rfl | exact Or.inr rfl) h) (e_b (b_len rfl) rfl m_len (by decide +kernel) (a_cons (e_var (pv 7)) a_nil) (by decide) (by decide)))
  (ss_one (s_if (t_cmp (o_eq rfl hu64) (e_var (pv 6)) e_int (nomark _)) (ss_cons (s_for po rfl (i_seq rfl (e_var (pv 7))) (g_name (pg_name (i := 8) nd rfl (by first | exact Or.inl rfl | exact Or.inr rfl))) (ss_one (s_ex (e_bm0 rfl PySem.F.plainAttrs_list PySem.F.slot_list_clear PySem.F.type_list_clear m_clear (e_var (pv 8))))))
  (ss_cons (s_ex (e_bm0 rfl PySem.F.plainAttrs_list PySem.F.slot_list_clear PySem.F.type_list_clear m_clear (e_var (pv 7))))
  (ss_cons (s_set (i := 9) (fun _ h => ps_set (i := 9) nd rfl (by first | exact Or.inl rfl | exact Or.inr rfl) h) (e_meth0 rfl tk hcl (MtAll.one mt_Lane_orders (by decide)) (show _ ∉ FLS by decide) hr (e_var (pv 3))))
  (ss_cons (s_for po rfl (i_seq rfl (e_var (pv 9))) (g_name (pg_name (i := 8) nd rfl (by first | exact Or.inl rfl | exact Or.inr rfl))) (ss_one (s_ex (e_bm0 rfl PySem.F.plainAttrs_list PySem.F.slot_list_clear PySem.F.type_list_clear m_clear (e_var (pv 8))))))
  (ss_cons (s_ex (e_bm0 rfl PySem.F.plainAttrs_list PySem.F.slot_list_clear PySem.F.type_list_clear m_clear (e_var (pv 9))))
  (ss_one (s_if (PW.pt (t_or (t_cmp (o_ne rfl hu64) (e_meth0 rfl tk hcl (MtAll.one mt_Lane_book (by decide)) (show _ ∉ FLS by decide) hr (e_var (pv 3))) (e_sl rfl (e_var (pv 4)) p_none (p_some (e_var (pv 5)))) (nomark _)) (t_or1 (t_cmp (o_ne rfl hu64) (e_meth0 rfl tk hcl (MtAll.one mt_Lane_orders (by decide)) (show _ ∉ FLS by decide) hr (e_var (pv 3))) (e_var (pv 4)) (nomark _))))) (ss_one (s_ret e_bl)) ss_nil))))))) ss_nil)))))))
  (ss_one (s_ret (e_cmp (o_eq rfl hu64) (e_meth0 rfl tk hcl (MtAll.one mt_Lane_orders (by decide)) (show _ ∉ FLS by decide) hr (e_var (pv 3))) (e_var (pv 4)) (nomark _))))))))))
end
def fn : List He.DefD := [⟨(st "_law_well", none), st "_law_well", st "_law_well", defArgs s_law_well, defBody s_law_well, defScope s_law_well, [], []⟩, ⟨(st "_law_take", none), st "_law_take", st "_law_take", defArgs s_law_take, defBody s_law_take, defScope s_law_take, [], []⟩, ⟨(st "look_at_size", none), st "look_at_size", st "look_at_size", defArgs s_look_at_size, defBody s_look_at_size, defScope s_look_at_size, [], []⟩, ⟨(st "Board", some (st "__init__")), st "__init__", st "Board.__init__", defArgs s_Board___init, defBody s_Board___init, defScope s_Board___init, [], []⟩, ⟨(st "look_at_order", none), st "look_at_order", st "look_at_order", defArgs s_look_at_order, defBody s_look_at_order, defScope s_look_at_order, [], []⟩, ⟨(st "Hand", some (st "__init__")), st "__init__", st "Hand.__init__", defArgs s_Hand___init, defBody s_Hand___init, defScope s_Hand___init, [], []⟩, ⟨(st "Giver", some (st "__init__")), st "__init__", st "Giver.__init__", defArgs s_Giver___init, defBody s_Giver___init, defScope s_Giver___init, [], []⟩, ⟨(st "Taker", some (st "__init__")), st "__init__", st "Taker.__init__", defArgs s_Taker___init, defBody s_Taker___init, defScope s_Taker___init, [], []⟩, ⟨(st "Lane", some (st "__init__")), st "__init__", st "Lane.__init__", defArgs s_Lane___init, defBody s_Lane___init, defScope s_Lane___init, [], []⟩, ⟨(st "_law_moves", none), st "_law_moves", st "_law_moves", defArgs s_law_moves, defBody s_law_moves, defScope s_law_moves, [], []⟩, ⟨(st "Board", some (st "look_at_cell")), st "look_at_cell", st "Board.look_at_cell", defArgs s_Board_look_at_cell, defBody s_Board_look_at_cell, defScope s_Board_look_at_cell, [], []⟩, ⟨(st "Board", some (st "touched")), st "touched", st "Board.touched", defArgs s_Board_touched, defBody s_Board_touched, defScope s_Board_touched, [], []⟩, ⟨(st "Board", some (st "write")), st "write", st "Board.write", defArgs s_Board_write, defBody s_Board_write, defScope s_Board_write, [], []⟩, ⟨(st "look_at_hand", none), st "look_at_hand", st "look_at_hand", defArgs s_look_at_hand, defBody s_look_at_hand, defScope s_look_at_hand, [], []⟩, ⟨(st "bell_cell", none), st "bell_cell", st "bell_cell", defArgs s_bell_cell, defBody s_bell_cell, defScope s_bell_cell, [], []⟩, ⟨(st "card_cell", none), st "card_cell", st "card_cell", defArgs s_card_cell, defBody s_card_cell, defScope s_card_cell, [], []⟩, ⟨(st "Board", some (st "read")), st "read", st "Board.read", defArgs s_Board_read, defBody s_Board_read, defScope s_Board_read, [], []⟩, ⟨(st "mark_cell", none), st "mark_cell", st "mark_cell", defArgs s_mark_cell, defBody s_mark_cell, defScope s_mark_cell, [], []⟩, ⟨(st "Giver", some (st "rise")), st "rise", st "Hand.rise", defArgs s_Hand_rise, defBody s_Hand_rise, defScope s_Hand_rise, [], []⟩, ⟨(st "Taker", some (st "rise")), st "rise", st "Hand.rise", defArgs s_Hand_rise, defBody s_Hand_rise, defScope s_Hand_rise, [], []⟩, ⟨(st "look_at_mark", none), st "look_at_mark", st "look_at_mark", defArgs s_look_at_mark, defBody s_look_at_mark, defScope s_look_at_mark, [], []⟩, ⟨(st "look_at_marks", none), st "look_at_marks", st "look_at_marks", defArgs s_look_at_marks, defBody s_look_at_marks, defScope s_look_at_marks, [], []⟩, ⟨(st "front", none), st "front", st "front", defArgs s_front, defBody s_front, defScope s_front, [], []⟩, ⟨(st "odd_bits", none), st "odd_bits", st "odd_bits", defArgs s_odd_bits, defBody s_odd_bits, defScope s_odd_bits, [], []⟩, ⟨(st "taker_turn", none), st "taker_turn", st "taker_turn", defArgs s_taker_turn, defBody s_taker_turn, defScope s_taker_turn, [], []⟩, ⟨(st "look_at_turn", none), st "look_at_turn", st "look_at_turn", defArgs s_look_at_turn, defBody s_look_at_turn, defScope s_look_at_turn, [], []⟩, ⟨(st "lap_of", none), st "lap_of", st "lap_of", defArgs s_lap_of, defBody s_lap_of, defScope s_lap_of, [], []⟩, ⟨(st "may_take", none), st "may_take", st "may_take", defArgs s_may_take, defBody s_may_take, defScope s_may_take, [], []⟩, ⟨(st "Taker", some (st "may")), st "may", st "Taker.may", defArgs s_Taker_may, defBody s_Taker_may, defScope s_Taker_may, [], []⟩, ⟨(st "may_give", none), st "may_give", st "may_give", defArgs s_may_give, defBody s_may_give, defScope s_may_give, [], []⟩, ⟨(st "Giver", some (st "may")), st "may", st "Giver.may", defArgs s_Giver_may, defBody s_Giver_may, defScope s_Giver_may, [], []⟩, ⟨(st "place_of", none), st "place_of", st "place_of", defArgs s_place_of, defBody s_place_of, defScope s_place_of, [], []⟩, ⟨(st "Giver", some (st "mark_there")), st "mark_there", st "Hand.mark_there", defArgs s_Hand_mark_there, defBody s_Hand_mark_there, defScope s_Hand_mark_there, [], []⟩, ⟨(st "Taker", some (st "mark_there")), st "mark_there", st "Hand.mark_there", defArgs s_Hand_mark_there, defBody s_Hand_mark_there, defScope s_Hand_mark_there, [], []⟩, ⟨(st "Giver", some (st "wait")), st "wait", st "Hand.wait", defArgs s_Hand_wait, defBody s_Hand_wait, defScope s_Hand_wait, [], []⟩, ⟨(st "Taker", some (st "wait")), st "wait", st "Hand.wait", defArgs s_Hand_wait, defBody s_Hand_wait, defScope s_Hand_wait, [], []⟩, ⟨(st "free_mark", none), st "free_mark", st "free_mark", defArgs s_free_mark, defBody s_free_mark, defScope s_free_mark, [], []⟩, ⟨(st "onward", none), st "onward", st "onward", defArgs s_onward, defBody s_onward, defScope s_onward, [], []⟩, ⟨(st "Taker", some (st "freed")), st "freed", st "Taker.freed", defArgs s_Taker_freed, defBody s_Taker_freed, defScope s_Taker_freed, [], []⟩, ⟨(st "Taker", some (st "release")), st "release", st "Taker.release", defArgs s_Taker_release, defBody s_Taker_release, defScope s_Taker_release, [], []⟩, ⟨(st "number_cell", none), st "number_cell", st "number_cell", defArgs s_number_cell, defBody s_number_cell, defScope s_number_cell, [], []⟩, ⟨(st "left_cell", none), st "left_cell", st "left_cell", defArgs s_left_cell, defBody s_left_cell, defScope s_left_cell, [], []⟩, ⟨(st "thing_cell", none), st "thing_cell", st "thing_cell", defArgs s_thing_cell, defBody s_thing_cell, defScope s_thing_cell, [], []⟩, ⟨(st "Taker", some (st "put_down")), st "put_down", st "Taker.put_down", defArgs s_Taker_put_down, defBody s_Taker_put_down, defScope s_Taker_put_down, [], []⟩, ⟨(st "Taker", some (st "take")), st "take", st "Taker.take", defArgs s_Taker_take, defBody s_Taker_take, defScope s_Taker_take, [], []⟩, ⟨(st "Taker", some (st "step")), st "step", st "Taker.step", defArgs s_Taker_step, defBody s_Taker_step, defScope s_Taker_step, [], []⟩, ⟨(st "Giver", some (st "rests")), st "rests", st "Giver.rests", defArgs s_Giver_rests, defBody s_Giver_rests, defScope s_Giver_rests, [], []⟩, ⟨(st "lap_bits", none), st "lap_bits", st "lap_bits", defArgs s_lap_bits, defBody s_lap_bits, defScope s_lap_bits, [], []⟩, ⟨(st "giver_turn", none), st "giver_turn", st "giver_turn", defArgs s_giver_turn, defBody s_giver_turn, defScope s_giver_turn, [], []⟩, ⟨(st "Giver", some (st "remember")), st "remember", st "Giver.remember", defArgs s_Giver_remember, defBody s_Giver_remember, defScope s_Giver_remember, [], []⟩, ⟨(st "full_mark", none), st "full_mark", st "full_mark", defArgs s_full_mark, defBody s_full_mark, defScope s_full_mark, [], []⟩, ⟨(st "Giver", some (st "go_on")), st "go_on", st "Giver.go_on", defArgs s_Giver_go_on, defBody s_Giver_go_on, defScope s_Giver_go_on, [], []⟩, ⟨(st "Giver", some (st "give")), st "give", st "Giver.give", defArgs s_Giver_give, defBody s_Giver_give, defScope s_Giver_give, [], []⟩, ⟨(st "Giver", some (st "step")), st "step", st "Giver.step", defArgs s_Giver_step, defBody s_Giver_step, defScope s_Giver_step, [], []⟩, ⟨(st "Lane", some (st "hand_of")), st "hand_of", st "Lane.hand_of", defArgs s_Lane_hand_of, defBody s_Lane_hand_of, defScope s_Lane_hand_of, [], []⟩, ⟨(st "Board", some (st "last_touch")), st "last_touch", st "Board.last_touch", defArgs s_Board_last_touch, defBody s_Board_last_touch, defScope s_Board_last_touch, [], []⟩, ⟨(st "Lane", some (st "step")), st "step", st "Lane.step", defArgs s_Lane_step, defBody s_Lane_step, defScope s_Lane_step, [], []⟩, ⟨(st "Giver", some (st "orders")), st "orders", st "Giver.orders", defArgs s_Giver_orders, defBody s_Giver_orders, defScope s_Giver_orders, [], []⟩, ⟨(st "Taker", some (st "book")), st "book", st "Taker.book", defArgs s_Taker_book, defBody s_Taker_book, defScope s_Taker_book, [], []⟩, ⟨(st "Lane", some (st "fall")), st "fall", st "Lane.fall", defArgs s_Lane_fall, defBody s_Lane_fall, defScope s_Lane_fall, [], []⟩, ⟨(st "_law_order", none), st "_law_order", st "_law_order", defArgs s_law_order, defBody s_law_order, defScope s_law_order, [], []⟩, ⟨(st "Giver", some (st "add")), st "add", st "Giver.add", defArgs s_Giver_add, defBody s_Giver_add, defScope s_Giver_add, [], []⟩, ⟨(st "Lane", some (st "hand_in")), st "hand_in", st "Lane.hand_in", defArgs s_Lane_hand_in, defBody s_Lane_hand_in, defScope s_Lane_hand_in, [], []⟩, ⟨(st "_law_moved", none), st "_law_moved", st "_law_moved", defArgs s_law_moved, defBody s_law_moved, defScope s_law_moved, [], []⟩, ⟨(st "Lane", some (st "book")), st "book", st "Lane.book", defArgs s_Lane_book, defBody s_Lane_book, defScope s_Lane_book, [], []⟩, ⟨(st "Lane", some (st "orders")), st "orders", st "Lane.orders", defArgs s_Lane_orders, defBody s_Lane_orders, defScope s_Lane_orders, [], []⟩, ⟨(st "law", none), st "law", st "law", defArgs s_law_v8, defBody s_law_v8, defScope s_law_v8, [], []⟩]
def fa : List He.Fa := [.glo (st "_law_well"), .glo (st "_law_take"), .glo (st "look_at_size"), .glo (st "look_at_order"), .glo (st "_law_moves"), .glo (st "look_at_hand"), .glo (st "bell_cell"), .glo (st "card_cell"), .glo (st "mark_cell"), .glo (st "look_at_mark"), .glo (st "look_at_marks"), .glo (st "front"), .glo (st "odd_bits"), .glo (st "taker_turn"), .glo (st "look_at_turn"), .glo (st "lap_of"), .glo (st "may_take"), .glo (st "may_give"), .glo (st "place_of"), .glo (st "free_mark"), .glo (st "onward"), .glo (st "number_cell"), .glo (st "left_cell"), .glo (st "thing_cell"), .glo (st "lap_bits"), .glo (st "giver_turn"), .glo (st "full_mark"), .glo (st "_law_order"), .glo (st "_law_moved"), .glo (st "law"), .free (st "len"), .int (st "LEAST_SIZE") 2, .int (st "MOST_SIZE") 8, .exc (st "BadSize"), .glo (st "BadSize"), .cls (st "Board"), .cls (st "Giver"), .cls (st "Lane"), .cls (st "Taker"), .noat (st "Board") (st "size"), .noat (st "Giver") (st "size"), .noat (st "Lane") (st "size"), .noat (st "Taker") (st "size"), .noat (st "Board") (st "kept"), .noat (st "Giver") (st "kept"), .noat (st "Lane") (st "kept"), .noat (st "Taker") (st "kept"), .noat (st "Board") (st "counted"), .noat (st "Giver") (st "counted"), .noat (st "Lane") (st "counted"), .noat (st "Taker") (st "counted"), .noat (st "Board") (st "latest"), .noat (st "Giver") (st "latest"), .noat (st "Lane") (st "latest"), .noat (st "Taker") (st "latest"), .exc (st "BadOrder"), .glo (st "BadOrder"), .noat (st "Board") (st "board"), .noat (st "Giver") (st "board"), .noat (st "Lane") (st "board"), .noat (st "Taker") (st "board"), .noat (st "Board") (st "name"), .noat (st "Giver") (st "name"), .noat (st "Lane") (st "name"), .noat (st "Taker") (st "name"), .noat (st "Board") (st "other"), .noat (st "Giver") (st "other"), .noat (st "Lane") (st "other"), .noat (st "Taker") (st "other"), .noat (st "Board") (st "here"), .noat (st "Giver") (st "here"), .noat (st "Lane") (st "here"), .noat (st "Taker") (st "here"), .noat (st "Board") (st "spot"), .noat (st "Giver") (st "spot"), .noat (st "Lane") (st "spot"), .noat (st "Taker") (st "spot"), .noat (st "Board") (st "seen"), .noat (st "Giver") (st "seen"), .noat (st "Lane") (st "seen"), .noat (st "Taker") (st "seen"), .glo (st "Hand"), .free (st "list"), .noat (st "Board") (st "wares"), .noat (st "Giver") (st "wares"), .noat (st "Lane") (st "wares"), .noat (st "Taker") (st "wares"), .noat (st "Board") (st "at"), .noat (st "Giver") (st "at"), .noat (st "Lane") (st "at"), .noat (st "Taker") (st "at"), .noat (st "Board") (st "part"), .noat (st "Giver") (st "part"), .noat (st "Lane") (st "part"), .noat (st "Taker") (st "part"), .noat (st "Board") (st "taken"), .noat (st "Giver") (st "taken"), .noat (st "Lane") (st "taken"), .noat (st "Taker") (st "taken"), .noat (st "Board") (st "early"), .noat (st "Giver") (st "early"), .noat (st "Lane") (st "early"), .noat (st "Taker") (st "early"), .noat (st "Board") (st "number"), .noat (st "Giver") (st "number"), .noat (st "Lane") (st "number"), .noat (st "Taker") (st "number"), .noat (st "Board") (st "left"), .noat (st "Giver") (st "left"), .noat (st "Lane") (st "left"), .noat (st "Taker") (st "left"), .noat (st "Board") (st "parts"), .noat (st "Giver") (st "parts"), .noat (st "Lane") (st "parts"), .noat (st "Taker") (st "parts"), .noat (st "Board") (st "giver"), .noat (st "Giver") (st "giver"), .noat (st "Lane") (st "giver"), .noat (st "Taker") (st "giver"), .noat (st "Board") (st "taker"), .noat (st "Giver") (st "taker"), .noat (st "Lane") (st "taker"), .noat (st "Taker") (st "taker"), .noat (st "Board") (st "walked"), .noat (st "Giver") (st "walked"), .noat (st "Lane") (st "walked"), .noat (st "Taker") (st "walked"), .free (st "range"), .free (st "max"), .free (st "min"), .exc (st "NoCell"), .glo (st "NoCell"), .glo (st "HANDS"), .exc (st "NoHand"), .glo (st "NoHand"), .exc (st "BadMark"), .glo (st "BadMark"), .exc (st "Crooked"), .glo (st "Crooked"), .exc (st "NoTurn"), .glo (st "NoTurn"), .glo (st "RISING"), .glo (st "WAITING"), .free (st "isinstance"), .mkr (st "Board"), .glo (st "Board"), .meth (st "Hand") (st "__init__"), .mkr (st "Giver"), .glo (st "Giver"), .mkr (st "Taker"), .glo (st "Taker"), .mkr (st "Lane"), .glo (st "Lane"), .meth (st "Board") (st "look_at_cell"), .meth (st "Board") (st "touched"), .meth (st "Board") (st "write"), .meth (st "Board") (st "read"), .meth (st "Giver") (st "rise"), .meth (st "Taker") (st "rise"), .meth (st "Taker") (st "may"), .meth (st "Giver") (st "may"), .meth (st "Giver") (st "mark_there"), .meth (st "Taker") (st "mark_there"), .meth (st "Giver") (st "wait"), .meth (st "Taker") (st "wait"), .meth (st "Taker") (st "freed"), .meth (st "Taker") (st "release"), .meth (st "Taker") (st "put_down"), .meth (st "Taker") (st "take"), .meth (st "Taker") (st "step"), .meth (st "Giver") (st "rests"), .meth (st "Giver") (st "remember"), .meth (st "Giver") (st "go_on"), .meth (st "Giver") (st "give"), .meth (st "Giver") (st "step"), .meth (st "Lane") (st "hand_of"), .meth (st "Board") (st "last_touch"), .meth (st "Lane") (st "step"), .meth (st "Giver") (st "orders"), .meth (st "Taker") (st "book"), .meth (st "Lane") (st "fall"), .meth (st "Giver") (st "add"), .meth (st "Lane") (st "hand_in"), .meth (st "Lane") (st "book"), .meth (st "Lane") (st "orders")]
def exs (K : PySem.W.Frag) : Bool := (supChk "Hand" "__init__" K && (tupChk "HANDS" ["giver", "taker"] K && (tupChk "RISING" ["rouse", "clear", "mute", "marks"] K && tupChk "WAITING" ["wish", "again", "sleep", "hush", "unwish"] K)))
abbrev Rw : PySem.W.OpenRow := PySem.W.OpenLaw.row PySem.Challenge.rw_slipring_k11_whole_nothing_torn
def adr : List Addr := [3, 6, 4, 21, 31, 44, 56, 68, 80, 92, 104, 116, 125, 132, 139, 146, 153, 154, 161, 168, 175, 182, 189, 196, 203, 276, 287, 294, 301, 308, 315, 322, 329, 334, 339, 346, 353, 354, 355, 362, 428, 508, 586, 689, 700, 707, 714, 719, 726, 733, 0, 20, 30, 43, 55, 67, 79, 91, 103, 115, 124, 131, 138, 145, 152, 160, 167, 174, 181, 188, 195, 202, 275, 286, 293, 300, 307, 314, 321, 328, 333, 338, 345, 352, 361, 427, 507, 585, 688, 699, 706, 713, 718, 725, 732, 15, 16, 17, 18, 19, 29, 32, 42, 54, 66, 78, 90, 102, 114, 119, 120, 121, 122, 123, 126, 127, 128, 129, 130, 133, 134, 135, 136, 137, 140, 141, 142, 143, 144, 147, 148, 149, 150, 151, 155, 156, 157, 158, 159, 162, 163, 164, 165, 166, 169, 170, 171, 172, 173, 176, 177, 178, 179, 180, 183, 184, 185, 186, 187, 190, 191, 192, 193, 194, 197, 198, 199, 200, 201, 217, 224, 231, 238, 245, 252, 259, 266, 273, 274, 277, 278, 281, 282, 283, 284, 285, 288, 289, 290, 291, 292, 295, 296, 297, 298, 299, 302, 303, 304, 305, 306, 309, 310, 311, 312, 313, 316, 317, 318, 319, 320, 323, 324, 325, 326, 327, 330, 331, 332, 335, 336, 337, 340, 341, 342, 343, 344, 347, 348, 349, 350, 351, 356, 357, 358, 359, 360, 376, 383, 390, 397, 404, 411, 418, 425, 426, 429, 430, 444, 451, 456, 463, 470, 477, 484, 491, 498, 505, 506, 522, 527, 534, 541, 548, 555, 562, 569, 576, 583, 584, 602, 609, 616, 623, 630, 637, 644, 651, 658, 665, 672, 679, 686, 687, 690, 691, 694, 695, 696, 697, 698, 701, 702, 703, 704, 705, 708, 709, 710, 711, 712, 715, 716, 717, 720, 721, 722, 723, 724, 727, 728, 729, 730, 731, 216, 223, 230, 237, 244, 251, 258, 265, 272, 375, 382, 389, 396, 403, 410, 417, 424, 443, 450, 455, 462, 469, 476, 483, 490, 497, 504, 521, 526, 533, 540, 547, 554, 561, 568, 575, 582, 601, 608, 615, 622, 629, 636, 643, 650, 657, 664, 671, 678, 685, 211, 212, 213, 214, 215, 218, 219, 220, 221, 222, 225, 226, 227, 228, 229, 232, 233, 234, 235, 236, 239, 240, 241, 242, 243, 246, 247, 248, 249, 250, 253, 254, 255, 256, 257, 260, 261, 262, 263, 264, 267, 268, 269, 270, 271, 370, 371, 372, 373, 374, 377, 378, 379, 380, 381, 384, 385, 386, 387, 388, 391, 392, 393, 394, 395, 398, 399, 400, 401, 402, 405, 406, 407, 408, 409, 412, 413, 414, 415, 416, 419, 420, 421, 422, 423, 440, 441, 442, 445, 446, 447, 448, 449, 452, 453, 454, 457, 458, 459, 460, 461, 464, 465, 466, 467, 468, 471, 472, 473, 474, 475, 478, 479, 480, 481, 482, 485, 486, 487, 488, 489, 492, 493, 494, 495, 496, 499, 500, 501, 502, 503, 518, 519, 520, 523, 524, 525, 528, 529, 530, 531, 532, 535, 536, 537, 538, 539, 542, 543, 544, 545, 546, 549, 550, 551, 552, 553, 556, 557, 558, 559, 560, 563, 564, 565, 566, 567, 570, 571, 572, 573, 574, 577, 578, 579, 580, 581, 596, 597, 598, 599, 600, 603, 604, 605, 606, 607, 610, 611, 612, 613, 614, 617, 618, 619, 620, 621, 624, 625, 626, 627, 628, 631, 632, 633, 634, 635, 638, 639, 640, 641, 642, 645, 646, 647, 648, 649, 652, 653, 654, 655, 656, 659, 660, 661, 662, 663, 666, 667, 668, 669, 670, 673, 674, 675, 676, 677, 680, 681, 682, 683, 684]
abbrev hk : PySem.W.Hook := hookR adr fa fn exs
def ob (s : PySem.W.SharedT) : AlM := obsRG adr fa fn exs (HandSHeadRun.getT s)
theorem ob_eq (s : PySem.W.SharedT) : ob s = hk.obs s.abs := obsRG_eq (HandSHeadRun.getT_eq s)
def loose0 : List PySem.Str := ["_wall", "RingError", "BadSize", "NoTurn", "BadMark", "Crooked", "NoCell", "BadOrder", "NoHand", "LEAST_SIZE", "MOST_SIZE", "look_at_size", "look_at_turn", "place_of", "lap_of", "onward", "HANDS", "mark_cell", "number_cell", "left_cell", "thing_cell", "look_at_hand", "card_cell", "bell_cell", "Board", "look_at_mark", "full_mark", "free_mark", "may_give", "may_take"]
def loose1 : List PySem.Str := ["front", "look_at_marks", "lap_bits", "odd_bits", "giver_turn", "taker_turn", "RISING", "WAITING", "look_at_order", "Hand", "Giver", "Taker", "Lane", "_law_well", "_law_take", "_law_order", "_law_moves", "_law_moved"]
def loose : List PySem.Str := loose0 ++ loose1
theorem run (w : World) : HandSHeadRun.RunEq Rw (PySem.W.view Rw.prog [58]) hk ob 60000 loose w := by
  intro os
  kernel_rfl
theorem facts {P : Program} {w : World} {K : PySem.W.Frag} {h base : Heap} {mg : Str → Option Value} (X : K.In h) (G : h.Ns mainGlobals mg) (c : SaysM fa fn exs K) : FnM (TT K) P w mg base 11 "law" ["script"] F_law_v8 := by
  have m_len : mg (st "len") = none := He.free_ok X G (c.fact 30 rfl)
  have c_LEAST_SIZE : ∃ t, mg (st "LEAST_SIZE") = some (.int 2 t) := He.int_ok X G (c.fact 31 rfl)
  have c_MOST_SIZE : ∃ t, mg (st "MOST_SIZE") = some (.int 8 t) := He.int_ok X G (c.fact 32 rfl)
  have ex_BadSize : ExF (TT K) mg "BadSize" := exF_of (T := TT K) (show _ ∈ Er by decide) (c.fact 33 rfl) (He.glo_ok X G (c.fact 34 rfl))
  have hcl : ClsF (TT K) := fun x hx => He.cls_ok (c.facts (f := .cls (st x)) (by revert x; simp [fa]))
  have na_size : NoF (TT K) "size" := ⟨fun x hx => He.noat_ok (c.facts (f := .noat (st x) (st "size")) (by revert x; simp [fa])), show _ ∈ FLS by decide⟩
  have na_kept : NoF (TT K) "kept" := ⟨fun x hx => He.noat_ok (c.facts (f := .noat (st x) (st "kept")) (by revert x; simp [fa])), show _ ∈ FLS by decide⟩
  have na_counted : NoF (TT K) "counted" := ⟨fun x hx => He.noat_ok (c.facts (f := .noat (st x) (st "counted")) (by revert x; simp [fa])), show _ ∈ FLS by decide⟩
  have na_latest : NoF (TT K) "latest" := ⟨fun x hx => He.noat_ok (c.facts (f := .noat (st x) (st "latest")) (by revert x; simp [fa])), show _ ∈ FLS by decide⟩
  have ex_BadOrder : ExF (TT K) mg "BadOrder" := exF_of (T := TT K) (show _ ∈ Er by decide) (c.fact 55 rfl) (He.glo_ok X G (c.fact 56 rfl))
  have na_board : NoF (TT K) "board" := ⟨fun x hx => He.noat_ok (c.facts (f := .noat (st x) (st "board")) (by revert x; simp [fa])), show _ ∈ FLS by decide⟩
  have na_name : NoF (TT K) "name" := ⟨fun x hx => He.noat_ok (c.facts (f := .noat (st x) (st "name")) (by revert x; simp [fa])), show _ ∈ FLS by decide⟩
  have na_other : NoF (TT K) "other" := ⟨fun x hx => He.noat_ok (c.facts (f := .noat (st x) (st "other")) (by revert x; simp [fa])), show _ ∈ FLS by decide⟩
  have na_here : NoF (TT K) "here" := ⟨fun x hx => He.noat_ok (c.facts (f := .noat (st x) (st "here")) (by revert x; simp [fa])), show _ ∈ FLS by decide⟩
  have na_spot : NoF (TT K) "spot" := ⟨fun x hx => He.noat_ok (c.facts (f := .noat (st x) (st "spot")) (by revert x; simp [fa])), show _ ∈ FLS by decide⟩
  have na_seen : NoF (TT K) "seen" := ⟨fun x hx => He.noat_ok (c.facts (f := .noat (st x) (st "seen")) (by revert x; simp [fa])), show _ ∈ FLS by decide⟩
  have su_Hand___init__ : SupF (TT K) mg "Hand" "__init__" := supF_of (T := TT K) ((He.ba c.x).1) (He.glo_ok X G (c.fact 81 rfl))
  have m_list : mg (st "list") = none := He.free_ok X G (c.fact 82 rfl)
  have na_wares : NoF (TT K) "wares" := ⟨fun x hx => He.noat_ok (c.facts (f := .noat (st x) (st "wares")) (by revert x; simp [fa])), show _ ∈ FLS by decide⟩
  have na_at : NoF (TT K) "at" := ⟨fun x hx => He.noat_ok (c.facts (f := .noat (st x) (st "at")) (by revert x; simp [fa])), show _ ∈ FLS by decide⟩
  have na_part : NoF (TT K) "part" := ⟨fun x hx => He.noat_ok (c.facts (f := .noat (st x) (st "part")) (by revert x; simp [fa])), show _ ∈ FLS by decide⟩
  have na_taken : NoF (TT K) "taken" := ⟨fun x hx => He.noat_ok (c.facts (f := .noat (st x) (st "taken")) (by revert x; simp [fa])), show _ ∈ FLS by decide⟩
  have na_early : NoF (TT K) "early" := ⟨fun x hx => He.noat_ok (c.facts (f := .noat (st x) (st "early")) (by revert x; simp [fa])), show _ ∈ FLS by decide⟩
  have na_number : NoF (TT K) "number" := ⟨fun x hx => He.noat_ok (c.facts (f := .noat (st x) (st "number")) (by revert x; simp [fa])), show _ ∈ FLS by decide⟩
  have na_left : NoF (TT K) "left" := ⟨fun x hx => He.noat_ok (c.facts (f := .noat (st x) (st "left")) (by revert x; simp [fa])), show _ ∈ FLS by decide⟩
  have na_parts : NoF (TT K) "parts" := ⟨fun x hx => He.noat_ok (c.facts (f := .noat (st x) (st "parts")) (by revert x; simp [fa])), show _ ∈ FLS by decide⟩
  have na_giver : NoF (TT K) "giver" := ⟨fun x hx => He.noat_ok (c.facts (f := .noat (st x) (st "giver")) (by revert x; simp [fa])), show _ ∈ FLS by decide⟩
  have na_taker : NoF (TT K) "taker" := ⟨fun x hx => He.noat_ok (c.facts (f := .noat (st x) (st "taker")) (by revert x; simp [fa])), show _ ∈ FLS by decide⟩
  have na_walked : NoF (TT K) "walked" := ⟨fun x hx => He.noat_ok (c.facts (f := .noat (st x) (st "walked")) (by revert x; simp [fa])), show _ ∈ FLS by decide⟩
  have m_range : mg (st "range") = none := He.free_ok X G (c.fact 127 rfl)
  have m_max : mg (st "max") = none := He.free_ok X G (c.fact 128 rfl)
  have m_min : mg (st "min") = none := He.free_ok X G (c.fact 129 rfl)
  have ex_NoCell : ExF (TT K) mg "NoCell" := exF_of (T := TT K) (show _ ∈ Er by decide) (c.fact 130 rfl) (He.glo_ok X G (c.fact 131 rfl))
  have c_HANDS : TupF (TT K) mg "HANDS" ["giver", "taker"] := tupF_of (T := TT K) ((He.ba (He.ba c.x).2).1) (He.glo_ok X G (c.fact 132 rfl))
  have ex_NoHand : ExF (TT K) mg "NoHand" := exF_of (T := TT K) (show _ ∈ Er by decide) (c.fact 133 rfl) (He.glo_ok X G (c.fact 134 rfl))
  have ex_BadMark : ExF (TT K) mg "BadMark" := exF_of (T := TT K) (show _ ∈ Er by decide) (c.fact 135 rfl) (He.glo_ok X G (c.fact 136 rfl))
  have ex_Crooked : ExF (TT K) mg "Crooked" := exF_of (T := TT K) (show _ ∈ Er by decide) (c.fact 137 rfl) (He.glo_ok X G (c.fact 138 rfl))
  have ex_NoTurn : ExF (TT K) mg "NoTurn" := exF_of (T := TT K) (show _ ∈ Er by decide) (c.fact 139 rfl) (He.glo_ok X G (c.fact 140 rfl))
  have c_RISING : TupF (TT K) mg "RISING" ["rouse", "clear", "mute", "marks"] := tupF_of (T := TT K) ((He.ba (He.ba (He.ba c.x).2).2).1) (He.glo_ok X G (c.fact 141 rfl))
  have c_WAITING : TupF (TT K) mg "WAITING" ["wish", "again", "sleep", "hush", "unwish"] := tupF_of (T := TT K) ((He.ba (He.ba (He.ba c.x).2).2).2) (He.glo_ok X G (c.fact 142 rfl))
  have m_isinstance : mg (st "isinstance") = none := He.free_ok X G (c.fact 143 rfl)
  have f__law_well := ok_law_well (P := P) (w := w) (mg := mg) (base := base) m_len (c.d.def_ 0 (d := fn[0]) rfl) (He.glo_ok X G (c.fact 0 rfl))
  have f__law_take := ok_law_take (P := P) (w := w) (mg := mg) (base := base)  (c.d.def_ 1 (d := fn[1]) rfl) (He.glo_ok X G (c.fact 1 rfl))
  have f_look_at_size := ok_look_at_size (P := P) (w := w) (mg := mg) (base := base) c_LEAST_SIZE c_MOST_SIZE ex_BadSize (c.d.def_ 2 (d := fn[2]) rfl) (He.glo_ok X G (c.fact 2 rfl))
  have mk_Board := ok_Board___init (P := P) (w := w) (mg := mg) (base := base) f_look_at_size hcl na_size na_kept na_counted na_latest (show _ ∈ CLS by decide) (c.d.def_ 3 (d := fn[3]) rfl) (He.mkr_ok (c.fact 144 rfl)) (He.glo_ok X G (c.fact 145 rfl))
  have f_look_at_order := ok_look_at_order (P := P) (w := w) (mg := mg) (base := base) m_len ex_BadOrder (c.d.def_ 4 (d := fn[4]) rfl) (He.glo_ok X G (c.fact 3 rfl))
  have mt_Hand___init__ := ok_Hand___init (P := P) (w := w) (mg := mg) (base := base) (c := "Hand") hcl na_board na_name na_other na_here na_spot na_seen (c.d.def_ 5 (d := fn[5]) rfl) (He.meth_ok (c.fact 146 rfl))
  have mk_Giver := ok_Giver___init (P := P) (w := w) (mg := mg) (base := base) f_look_at_order hcl na_size mt_Hand___init__ su_Hand___init__ m_list na_wares na_at na_part (show _ ∈ CLS by decide) (c.d.def_ 6 (d := fn[6]) rfl) (He.mkr_ok (c.fact 147 rfl)) (He.glo_ok X G (c.fact 148 rfl))
  have mk_Taker := ok_Taker___init (P := P) (w := w) (mg := mg) (base := base) f_look_at_order hcl na_size mt_Hand___init__ su_Hand___init__ m_list na_taken na_early na_number na_left na_parts (show _ ∈ CLS by decide) (c.d.def_ 7 (d := fn[7]) rfl) (He.mkr_ok (c.fact 149 rfl)) (He.glo_ok X G (c.fact 150 rfl))
  have mk_Lane := ok_Lane___init (P := P) (w := w) (mg := mg) (base := base) mk_Board hcl na_board mk_Giver na_giver mk_Taker na_taker na_walked (show _ ∈ CLS by decide) (c.d.def_ 8 (d := fn[8]) rfl) (He.mkr_ok (c.fact 151 rfl)) (He.glo_ok X G (c.fact 152 rfl))
  have f__law_moves := ok_law_moves (P := P) (w := w) (mg := mg) (base := base) m_range m_max m_min m_len f__law_well f__law_take (c.d.def_ 9 (d := fn[9]) rfl) (He.glo_ok X G (c.fact 4 rfl))
  have mt_Board_look_at_cell := ok_Board_look_at_cell (P := P) (w := w) (mg := mg) (base := base) (c := "Board") m_len hcl na_kept ex_NoCell (c.d.def_ 10 (d := fn[10]) rfl) (He.meth_ok (c.fact 153 rfl))
  have mt_Board_touched := ok_Board_touched (P := P) (w := w) (mg := mg) (base := base) (c := "Board") hcl na_counted na_kept na_latest (c.d.def_ 11 (d := fn[11]) rfl) (He.meth_ok (c.fact 154 rfl))
  have mt_Board_write := ok_Board_write (P := P) (w := w) (mg := mg) (base := base) (c := "Board") mt_Board_look_at_cell hcl na_kept mt_Board_touched (c.d.def_ 12 (d := fn[12]) rfl) (He.meth_ok (c.fact 155 rfl))
  have f_look_at_hand := ok_look_at_hand (P := P) (w := w) (mg := mg) (base := base) c_HANDS ex_NoHand (c.d.def_ 13 (d := fn[13]) rfl) (He.glo_ok X G (c.fact 5 rfl))
  have f_bell_cell := ok_bell_cell (P := P) (w := w) (mg := mg) (base := base) f_look_at_size f_look_at_hand c_HANDS (c.d.def_ 14 (d := fn[14]) rfl) (He.glo_ok X G (c.fact 6 rfl))
  have f_card_cell := ok_card_cell (P := P) (w := w) (mg := mg) (base := base) f_look_at_size f_look_at_hand c_HANDS (c.d.def_ 15 (d := fn[15]) rfl) (He.glo_ok X G (c.fact 7 rfl))
  have mt_Board_read := ok_Board_read (P := P) (w := w) (mg := mg) (base := base) (c := "Board") mt_Board_look_at_cell hcl mt_Board_touched (c.d.def_ 16 (d := fn[16]) rfl) (He.meth_ok (c.fact 156 rfl))
  have f_mark_cell := ok_mark_cell (P := P) (w := w) (mg := mg) (base := base)  (c.d.def_ 17 (d := fn[17]) rfl) (He.glo_ok X G (c.fact 8 rfl))
  have mt_Giver_rise := ok_Hand_rise (P := P) (w := w) (mg := mg) (base := base) (c := "Giver") hcl na_board na_size na_here mt_Board_write f_bell_cell na_other f_card_cell na_name na_seen mt_Board_read f_mark_cell m_len (c.d.def_ 18 (d := fn[18]) rfl) (He.meth_ok (c.fact 157 rfl))
  have mt_Taker_rise := ok_Hand_rise (P := P) (w := w) (mg := mg) (base := base) (c := "Taker") hcl na_board na_size na_here mt_Board_write f_bell_cell na_other f_card_cell na_name na_seen mt_Board_read f_mark_cell m_len (c.d.def_ 19 (d := fn[19]) rfl) (He.meth_ok (c.fact 158 rfl))
  have f_look_at_mark := ok_look_at_mark (P := P) (w := w) (mg := mg) (base := base) ex_BadMark (c.d.def_ 20 (d := fn[20]) rfl) (He.glo_ok X G (c.fact 9 rfl))
  have f_look_at_marks := ok_look_at_marks (P := P) (w := w) (mg := mg) (base := base) f_look_at_size m_len f_look_at_mark (c.d.def_ 21 (d := fn[21]) rfl) (He.glo_ok X G (c.fact 10 rfl))
  have f_front := ok_front (P := P) (w := w) (mg := mg) (base := base) f_look_at_size m_len ex_BadMark ex_Crooked (c.d.def_ 22 (d := fn[22]) rfl) (He.glo_ok X G (c.fact 11 rfl))
  have f_odd_bits := ok_odd_bits (P := P) (w := w) (mg := mg) (base := base)  (c.d.def_ 23 (d := fn[23]) rfl) (He.glo_ok X G (c.fact 12 rfl))
  have f_taker_turn := ok_taker_turn (P := P) (w := w) (mg := mg) (base := base) f_look_at_marks f_front f_odd_bits (c.d.def_ 24 (d := fn[24]) rfl) (He.glo_ok X G (c.fact 13 rfl))
  have f_look_at_turn := ok_look_at_turn (P := P) (w := w) (mg := mg) (base := base) f_look_at_size ex_NoTurn (c.d.def_ 25 (d := fn[25]) rfl) (He.glo_ok X G (c.fact 14 rfl))
  have f_lap_of := ok_lap_of (P := P) (w := w) (mg := mg) (base := base) f_look_at_turn (c.d.def_ 26 (d := fn[26]) rfl) (He.glo_ok X G (c.fact 15 rfl))
  have f_may_take := ok_may_take (P := P) (w := w) (mg := mg) (base := base) f_lap_of f_look_at_mark (c.d.def_ 27 (d := fn[27]) rfl) (He.glo_ok X G (c.fact 16 rfl))
  have mt_Taker_may := ok_Taker_may (P := P) (w := w) (mg := mg) (base := base) (c := "Taker") f_may_take hcl na_spot na_board na_size (c.d.def_ 28 (d := fn[28]) rfl) (He.meth_ok (c.fact 159 rfl))
  have f_may_give := ok_may_give (P := P) (w := w) (mg := mg) (base := base) f_lap_of f_look_at_mark (c.d.def_ 29 (d := fn[29]) rfl) (He.glo_ok X G (c.fact 17 rfl))
  have mt_Giver_may := ok_Giver_may (P := P) (w := w) (mg := mg) (base := base) (c := "Giver") f_may_give hcl na_spot na_board na_size (c.d.def_ 30 (d := fn[30]) rfl) (He.meth_ok (c.fact 160 rfl))
  have f_place_of := ok_place_of (P := P) (w := w) (mg := mg) (base := base) f_look_at_turn (c.d.def_ 31 (d := fn[31]) rfl) (He.glo_ok X G (c.fact 18 rfl))
  have mt_Giver_mark_there := ok_Hand_mark_there (P := P) (w := w) (mg := mg) (base := base) (c := "Giver") mt_Board_read hcl na_board f_mark_cell f_place_of na_spot na_size (c.d.def_ 32 (d := fn[32]) rfl) (He.meth_ok (c.fact 161 rfl))
  have mt_Taker_mark_there := ok_Hand_mark_there (P := P) (w := w) (mg := mg) (base := base) (c := "Taker") mt_Board_read hcl na_board f_mark_cell f_place_of na_spot na_size (c.d.def_ 33 (d := fn[33]) rfl) (He.meth_ok (c.fact 162 rfl))
  have mt_Giver_wait := ok_Hand_wait (P := P) (w := w) (mg := mg) (base := base) (c := "Giver") hcl na_board na_size na_here mt_Board_write na_spot f_card_cell na_name mt_Taker_may mt_Giver_may mt_Taker_mark_there mt_Giver_mark_there mt_Board_read f_bell_cell (c.d.def_ 34 (d := fn[34]) rfl) (He.meth_ok (c.fact 163 rfl))
  have mt_Taker_wait := ok_Hand_wait (P := P) (w := w) (mg := mg) (base := base) (c := "Taker") hcl na_board na_size na_here mt_Board_write na_spot f_card_cell na_name mt_Taker_may mt_Giver_may mt_Taker_mark_there mt_Giver_mark_there mt_Board_read f_bell_cell (c.d.def_ 35 (d := fn[35]) rfl) (He.meth_ok (c.fact 164 rfl))
  have f_free_mark := ok_free_mark (P := P) (w := w) (mg := mg) (base := base) f_lap_of (c.d.def_ 36 (d := fn[36]) rfl) (He.glo_ok X G (c.fact 19 rfl))
  have f_onward := ok_onward (P := P) (w := w) (mg := mg) (base := base) f_look_at_turn (c.d.def_ 37 (d := fn[37]) rfl) (He.glo_ok X G (c.fact 20 rfl))
  have mt_Taker_freed := ok_Taker_freed (P := P) (w := w) (mg := mg) (base := base) (c := "Taker") hcl na_early na_spot f_onward na_board na_size na_here na_parts (c.d.def_ 38 (d := fn[38]) rfl) (He.meth_ok (c.fact 165 rfl))
  have mt_Taker_release := ok_Taker_release (P := P) (w := w) (mg := mg) (base := base) (c := "Taker") hcl na_board na_size na_here mt_Board_write f_free_mark na_early f_mark_cell f_place_of f_bell_cell mt_Taker_freed mt_Board_read f_card_cell f_onward (c.d.def_ 39 (d := fn[39]) rfl) (He.meth_ok (c.fact 166 rfl))
  have f_number_cell := ok_number_cell (P := P) (w := w) (mg := mg) (base := base)  (c.d.def_ 40 (d := fn[40]) rfl) (He.glo_ok X G (c.fact 21 rfl))
  have f_left_cell := ok_left_cell (P := P) (w := w) (mg := mg) (base := base)  (c.d.def_ 41 (d := fn[41]) rfl) (He.glo_ok X G (c.fact 22 rfl))
  have f_thing_cell := ok_thing_cell (P := P) (w := w) (mg := mg) (base := base)  (c.d.def_ 42 (d := fn[42]) rfl) (He.glo_ok X G (c.fact 23 rfl))
  have mt_Taker_put_down := ok_Taker_put_down (P := P) (w := w) (mg := mg) (base := base) (c := "Taker") hcl na_here na_number m_len na_taken m_list na_parts (c.d.def_ 43 (d := fn[43]) rfl) (He.meth_ok (c.fact 167 rfl))
  have mt_Taker_take := ok_Taker_take (P := P) (w := w) (mg := mg) (base := base) (c := "Taker") hcl na_board na_size f_place_of na_spot na_here mt_Taker_may mt_Taker_mark_there mt_Board_read f_number_cell na_number f_left_cell na_left na_parts f_thing_cell f_onward mt_Taker_put_down (c.d.def_ 44 (d := fn[44]) rfl) (He.meth_ok (c.fact 168 rfl))
  have mt_Taker_step := ok_Taker_step (P := P) (w := w) (mg := mg) (base := base) (c := "Taker") hcl na_here c_RISING mt_Taker_rise f_taker_turn na_seen na_spot na_early c_WAITING mt_Taker_wait mt_Taker_release mt_Taker_take (c.d.def_ 45 (d := fn[45]) rfl) (He.meth_ok (c.fact 169 rfl))
  have mt_Giver_rests := ok_Giver_rests (P := P) (w := w) (mg := mg) (base := base) (c := "Giver") hcl na_here na_at m_len na_wares (c.d.def_ 46 (d := fn[46]) rfl) (He.meth_ok (c.fact 170 rfl))
  have f_lap_bits := ok_lap_bits (P := P) (w := w) (mg := mg) (base := base)  (c.d.def_ 47 (d := fn[47]) rfl) (He.glo_ok X G (c.fact 24 rfl))
  have f_giver_turn := ok_giver_turn (P := P) (w := w) (mg := mg) (base := base) f_look_at_marks f_front f_lap_bits (c.d.def_ 48 (d := fn[48]) rfl) (He.glo_ok X G (c.fact 25 rfl))
  have mt_Giver_remember := ok_Giver_remember (P := P) (w := w) (mg := mg) (base := base) (c := "Giver") hcl na_board na_size f_place_of f_onward na_spot na_here mt_Board_read f_number_cell na_at f_left_cell na_part m_len na_wares (c.d.def_ 49 (d := fn[49]) rfl) (He.meth_ok (c.fact 171 rfl))
  have f_full_mark := ok_full_mark (P := P) (w := w) (mg := mg) (base := base) f_lap_of (c.d.def_ 50 (d := fn[50]) rfl) (He.glo_ok X G (c.fact 26 rfl))
  have mt_Giver_go_on := ok_Giver_go_on (P := P) (w := w) (mg := mg) (base := base) (c := "Giver") hcl na_here f_onward na_spot na_board na_size na_part m_len na_wares na_at (c.d.def_ 51 (d := fn[51]) rfl) (He.meth_ok (c.fact 172 rfl))
  have mt_Giver_give := ok_Giver_give (P := P) (w := w) (mg := mg) (base := base) (c := "Giver") hcl na_board na_size f_place_of na_spot na_wares na_at na_here mt_Giver_may mt_Giver_mark_there mt_Board_write f_number_cell m_len na_part f_left_cell f_thing_cell f_full_mark f_mark_cell mt_Board_read f_card_cell f_bell_cell mt_Giver_go_on (c.d.def_ 52 (d := fn[52]) rfl) (He.meth_ok (c.fact 173 rfl))
  have mt_Giver_step := ok_Giver_step (P := P) (w := w) (mg := mg) (base := base) (c := "Giver") mt_Giver_rests hcl na_here c_RISING mt_Giver_rise f_giver_turn na_seen na_spot c_WAITING mt_Giver_wait mt_Giver_remember mt_Giver_give (c.d.def_ 53 (d := fn[53]) rfl) (He.meth_ok (c.fact 174 rfl))
  have mt_Lane_hand_of := ok_Lane_hand_of (P := P) (w := w) (mg := mg) (base := base) (c := "Lane") f_look_at_hand hcl na_giver na_taker (c.d.def_ 54 (d := fn[54]) rfl) (He.meth_ok (c.fact 175 rfl))
  have mt_Board_last_touch := ok_Board_last_touch (P := P) (w := w) (mg := mg) (base := base) (c := "Board") hcl na_latest (c.d.def_ 55 (d := fn[55]) rfl) (He.meth_ok (c.fact 176 rfl))
  have mt_Lane_step := ok_Lane_step (P := P) (w := w) (mg := mg) (base := base) (c := "Lane") mt_Taker_step mt_Giver_step hcl mt_Lane_hand_of na_walked mt_Board_last_touch na_board (c.d.def_ 56 (d := fn[56]) rfl) (He.meth_ok (c.fact 177 rfl))
  have mt_Giver_orders := ok_Giver_orders (P := P) (w := w) (mg := mg) (base := base) (c := "Giver") hcl na_wares m_list (c.d.def_ 57 (d := fn[57]) rfl) (He.meth_ok (c.fact 178 rfl))
  have mt_Taker_book := ok_Taker_book (P := P) (w := w) (mg := mg) (base := base) (c := "Taker") hcl na_taken m_list (c.d.def_ 58 (d := fn[58]) rfl) (He.meth_ok (c.fact 179 rfl))
  have mt_Lane_fall := ok_Lane_fall (P := P) (w := w) (mg := mg) (base := base) (c := "Lane") f_look_at_hand mk_Giver mt_Giver_orders hcl na_giver na_board mk_Taker mt_Taker_book na_taker (c.d.def_ 59 (d := fn[59]) rfl) (He.meth_ok (c.fact 180 rfl))
  have f__law_order := ok_law_order (P := P) (w := w) (mg := mg) (base := base) f__law_take m_range (c.d.def_ 60 (d := fn[60]) rfl) (He.glo_ok X G (c.fact 27 rfl))
  have mt_Giver_add := ok_Giver_add (P := P) (w := w) (mg := mg) (base := base) (c := "Giver") f_look_at_order hcl na_board na_size na_wares m_list m_len (c.d.def_ 61 (d := fn[61]) rfl) (He.meth_ok (c.fact 181 rfl))
  have mt_Lane_hand_in := ok_Lane_hand_in (P := P) (w := w) (mg := mg) (base := base) (c := "Lane") mt_Giver_add hcl na_giver (c.d.def_ 62 (d := fn[62]) rfl) (He.meth_ok (c.fact 182 rfl))
  have f__law_moved := ok_law_moved (P := P) (w := w) (mg := mg) (base := base) mt_Lane_step hcl mt_Lane_fall m_len f__law_order mt_Lane_hand_in m_list (c.d.def_ 63 (d := fn[63]) rfl) (He.glo_ok X G (c.fact 28 rfl))
  have mt_Lane_book := ok_Lane_book (P := P) (w := w) (mg := mg) (base := base) (c := "Lane") mt_Taker_book hcl na_taker (c.d.def_ 64 (d := fn[64]) rfl) (He.meth_ok (c.fact 183 rfl))
  have mt_Lane_orders := ok_Lane_orders (P := P) (w := w) (mg := mg) (base := base) (c := "Lane") mt_Giver_orders hcl na_giver (c.d.def_ 65 (d := fn[65]) rfl) (He.meth_ok (c.fact 184 rfl))
  have f_law := ok_law_v8 (P := P) (w := w) (mg := mg) (base := base) f__law_well f__law_take mk_Lane f__law_moves f__law_moved mt_Lane_book hcl m_isinstance m_list m_len mt_Lane_orders (c.d.def_ 66 (d := fn[66]) rfl) (He.glo_ok X G (c.fact 29 rfl))
  exact f_law
theorem law_facts {P : Program} {w : World} {K : PySem.W.Frag} {h : Heap} {mg : Str → Option Value} {f : Addr} (X : K.In h) (G : h.Ns mainGlobals mg) (hfa : mg ("law" : Str) = some (.ref f)) (c : SaysM fa fn exs K) :
    ∃ fd : FuncData, (∀ (s : Shared) (v : Value), BindsTo s fd ⟨[v], []⟩ [("script", v)]) ∧ ∀ base : Heap, FnOk P w K mg base L2.CX0 11 f fd ["script"] fun vs H Q _ => spM (TT K) F_law_v8 vs H Q fun _ _ _ => False := by
  have g := facts (P := P) (w := w) (base := h) X G c
  have e := hfa.symm.trans g.at_
  cases e
  obtain ⟨fd, F⟩ := c.d.def_ 66 (d := fn[66]) rfl
  refine ⟨fd, fun s v => ?_, fun base => ?_⟩
  · exact FunD.bindsA (ps := ["script"]) F (fun _ _ _ _ _ _ us hl => match us, hl with | [_], _ => rfl) s [v] rfl
  · obtain ⟨fd2, g1, _, a2⟩ := (facts (P := P) (w := w) (mg := mg) (base := base) X G c).ok
    have a1 : FdAt K (He.ga K (st "law")) fd := let ⟨oc, od, _, _, _, _, _, _, _, osl, _, l, _⟩ := F.ex; ⟨oc, od, osl, l⟩
    rw [FdAt.inj a1 a2]
    exact nox_ok (T := TT K) g1
end Mi
end TxDerk11

section TxFink11
set_option Elab.async false
set_option linter.all false
set_option maxRecDepth 100000
set_option maxHeartbeats 0
open PySem PySem.W PySem.Calls PyProof.Rows
theorem PySem.Challenge.cw_slipring_k11_whole_nothing_torn_holds : PySem.Challenge.rw_slipring_k11_whole_nothing_torn.Holds := by
  w_on; o_law
  refine HandSHeadRun.head_any (r := OpenLaw.row PySem.Challenge.rw_slipring_k11_whole_nothing_torn) (q := view (OpenLaw.row PySem.Challenge.rw_slipring_k11_whole_nothing_torn).prog [58]) (H := Mi.hk) (ob := Mi.ob) (M := 60000) (loose := Mi.loose) (d := HandSHeadRun.topDef (OpenLaw.row PySem.Challenge.rw_slipring_k11_whole_nothing_torn).prog 58) (kwd := []) Mi.ob_eq
    (by kernel_rfl) (fun s => by kernel_rfl) Mi.run (by kernel_rfl) (by kernel_rfl) (by kernel_rfl) (by rfl) (by first | assumption | decide +kernel) (by decide +kernel) ⟨rfl, rfl, rfl, rfl, rfl, by decide +kernel⟩ ?hw ?hc
  case hw => w_witness2
  case hc =>
    refine L2.walk_ofE (l := PySem.Challenge.rw_slipring_k11_whole_nothing_torn) (n := 63) (k := 11) (x := "script") (CX := L2.CX0) rfl (by decide) (by kernel_rfl) ⟨rfl, by decide, by decide⟩ ?F (fun _ _ _ _ z => z)
    intro w mg fa h Y G hmg0
    obtain ⟨K, KX, c⟩ := Y
    have hmg : mg ("law" : PySem.Str) = some (.ref fa) := by
      have e : (HandSHeadRun.topDef (OpenLaw.row PySem.Challenge.rw_slipring_k11_whole_nothing_torn).prog 58).name = ("law" : PySem.Str) := by kernel_rfl
      rw [← e]
      exact hmg0
    obtain ⟨fd, hb, hF⟩ := Mi.law_facts (P := (PySem.Challenge.rw_slipring_k11_whole_nothing_torn).prog) (w := w) KX G hmg c
    exact ⟨K, fd, fun vs H Q _ => Mi.spM (Mi.TT K) Mi.F_law_v8 vs H Q fun _ _ _ => False, KX, hb, fun H a ns hl hO hS => Mi.law_sp hO hS (Mi.law_true_v8 ns hl Mi.h0 _), fun base _ _ => hF base⟩
end TxFink11
