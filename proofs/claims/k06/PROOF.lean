import PyProof.Rows.All
import PySem.Str
import Wide.All
import OpenK.AllK
import Wide.FinOn
import PyProof.EqAt
import PyProof.EqKinds
import PyProof.TupleCall
import HandS.ForMost
import HandS.ForExc
import HandS.Wide
import HandS.WideBits
import HandS.CallSlots
import HandS.CallLocal
import HandS.IsInst
import HandS.TryMany
import HandS.ExcField
import HandS.Defaults
import HandS.NoneIn
import HandS.Flow
import HandS.Flt
import HandS.Lambda
import PyProof.LongRange
import PyProof.StrBlock2
import PyProof.Rows.StrMul
import KE.IntText
import HandS.Text
import HandS.Style
import HandS.Comp
import HandS.Iter
import HandS.Codes
import HandS.ExcInit
import KE.KExcInit
import OpenK.KCls
import HandS.HeadEnd
import HandS.Head0
import HandS.Head1
import HandS.Head2
import HandS.HeadHook1
import HandS.HeadHook2
import HandS.HeadHook4
import HandS.HeadWalk
import PySem.Challenge.RW_farfloats_k06_rounding_in_small_formats
set_option Elab.async false
set_option linter.all false
set_option maxRecDepth 100000
namespace FF

/-! ### data -/
inductive D where
  | non
  | bl (b : Bool)
  | int (i : Int)
  | str (s : List Nat)
  | tup (l : List D)
  | lst (l : List D)
  | obj (c : Nat) (fs : List (Nat × D))
  | ref (a : Nat)
  | fn (n : Nat)
  | clo (n : Nat) (vs : List D)
  | odd (k : Nat)

inductive Cell where
  | lst (l : List D)
  | obj (c : Nat) (fs : List (Nat × D))

/-- what may be changed, by address -/
abbrev AH := Nat → Option Cell
def AH.put (h : AH) (a : Nat) (c : Cell) : AH := fun b => if b = a then some c else h b
theorem AH.put_same {h : AH} {a : Nat} {c : Cell} : h.put a c a = some c := if_pos rfl
theorem AH.put_ne {h : AH} {a b : Nat} {c : Cell} (e : b ≠ a) : h.put a c b = h b := if_neg e
theorem AH.put_put {h : AH} {a : Nat} {c e : Cell} : (h.put a c).put a e = h.put a e := by
  funext b; unfold AH.put; split <;> rfl
def AH.Sub (h h' : AH) : Prop := ∀ a c, h a = some c → h' a = some c
theorem AH.Sub.refl (h : AH) : AH.Sub h h := fun _ _ e => e
theorem AH.Sub.trans {h h1 h2 : AH} (a : AH.Sub h h1) (b : AH.Sub h1 h2) : AH.Sub h h2 := fun c o e => b c o (a c o e)

inductive Slot where
  | un
  | val (d : D)
  | own (l : List D)
  | exc (c : Nat) (v : D)
abbrev Env := List Slot
def Env.at : Env → Nat → Slot
  | [], _ => .un
  | s :: _, 0 => s
  | _ :: r, n + 1 => Env.at r n
def Env.put : Env → Nat → Slot → Env
  | [], _, _ => []
  | _ :: r, 0, x => x :: r
  | s :: r, n + 1, x => s :: Env.put r n x
def Env.wipe (σ : Env) : List Nat → Env
  | [] => σ
  | v :: vs => (Env.wipe σ vs).put v .un

def Slot.nox : Slot → Slot
  | .un => .un
  | .val d => .val d
  | .own _ => .un
  | .exc _ _ => .un
def Env.nox : Env → Env
  | [] => []
  | s :: r => s.nox :: Env.nox r
def Slot.nex : Slot → Slot
  | .un => .un
  | .val d => .val d
  | .own l => .own l
  | .exc _ _ => .un
/-- no exceptions are told -/
def Env.nex : Env → Env
  | [] => []
  | s :: r => s.nex :: Env.nex r
/-! ### values -/
def SL : Nat := 16777216
/-- at most so deep, strings of code points -/
def D.pln : Nat → D → Bool
  | _, .non => true
  | _, .bl _ => true
  | _, .int _ => true
  | _, .str s => s.all (· < 1114112)
  | 0, _ => false
  | n + 1, .tup l => l.all (D.pln n)
  | n + 1, .lst l => l.all (D.pln n)
  | _, _ => false
mutual
def D.eqb : D → D → Bool
  | .non, .non => true
  | .bl a, .bl b => a == b
  | .bl a, .int j => (if a then 1 else 0) == j
  | .int i, .bl b => i == (if b then 1 else 0)
  | .int i, .int j => i == j
  | .str x, .str y => x == y
  | .lst xs, .lst ys => D.eqbs xs ys
  | .tup xs, .tup ys => D.eqbs xs ys
  | _, _ => false
def D.eqbs : List D → List D → Bool
  | [], [] => true
  | x :: xs, y :: ys => D.eqb x y && D.eqbs xs ys
  | _, _ => false
end

def bitsI (i : Int) : Nat := if i = 0 then 0 else i.natAbs.log2 + 1
def mulOk (i j : Int) : Prop := bitsI i + bitsI j ≤ 134217728 ∨ bitsI i ≤ 64 ∨ bitsI j ≤ 64

inductive BOp where | add | sub | mul | fdiv | mod | pow | shl | shr
inductive COp where | eq | ne | lt | le | gt | ge | is_ | isn | in_ | nin
inductive Ty where | int | bool | str | tup | lst | dict | obj (c : Nat)

def binI (op : BOp) (i j : Int) (K : D → Prop) : Prop :=
  match op with
  | .add => K (.int (i + j))
  | .sub => K (.int (i - j))
  | .mul => mulOk i j ∧ K (.int (i * j))
  | .fdiv => (j ≠ 0 ∧ bitsI j ≤ 9000) ∧ K (.int (i.fdiv j))
  | .mod => j ≠ 0 ∧ K (.int (i.fmod j))
  | .pow => (0 ≤ j ∧ j ≤ 1000000 ∧ i.natAbs < 2 ^ 64) ∧ K (.int (i ^ j.toNat))
  | .shl => (0 ≤ j ∧ (bitsI i : Int) + j ≤ 134217728) ∧ K (.int (i * 2 ^ j.toNat))
  | .shr => 0 ≤ j ∧ K (.int (i / 2 ^ j.toNat))
/-- decimal digits, and what they are worth -/
def digS (s : List Nat) : Bool := s.all fun c => decide (48 ≤ c ∧ c < 58)
def decN (s : List Nat) : Nat := s.foldl (fun a c => a * 10 + (c - 48)) 0
def wBin (op : BOp) (x y : D) (K : D → Prop) : Prop :=
  match x, y with
  | .int i, .int j => binI op i j K
  | .lst a, .lst b => match op with
    | .add => (a.length + b.length ≤ SL) ∧ K (.lst (a ++ b))
    | _ => False
  | .lst a, .int k => match op with
    | .mul => (-1000000 < k ∧ k < 1000000 ∧ a.length * k.toNat ≤ SL) ∧ K (.lst ((List.replicate k.toNat a).flatten))
    | _ => False
  | .str a, .str b => match op with
    | .add => (a.length + b.length ≤ SL) ∧ K (.str (a ++ b))
    | _ => False
  | .str a, .int k => match op with
    | .mul => (0 ≤ k ∧ k ≤ 4000 ∧ a.length ≤ 4000) ∧ K (.str (List.replicate k.toNat a).flatten)
    | _ => False
  | .tup a, .tup b => match op with
    | .add => (a.length ≤ SL ∧ b.length ≤ SL ∧ a ≠ [] ∧ b ≠ [] ∧ a.length + b.length ≤ SL) ∧ K (.tup (a ++ b))
    | _ => False
  | _, _ => False
def cmpI (op : COp) (i j : Int) (K : Bool → Prop) : Prop :=
  match op with
  | .eq => K (decide (i = j))
  | .ne => K (!decide (i = j))
  | .lt => K (decide (i < j))
  | .le => K (decide (i ≤ j))
  | .gt => K (decide (j < i))
  | .ge => K (decide (j ≤ i))
  | _ => False
def eqOk (x y : D) : Prop := x.pln 60 = true ∧ y.pln 60 = true
/-- flat things, to be sought in a list -/
def D.flat : D → Bool
  | .non => true
  | .bl _ => true
  | .int _ => true
  | .str _ => true
  | _ => false
def D.isNon : D → Bool
  | .non => true
  | _ => false
def wCmp (op : COp) (x y : D) (K : Bool → Prop) : Prop :=
  match op with
  | .lt => match x, y with
    | .int i, .int j => K (decide (i < j))
    | _, _ => False
  | .le => match x, y with
    | .int i, .int j => K (decide (i ≤ j))
    | _, _ => False
  | .gt => match x, y with
    | .int i, .int j => K (decide (j < i))
    | _, _ => False
  | .ge => match x, y with
    | .int i, .int j => K (decide (j ≤ i))
    | _, _ => False
  | .eq => eqOk x y ∧ K (D.eqb x y)
  | .ne => eqOk x y ∧ K (!D.eqb x y)
  | .is_ => match y with
    | .non => K x.isNon
    | .bl b => match x with
      | .bl c => K (c == b)
      | _ => False
    | _ => False
  | .isn => match y with
    | .non => K (!x.isNon)
    | _ => False
  | .in_ => match y with
    | .lst l => (x.flat = true ∧ l.all D.flat = true) ∧ K (l.any (D.eqb x))
    | .tup l => (x.flat = true ∧ l.all D.flat = true) ∧ K (l.any (D.eqb x))
    | _ => False
  | .nin => match y with
    | .lst l => (x.flat = true ∧ l.all D.flat = true) ∧ K (!l.any (D.eqb x))
    | .tup l => (x.flat = true ∧ l.all D.flat = true) ∧ K (!l.any (D.eqb x))
    | _ => False

def isTy : Ty → D → Option Bool
  | .int, .int _ => some true
  | .int, .bl _ => some true
  | .int, .non => some false
  | .int, .odd _ => some false
  | .int, .str _ => some false
  | .int, .tup _ => some false
  | .int, .lst _ => some false
  | .bool, .bl _ => some true
  | .bool, .int _ => some false
  | .bool, .non => some false
  | .bool, .odd _ => some false
  | .bool, .str _ => some false
  | .bool, .tup _ => some false
  | .bool, .lst _ => some false
  | .tup, .tup _ => some true
  | .tup, .int _ => some false
  | .tup, .bl _ => some false
  | .tup, .non => some false
  | .tup, .odd _ => some false
  | .tup, .str _ => some false
  | .tup, .lst _ => some false
  | .lst, .lst _ => some true
  | .lst, .int _ => some false
  | .lst, .bl _ => some false
  | .lst, .non => some false
  | .lst, .odd _ => some false
  | .lst, .str _ => some false
  | .lst, .tup _ => some false
  | .str, .str _ => some true
  | .str, .int _ => some false
  | .str, .bl _ => some false
  | .str, .non => some false
  | .str, .odd _ => some false
  | .str, .lst _ => some false
  | .str, .tup _ => some false
  | .obj c, .obj c' _ => if c' = c then some true else none
  | .obj _, .int _ => some false
  | .obj _, .bl _ => some false
  | .obj _, .non => some false
  | .obj _, .odd _ => some false
  | .obj _, .str _ => some false
  | .obj _, .tup _ => some false
  | .obj _, .lst _ => some false
  | _, _ => none

/-- a list that may be read: a value, or what stands at an address -/
def asL (h : AH) : D → Option (List D)
  | .lst l => some l
  | .ref a => match h a with
    | some (.lst l) => some l
    | _ => none
  | _ => none
def asLT (h : AH) : D → Option (List D)
  | .lst l => some l
  | .tup l => some l
  | .ref a => match h a with
    | some (.lst l) => some l
    | _ => none
  | _ => none

/-- the place of an index -/
def ixP (n : Nat) (i : Int) : Option Nat :=
  if 0 ≤ i then (if i < n then some i.toNat else none) else (if -(n : Int) ≤ i then some (i + n).toNat else none)
/-- where a slice's bound falls (step 1) -/
def slP (n : Nat) (i : Int) : Nat := if 0 ≤ i then min i.toNat n else (i + n).toNat

inductive Bi where | abs | int | len | max | min | sum | all | any | sorted | list | tuple | str | divmod
inductive BM where | bits | count

def intsOf : List D → Option (List Int)
  | [] => some []
  | .int i :: r => match intsOf r with
    | some l => some (i :: l)
    | none => none
  | _ => none
def boolsOf : List D → Option (List Bool)
  | [] => some []
  | .bl i :: r => match boolsOf r with
    | some l => some (i :: l)
    | none => none
  | _ => none
def maxL : List Int → Int
  | [] => 0
  | [x] => x
  | x :: r => max x (maxL r)
def minL : List Int → Int
  | [] => 0
  | [x] => x
  | x :: r => min x (minL r)

def wBi (b : Bi) (ds : List D) (h : AH) (K : D → Prop) : Prop :=
  match b with
  | .abs => match ds with
    | [.int i] => K (.int (i.natAbs : Int))
    | _ => False
  | .int => match ds with
    | [.int i] => K (.int i)
    | [.bl b] => K (.int (if b then 1 else 0))
    | [.str s] => (s ≠ [] ∧ s.length ≤ 640 ∧ digS s = true) ∧ K (.int (decN s))
    | _ => False
  | .len => match ds with
    | [d] => match d with
      | .str s => s.length ≤ SL ∧ K (.int s.length)
      | d => match asLT h d with
        | some l => K (.int l.length)
        | none => False
    | _ => False
  | .max => match ds with
    | [.int i, .int j] => K (.int (max i j))
    | [.int i, .int j, .int k] => K (.int (max (max i j) k))
    | [d] => match asL h d with
      | some l => match intsOf l with
        | some ns => 0 < ns.length ∧ K (.int (maxL ns))
        | none => False
      | none => False
    | _ => False
  | .min => match ds with
    | [.int i, .int j] => K (.int (min i j))
    | [.int i, .int j, .int k] => K (.int (min (min i j) k))
    | [d] => match asL h d with
      | some l => match intsOf l with
        | some ns => 0 < ns.length ∧ K (.int (minL ns))
        | none => False
      | none => False
    | _ => False
  | .sum => match ds with
    | [d] => match asL h d with
      | some l => match intsOf l with
        | some ns => K (.int ns.sum)
        | none => False
      | none => False
    | _ => False
  | .all => match ds with
    | [d] => match asL h d with
      | some l => match boolsOf l with
        | some ns => K (.bl (ns.all id))
        | none => False
      | none => False
    | _ => False
  | .any => match ds with
    | [d] => match asL h d with
      | some l => match boolsOf l with
        | some ns => K (.bl (ns.any id))
        | none => False
      | none => False
    | _ => False
  | .divmod => match ds with
    | [.int i, .int j] => (0 < j ∧ bitsI j ≤ 9000) ∧ K (.tup [.int (i / j), .int (i % j)])
    | _ => False
  | _ => False

/-! ### the text -/
mutual
inductive E where
  | var (i : Nat)
  | int (i : Int)
  | bl (b : Bool)
  | non
  | str (s : List Nat)
  | gcon (g : Nat) (d : D)
  | dct
  | gfn (n : Nat)
  | bin (op : BOp) (a b : E)
  | neg (a : E)
  | not (a : E)
  | ands (es : Es)
  | ors (es : Es)
  | cmp (op : COp) (a b : E)
  | chain (o1 o2 : COp) (a b c : E)
  | ite (c a b : E)
  | tup (es : Es)
  | lst (es : Es)
  | refl (es : Es)
  | call (f : Nat) (es : Es) (dv : List D)
  | callk (f : Nat) (es ks : Es) (perm : List Nat)
  | callv (i : Nat) (es : Es)
  /-- f(lambda: e) -/
  | lamc (f : Nat) (e : E)
  /-- the call of what was given -/
  | act (i : Nat)
  | meth (f c : Nat) (o : E) (es : Es) (dv : List D)
  | make (f c : Nat) (es : Es) (frz : Bool)
  | bi (b : Bi) (es : Es)
  | isin (e : E) (t : Ty)
  | bits (o : E)
  | count (o e : E)
  | fld (o : E) (f : Nat)
  | xfld (i : Nat) (cs : List Nat)
  | idx (o i : E)
  | oidx (i : Nat) (e : E)
  | olen (i : Nat)
  | slTo (o b : E)
  | slFrom (o a : E)
  | slOf (o a b : E)
  | slRev (o : E)
  | comp (t : Tg) (it : It) (c : Es) (e : E) (own : List Nat)
inductive Es where
  | nil
  | cons (e : E) (es : Es)
inductive It where
  | seq (e : E)
  | rng1 (b : E)
  | rng2 (a b : E)
  | rng3 (a b c : E)
  | zip (a b : E)
  | enum (e : E)
inductive Tg where
  | name (i : Nat)
  | tup (ts : Tgs)
inductive Tgs where
  | nil
  | cons (t : Tg) (ts : Tgs)
end
mutual
inductive S where
  | set (i : Nat) (e : E)
  | setC (i : Nat) (e : E)
  | set2 (i j : Nat) (e : E)
  | setOwn (i : Nat) (e : E)
  | setT (ts : Tgs) (e : E)
  | setP (i j : Nat) (a b : E)
  | setP3 (i j k : Nat) (a b c : E)
  /-- x, y = a, [..]: the second one an own list -/
  | setPO (i j : Nat) (a : E) (es : Es)
  | setFld (c : Nat) (o : E) (f : Nat) (e : E)
  | setIdx (o i e : E)
  | expr (e : E)
  | app (i : Nat) (e : E)
  | ext (i : Nat) (e : E)
  | ret (e : E)
  | retN
  | ite (c : E) (a b : Ss)
  | whl (c : E) (b : Ss)
  | for_ (t : Tg) (it : It) (b : Ss)
  | try_ (b : Ss) (hs : Hs)
  | raise (c : Nat) (e : E)
  | never
  | pass
  | cont
  | frz (i : Nat)
inductive Ss where
  | nil
  | cons (s : S) (r : Ss)
inductive Hs where
  | nil
  | cons (c : Nat) (n : Option Nat) (b : Ss) (r : Hs)
end

/-! ### what must hold -/
structure Exc where
  c : Nat
  v : D
abbrev QE := D → AH → Prop
abbrev RE := Exc → AH → Prop
abbrev Spec := List D → AH → QE → RE → Prop
/-- the defs by number; a class below another -/
structure Gam where
  fn : Nat → Spec
  clo : Nat → List D → Spec
  sub : Nat → Nat → Option Bool
  /-- a def that is given a call, by what the call does -/
  hf : Nat → (AH → QE → RE → Prop) → AH → QE → RE → Prop := fun _ _ _ _ _ => False
  /-- what was given, where it stands -/
  act : AH → QE → RE → Prop := fun _ _ _ => False
  actA : Nat := 0
/-- within a def that was given a call -/
def Gam.given (Γ : Gam) (a : Nat) (act : AH → QE → RE → Prop) : Gam := { Γ with act := act, actA := a }

mutual
def bindT : Tg → D → Env → (Env → Prop) → Prop
  | .name i, d, σ, K => K (σ.put i (.val d))
  | .tup ts, d, σ, K => match d with
    | .tup l => bindTs ts l σ K
    | .lst l => bindTs ts l σ K
    | _ => False
def bindTs : Tgs → List D → Env → (Env → Prop) → Prop
  | .nil, l, σ, K => match l with
    | [] => K σ
    | _ => False
  | .cons t ts, l, σ, K => match l with
    | d :: r => bindT t d σ (fun σ' => bindTs ts r σ' K)
    | [] => False
end

def loopC (step : D → AH → (Option D → AH → Prop) → Prop) : List D → List D → AH → (List D → AH → Prop) → Prop
  | [], acc, h, K => K acc h
  | d :: r, acc, h, K => step d h (fun o h' => match o with
    | some y => acc.length < SL ∧ loopC step r (acc ++ [y]) h' K
    | none => loopC step r acc h' K)

def rangeL (a : Int) (n : Nat) : List D := (List.range n).map fun (i : Nat) => .int (a + i)
def rangeC (a : Int) (n : Nat) (c : Int) : List D := (List.range n).map fun (i : Nat) => .int (a + i * c)
def rngN (a b c : Int) : Nat := if 0 < c then ((b - a + c - 1) / c).toNat else ((a - b + (-c) - 1) / (-c)).toNat
/-- ranges of integers of any size are walked; nothing is asked -/
def okR (i : Int) : Prop := i = i ∧ i = i
def okR3 (i : Int) : Prop := -(2 ^ 62) ≤ i ∧ i < 2 ^ 62
def zipD (a b : List D) : List D := List.zipWith (fun x y => .tup [x, y]) a b
def enumD (l : List D) : List D := List.zipWith (fun (i : Nat) y => .tup [.int i, y]) (List.range l.length) l
def permD (p : List Nat) (l : List D) : List D := p.filterMap (l[·]?)

def D.asObj (h : AH) : D → Option (Nat × List (Nat × D))
  | .obj c fs => some (c, fs)
  | .ref a => match h a with
    | some (.obj c fs) => some (c, fs)
    | _ => none
  | _ => none
def getF (f : Nat) : List (Nat × D) → Option D
  | [] => none
  | (g, d) :: r => if g = f then some d else getF f r
def putF (f : Nat) (d : D) : List (Nat × D) → List (Nat × D)
  | [] => [(f, d)]
  | (g, e) :: r => if g = f then (g, d) :: r else (g, e) :: putF f d r

mutual
def wpE (Γ : Gam) : E → Env → AH → QE → RE → Prop
  | .var i, σ, h, Q, _ => match σ.at i with
    | .val d => Q d h
    | _ => False
  | .int i, _, h, Q, _ => Q (.int i) h
  | .bl b, _, h, Q, _ => Q (.bl b) h
  | .non, _, h, Q, _ => Q .non h
  | .str s, _, h, Q, _ => Q (.str s) h
  | .gcon _ d, _, h, Q, _ => Q d h
  | .dct, _, h, Q, _ => Q (.odd 0) h
  | .gfn n, _, h, Q, _ => Q (.fn n) h
  | .bin op a b, σ, h, Q, R => wpE Γ a σ h (fun x h => wpE Γ b σ h (fun y h => wBin op x y fun z => Q z h) R) R
  | .neg a, σ, h, Q, R => wpE Γ a σ h (fun x h => match x with
    | .int i => Q (.int (-i)) h
    | _ => False) R
  | .not a, σ, h, Q, R => wpE Γ a σ h (fun x h => match x with
    | .bl b => Q (.bl (!b)) h
    | _ => False) R
  | .ands es, σ, h, Q, R => wpAnd Γ es σ h Q R
  | .ors es, σ, h, Q, R => wpOr Γ es σ h Q R
  | .cmp op a b, σ, h, Q, R => wpE Γ a σ h (fun x h => wpE Γ b σ h (fun y h => wCmp op x y fun k => Q (.bl k) h) R) R
  | .chain o1 o2 a b c, σ, h, Q, R => wpE Γ a σ h (fun x h => wpE Γ b σ h (fun y h => wCmp o1 x y fun k => if k = true then wpE Γ c σ h (fun z h => wCmp o2 y z fun k => Q (.bl k) h) R else Q (.bl false) h) R) R
  | .ite c a b, σ, h, Q, R => wpE Γ c σ h (fun x h => match x with
    | .bl k => if k = true then wpE Γ a σ h Q R else wpE Γ b σ h Q R
    | _ => False) R
  | .tup es, σ, h, Q, R => wpEs Γ es σ h (fun ds h => ds.length ≤ SL ∧ Q (.tup ds) h) R
  | .lst es, σ, h, Q, R => wpEs Γ es σ h (fun ds h => ds.length ≤ SL ∧ Q (.lst ds) h) R
  | .refl es, σ, h, Q, R => wpEs Γ es σ h (fun ds h => ds.length ≤ SL ∧ ∀ a, h a = none → Q (.ref a) (h.put a (.lst ds))) R
  | .call f es dv, σ, h, Q, R => wpEs Γ es σ h (fun ds h => Γ.fn f (ds ++ dv) h Q R) R
  | .callk f es ks p, σ, h, Q, R => wpEs Γ es σ h (fun ds h => wpEs Γ ks σ h (fun es h => Γ.fn f (permD p (ds ++ es)) h Q R) R) R
  | .callv i es, σ, h, Q, R => match σ.at i with
    | .val (.fn n) => n < 1000 ∧ wpEs Γ es σ h (fun ds h => Γ.fn n ds h Q R) R
    | .val (.clo n vs) => wpEs Γ es σ h (fun ds h => Γ.clo n vs ds h Q R) R
    | _ => False
  | .lamc f e, σ, h, Q, R => Γ.hf f (fun h Q R => wpE Γ e σ.nox h Q R) h Q R
  | .act i, σ, h, Q, R => match σ.at i with
    | .val (.ref a) => a = Γ.actA ∧ Γ.act h Q R
    | _ => False
  | .meth f c o es dv, σ, h, Q, R => wpE Γ o σ h (fun x h => match x.asObj h with
    | some (c', _) => c' = c ∧ wpEs Γ es σ h (fun ds h => Γ.fn f (x :: (ds ++ dv)) h Q R) R
    | none => False) R
  | .make f c es fz, σ, h, Q, R => wpEs Γ es σ h (fun ds h => ∀ a, h a = none → Γ.fn f (.ref a :: ds) (h.put a (.obj c [])) (fun d h' => match d with
    | .non => match fz with
      | true => ∃ fs, h' a = some (.obj c fs) ∧ Q (.obj c fs) (fun b => if b = a then none else h' b)
      | false => Q (.ref a) h'
    | _ => False) R) R
  | .bi b es, σ, h, Q, R => wpEs Γ es σ h (fun ds h => wBi b ds h fun d => Q d h) R
  | .isin e t, σ, h, Q, R => wpE Γ e σ h (fun x h => match isTy t x with
    | some b => Q (.bl b) h
    | none => False) R
  | .bits o, σ, h, Q, R => wpE Γ o σ h (fun x h => match x with
    | .int i => Q (.int (bitsI i : Nat)) h
    | _ => False) R
  | .count o e, σ, h, Q, R => wpE Γ o σ h (fun x h => wpE Γ e σ h (fun y h => match asL h x, y with
    | some l, .int k => match intsOf l with
      | some ns => Q (.int (ns.count k : Nat)) h
      | none => False
    | _, _ => False) R) R
  | .fld o f, σ, h, Q, R => wpE Γ o σ h (fun x h => match x.asObj h with
    | some (_, fs) => match getF f fs with
      | some d => Q d h
      | none => False
    | none => False) R
  | .xfld i cs, σ, h, Q, _ => match σ.at i with
    | .exc c d => c ∈ cs ∧ Q d h
    | _ => False
  | .idx o i, σ, h, Q, R => wpE Γ o σ h (fun x h => wpE Γ i σ h (fun y h => match y with
    | .int k => match asLT h x with
      | some l => match ixP l.length k with
        | some j => match l[j]? with
          | some d => Q d h
          | none => False
        | none => False
      | none => False
    | _ => False) R) R
  | .oidx i e, σ, h, Q, R => match σ.at i with
    | .own l => wpE Γ e σ h (fun y h => match y with
      | .int k => match ixP l.length k with
        | some j => match l[j]? with
          | some d => Q d h
          | none => False
        | none => False
      | _ => False) R
    | _ => False
  | .olen i, σ, h, Q, _ => match σ.at i with
    | .own l => Q (.int l.length) h
    | _ => False
  | .slTo o b, σ, h, Q, R => wpE Γ o σ h (fun x h => wpE Γ b σ h (fun y h => match y with
    | .int k => match asL h x with
      | some l => Q (.lst (l.take (slP l.length k))) h
      | none => match x with
        | .tup l => slP l.length k ≠ l.length ∧ Q (.tup (l.take (slP l.length k))) h
        | _ => False
    | _ => False) R) R
  | .slFrom o a, σ, h, Q, R => wpE Γ o σ h (fun x h => wpE Γ a σ h (fun y h => match y with
    | .int k => match asL h x with
      | some l => Q (.lst (l.drop (slP l.length k))) h
      | none => match x with
        | .tup l => slP l.length k ≠ 0 ∧ Q (.tup (l.drop (slP l.length k))) h
        | _ => False
    | _ => False) R) R
  | .slOf o a b, σ, h, Q, R => wpE Γ o σ h (fun x h => wpE Γ a σ h (fun y h => match y with
    | .int k => wpE Γ b σ h (fun z h => match z with
      | .int m => match asL h x with
        | some l => Q (.lst ((l.take (slP l.length m)).drop (slP l.length k))) h
        | none => False
      | _ => False) R
    | _ => False) R) R
  | .slRev o, σ, h, Q, R => wpE Γ o σ h (fun x h => match asL h x with
    | some l => Q (.lst l.reverse) h
    | none => False) R
  | .comp t it c e own, σ, h, Q, R => wpI Γ it σ h (fun ds h => loopC (fun d h K => bindT t d (σ.nox.wipe own) fun σ' => wpT Γ c σ' h (fun k h => if k = true then wpE Γ e σ' h (fun y h => K (some y) h) (fun _ _ => False) else K none h)) ds [] h fun l h => Q (.lst l) h) R
/-- the tests of a comprehension: none, or one -/
def wpT (Γ : Gam) : Es → Env → AH → (Bool → AH → Prop) → Prop
  | .nil, _, h, K => K true h
  | .cons e r, σ, h, K => wpE Γ e σ h (fun x h => match x with
    | .bl k => match r with
      | .nil => K k h
      | .cons _ _ => False
    | _ => False) (fun _ _ => False)
def wpEs (Γ : Gam) : Es → Env → AH → (List D → AH → Prop) → RE → Prop
  | .nil, _, h, Q, _ => Q [] h
  | .cons e r, σ, h, Q, R => wpE Γ e σ h (fun x h => wpEs Γ r σ h (fun xs h => Q (x :: xs) h) R) R
def wpAnd (Γ : Gam) : Es → Env → AH → QE → RE → Prop
  | .nil, _, _, _, _ => False
  | .cons e r, σ, h, Q, R => match r with
    | .nil => wpE Γ e σ h Q R
    | .cons _ _ => wpE Γ e σ h (fun x h => match x with
      | .bl k => if k = true then wpAnd Γ r σ h Q R else Q (.bl false) h
      | _ => False) R
def wpOr (Γ : Gam) : Es → Env → AH → QE → RE → Prop
  | .nil, _, _, _, _ => False
  | .cons e r, σ, h, Q, R => match r with
    | .nil => wpE Γ e σ h Q R
    | .cons _ _ => wpE Γ e σ h (fun x h => match x with
      | .bl k => if k = true then Q (.bl true) h else wpOr Γ r σ h Q R
      | _ => False) R
def wpI (Γ : Gam) : It → Env → AH → (List D → AH → Prop) → RE → Prop
  | .seq e, σ, h, K, R => wpE Γ e σ h (fun x h => match x with
    | .lst l => K l h
    | .tup l => K l h
    | _ => False) R
  | .rng1 b, σ, h, K, R => wpE Γ b σ h (fun x h => match x with
    | .int j => okR j ∧ K (rangeL 0 j.toNat) h
    | _ => False) R
  | .rng2 a b, σ, h, K, R => wpE Γ a σ h (fun x h => wpE Γ b σ h (fun y h => match x, y with
    | .int i, .int j => okR i ∧ okR j ∧ K (rangeL i (j - i).toNat) h
    | _, _ => False) R) R
  | .rng3 a b c, σ, h, K, R => wpE Γ a σ h (fun x h => wpE Γ b σ h (fun y h => wpE Γ c σ h (fun z h => match x, y, z with
    | .int i, .int j, .int k => okR3 i ∧ okR3 j ∧ k ≠ 0 ∧ k.natAbs < 1000000 ∧ K (rangeC i (rngN i j k) k) h
    | _, _, _ => False) R) R) R
  | .zip a b, σ, h, K, R => wpE Γ a σ h (fun x h => wpE Γ b σ h (fun y h => match x, y with
    | .lst l, .lst m => K (zipD l m) h
    | _, _ => False) R) R
  | .enum e, σ, h, K, R => wpE Γ e σ h (fun x h => match x with
    | .lst l => K (enumD l) h
    | _ => False) R
end

structure Post where
  nx : Env → AH → Prop
  rt : D → AH → Prop
  ct : Env → AH → Prop
  R : Exc → Env → AH → Prop

def forL (body : Env → AH → Post → Prop) (bind : D → Env → (Env → Prop) → Prop) : List D → Env → AH → Post → Prop
  | [], σ, h, P => P.nx σ h
  | d :: r, σ, h, P => bind d σ fun σ' => body σ' h { P with nx := fun σ h => forL body bind r σ h P, ct := fun σ h => forL body bind r σ h P }

/-- expressions that make a new list -/
def wpF (Γ : Gam) (e : E) (σ : Env) (h : AH) (K : List D → AH → Prop) (R : RE) : Prop :=
  match e with
  | .lst es => wpEs Γ es σ h (fun ds h => ds.length ≤ SL ∧ K ds h) R
  | .bin .add a b => wpE Γ a σ h (fun x h => wpE Γ b σ h (fun y h => match x, y with
    | .lst l, .lst m => l.length + m.length ≤ SL ∧ K (l ++ m) h
    | _, _ => False) R) R
  | _ => False

mutual
def wpS (Γ : Gam) : S → Env → AH → Post → Prop
  | .set i e, σ, h, P => wpE Γ e σ h (fun d h => P.nx (σ.put i (.val d)) h) (fun x h => P.R x σ h)
  | .setC i e, σ, h, P => wpE Γ e σ h (fun d h => P.nx (σ.put i (.val d)) h) (fun x h => P.R x σ h)
  | .set2 i j e, σ, h, P => wpE Γ e σ h (fun d h => P.nx ((σ.put i (.val d)).put j (.val d)) h) (fun x h => P.R x σ h)
  | .setOwn i e, σ, h, P => wpF Γ e σ h (fun ds h => P.nx (σ.put i (.own ds)) h) (fun x h => P.R x σ h)
  | .setT ts e, σ, h, P => wpE Γ e σ h (fun d h => match d with
    | .tup l => bindTs ts l σ (fun σ' => P.nx σ' h)
    | .lst l => bindTs ts l σ (fun σ' => P.nx σ' h)
    | _ => False) (fun x h => P.R x σ h)
  | .setP i j a b, σ, h, P => wpE Γ a σ h (fun x h => wpE Γ b σ h (fun y h => P.nx ((σ.put i (.val x)).put j (.val y)) h) (fun x h => P.R x σ h)) (fun x h => P.R x σ h)
  | .setPO i j a es, σ, h, P => wpE Γ a σ h (fun x h => wpF Γ (.lst es) σ h (fun ds h => P.nx ((σ.put i (.val x)).put j (.own ds)) h) (fun x h => P.R x σ h)) (fun x h => P.R x σ h)
  | .setP3 i j k a b c, σ, h, P => wpE Γ a σ h (fun x h => wpE Γ b σ h (fun y h => wpE Γ c σ h (fun z h => P.nx (((σ.put i (.val x)).put j (.val y)).put k (.val z)) h) (fun x h => P.R x σ h)) (fun x h => P.R x σ h)) (fun x h => P.R x σ h)
  | .setFld c o f e, σ, h, P => wpE Γ e σ h (fun d h => wpE Γ o σ h (fun x h => match x with
    | .ref a => match h a with
      | some (.obj c' fs) => (c' = c ∧ fs.length < 1000) ∧ P.nx σ (h.put a (.obj c (putF f d fs)))
      | _ => False
    | _ => False) (fun x h => P.R x σ h)) (fun x h => P.R x σ h)
  | .setIdx o i e, σ, h, P => wpE Γ e σ h (fun d h => wpE Γ o σ h (fun x h => wpE Γ i σ h (fun y h => match x, y with
    | .ref a, .int k => match h a with
      | some (.lst l) => match ixP l.length k with
        | some j => P.nx σ (h.put a (.lst (l.set j d)))
        | none => False
      | _ => False
    | _, _ => False) (fun x h => P.R x σ h)) (fun x h => P.R x σ h)) (fun x h => P.R x σ h)
  | .expr e, σ, h, P => wpE Γ e σ h (fun _ h => P.nx σ h) (fun x h => P.R x σ h)
  | .app i e, σ, h, P => match σ.at i with
    | .own l => wpE Γ e σ h (fun d h => l.length < SL ∧ P.nx (σ.put i (.own (l ++ [d]))) h) (fun x h => P.R x σ h)
    | _ => False
  | .ext i e, σ, h, P => match σ.at i with
    | .own l => wpE Γ e σ h (fun d h => match d with
      | .lst m => l.length + m.length ≤ SL ∧ P.nx (σ.put i (.own (l ++ m))) h
      | _ => False) (fun x h => P.R x σ h)
    | _ => False
  | .ret e, σ, h, P => wpE Γ e σ h P.rt (fun x h => P.R x σ h)
  | .retN, _, h, P => P.rt .non h
  | .ite c a b, σ, h, P => wpE Γ c σ h (fun x h => match x with
    | .bl k => if k = true then wpSs Γ a σ h P else wpSs Γ b σ h P
    | _ => False) (fun x h => P.R x σ h)
  | .whl c b, σ, h, P => ∃ W : Nat → Env → AH → Prop, (∃ m, W m σ h) ∧ ∀ m σ h, W m σ h → wpE Γ c σ h (fun x h => match x with
    | .bl k => if k = true then wpSs Γ b σ h { P with nx := fun σ h => ∃ m', m' < m ∧ W m' σ h, ct := fun σ h => ∃ m', m' < m ∧ W m' σ h } else P.nx σ h
    | _ => False) (fun x h => P.R x σ h)
  | .for_ t it b, σ, h, P => wpI Γ it σ h (fun ds h => forL (fun σ h P => wpSs Γ b σ h P) (bindT t) ds σ h P) (fun x h => P.R x σ h)
  | .try_ b hs, σ, h, P => wpSs Γ b σ.nex h ⟨fun σ h => P.nx σ.nex h, P.rt, fun σ h => P.ct σ.nex h, fun x σ h => wpH Γ hs x σ.nex h P⟩
  | .raise c e, σ, h, P => wpE Γ e σ h (fun d h => P.R ⟨c, d⟩ σ h) (fun x h => P.R x σ h)
  | .never, _, _, _ => False
  | .pass, σ, h, P => P.nx σ h
  | .cont, σ, h, P => P.ct σ h
  | .frz i, σ, h, P => match σ.at i with
    | .own l => P.nx (σ.put i (.val (.lst l))) h
    | _ => False
def wpSs (Γ : Gam) : Ss → Env → AH → Post → Prop
  | .nil, σ, h, P => P.nx σ h
  | .cons s r, σ, h, P => wpS Γ s σ h { P with nx := fun σ h => wpSs Γ r σ h P }
def wpH (Γ : Gam) : Hs → Exc → Env → AH → Post → Prop
  | .nil, x, σ, h, P => P.R x σ h
  | .cons c n b r, x, σ, h, P => match Γ.sub x.c c with
    | some true => (match n with
      | some i => wpSs Γ b (σ.put i (.exc x.c x.v)) h ⟨fun σ h => P.nx (σ.put i .un).nex h, P.rt, fun σ h => P.ct (σ.put i .un).nex h, fun _ _ _ => False⟩
      | none => wpSs Γ b σ h ⟨fun σ h => P.nx σ.nex h, P.rt, fun σ h => P.ct σ.nex h, fun _ _ _ => False⟩)
    | some false => wpH Γ r x σ h P
    | none => False
end

/-- a def's text: how many parameters, how many names, the body -/
structure Fd where
  np : Nat
  ns : Nat
  body : Ss
def start (ns : Nat) (ds : List D) : Env := ds.map .val ++ List.replicate (ns - ds.length) .un
def BodyOk (Γ : Gam) (f : Fd) (sp : Spec) : Prop :=
  ∀ ds h Q R, sp ds h Q R → ds.length = f.np ∧ wpSs Γ f.body (start f.ns ds) h ⟨fun _ h => Q .non h, Q, fun _ _ => False, fun x _ h => R x h⟩
/-- a def that is given a call -/
def BodyOkH (Γ : Gam) (f : Fd) (sp : (AH → QE → RE → Prop) → AH → QE → RE → Prop) : Prop :=
  ∀ a act h Q R, sp act h Q R → f.np = 1 ∧ wpSs (Γ.given a act) f.body (start f.ns [.ref a]) h ⟨fun _ h => Q .non h, Q, fun _ _ => False, fun x _ h => R x h⟩
/-- the same, where objects made on the way may be forgotten -/
def BodyOkD (Γ : Gam) (f : Fd) (sp : Spec) : Prop :=
  ∀ ds h Q R, sp ds h Q R → ds.length = f.np ∧ wpSs Γ f.body (start f.ns ds) h ⟨fun _ h => ∃ h', AH.Sub h' h ∧ Q .non h', fun d h => ∃ h', AH.Sub h' h ∧ Q d h', fun _ _ => False, fun x _ h => ∃ h', AH.Sub h' h ∧ R x h'⟩
end FF

namespace FF
open PySem PySem.Spec PyProof.Rows L2

/-! ### the machine's names for our numbers -/
structure Tb where
  K : PySem.W.Frag
  cA : Nat → Addr
  fA : Nat → Addr
  tbl : List Str
  nd : tbl.Nodup
  xf : Nat → Str
  lam : List (Addr × Str) := []

abbrev sOf (s : List Nat) : Str := ⟨s.toArray⟩
mutual
inductive Rep (T : Tb) (F : Hp) : D → V → Prop
  | non : Rep T F .non .non
  | bl {b : Bool} : Rep T F (.bl b) (.bl b)
  | int {i : Int} : Rep T F (.int i) (.int i)
  | str {s : List Nat} : Rep T F (.str s) (.str (sOf s))
  | tup {l : List D} {a : Addr} {vs : List V} : SqT T.K F a vs → Reps T F l vs → Rep T F (.tup l) (.ref a)
  | lst {l : List D} {a : Addr} {vs : List V} : SqL T.K F a vs → Reps T F l vs → Rep T F (.lst l) (.ref a)
  | obj {c : Nat} {fs : List (Nat × D)} {a dx : Addr} {fvs : List (Str × V)} : F a = some (.ins (T.cA c) dx fvs) → Cls T.K (T.cA c) → RepF T F c fs fvs → Rep T F (.obj c fs) (.ref a)
  | ref {a : Addr} : Rep T F (.ref a) (.ref a)
  | fn {n : Nat} : Rep T F (.fn n) (.ref (T.fA n))
  | dct {a : Addr} : F a = some (.dK []) → Rep T F (.odd 0) (.ref a)
inductive Reps (T : Tb) (F : Hp) : List D → List V → Prop
  | nil : Reps T F [] []
  | cons {d : D} {v : V} {ds : List D} {vs : List V} : Rep T F d v → Reps T F ds vs → Reps T F (d :: ds) (v :: vs)
inductive RepF (T : Tb) (F : Hp) : Nat → List (Nat × D) → List (Str × V) → Prop
  | nil {c : Nat} : RepF T F c [] []
  | cons {c : Nat} {f : Nat} {x : Str} {d : D} {v : V} {ds : List (Nat × D)} {vs : List (Str × V)} : T.tbl[f]? = some x ∧ NoAttr T.K (T.cA c) x → Rep T F d v → RepF T F c ds vs → RepF T F c ((f, d) :: ds) ((x, v) :: vs)
end
theorem Same.sqt {K : PySem.W.Frag} {H H' : Hp} {a : Addr} {xs : List V} (e : Same H H') (h : SqT K H a xs) : SqT K H' a xs := by
  rcases h with (h | ⟨o, h⟩) | h
  · exact .inl (.inl (e _ _ h))
  · exact .inl (.inr ⟨o, e _ _ h⟩)
  · exact .inr h
mutual
theorem Rep.mono {T : Tb} {F F' : Hp} (e : Same F F') : ∀ {d : D} {v : V}, Rep T F d v → Rep T F' d v
  | _, _, .non => .non
  | _, _, .bl => .bl
  | _, _, .int => .int
  | _, _, .str => .str
  | _, _, .tup h r => .tup (Same.sqt e h) (Reps.mono e r)
  | _, _, .lst h r => .lst (e.seq h) (Reps.mono e r)
  | _, _, .obj h k r => .obj (e _ _ h) k (RepF.mono e r)
  | _, _, .ref => .ref
  | _, _, .fn => .fn
  | _, _, .dct h => .dct (e _ _ h)
theorem Reps.mono {T : Tb} {F F' : Hp} (e : Same F F') : ∀ {d : List D} {v : List V}, Reps T F d v → Reps T F' d v
  | _, _, .nil => .nil
  | _, _, .cons h r => .cons (Rep.mono e h) (Reps.mono e r)
theorem RepF.mono {T : Tb} {F F' : Hp} (e : Same F F') : ∀ {c : Nat} {d : List (Nat × D)} {v : List (Str × V)}, RepF T F c d v → RepF T F' c d v
  | _, _, _, .nil => .nil
  | _, _, _, .cons x h r => .cons x (Rep.mono e h) (RepF.mono e r)
end
section
variable {T : Tb} {F : Hp}
theorem Reps.length : ∀ {d : List D} {v : List V}, Reps T F d v → d.length = v.length
  | _, _, .nil => rfl
  | _, _, .cons _ r => congrArg (· + 1) (Reps.length r)
theorem Reps.append : ∀ {d e : List D} {v u : List V}, Reps T F d v → Reps T F e u → Reps T F (d ++ e) (v ++ u)
  | _, _, _, _, .nil, s => s
  | _, _, _, _, .cons h r, s => .cons h (Reps.append r s)
theorem Reps.get : ∀ {d : List D} {v : List V} {i : Nat} {x : D}, Reps T F d v → d[i]? = some x → ∃ u, v[i]? = some u ∧ Rep T F x u
  | _, _, i, x, .nil, e => by simp at e
  | _, _, 0, x, .cons (d := d) h _, e => by
    have e : d = x := by simpa using e
    subst e
    exact ⟨_, rfl, h⟩
  | _, _, i + 1, x, .cons _ r, e => Reps.get (i := i) r (by simpa using e)
theorem Reps.set {x : D} {u : V} (h : Rep T F x u) : ∀ {d : List D} {v : List V} (i : Nat), Reps T F d v → Reps T F (d.set i x) (v.set i u)
  | _, _, _, .nil => .nil
  | _, _, 0, .cons _ r => .cons h r
  | _, _, i + 1, .cons g r => .cons g (Reps.set h i r)
theorem Reps.take : ∀ {d : List D} {v : List V} (n : Nat), Reps T F d v → Reps T F (d.take n) (v.take n)
  | _, _, 0, _ => .nil
  | _, _, _ + 1, .nil => .nil
  | _, _, n + 1, .cons h r => .cons h (Reps.take n r)
theorem Reps.drop : ∀ {d : List D} {v : List V} (n : Nat), Reps T F d v → Reps T F (d.drop n) (v.drop n)
  | _, _, 0, r => r
  | _, _, _ + 1, .nil => .nil
  | _, _, n + 1, .cons _ r => Reps.drop n r
theorem Reps.reverseAux : ∀ {d e : List D} {v u : List V}, Reps T F d v → Reps T F e u → Reps T F (d.reverseAux e) (v.reverseAux u)
  | _, _, _, _, .nil, s => s
  | _, _, _, _, .cons h r, s => by
    have q := Reps.reverseAux r (Reps.cons h s)
    exact q
theorem Reps.reverse {d : List D} {v : List V} (h : Reps T F d v) : Reps T F d.reverse v.reverse := Reps.reverseAux h .nil
theorem Reps.one {d : D} {v : V} (h : Rep T F d v) : Reps T F [d] [v] := .cons h .nil
theorem Reps.intsOf : ∀ {d : List D} {v : List V} {ns : List Int}, Reps T F d v → intsOf d = some ns → v = ns.map V.int
  | _, _, ns, .nil, e => by
    have e : [] = ns := by simpa [FF.intsOf] using e
    subst e; rfl
  | _, _, ns, .cons (ds := ds) (d := .int i) h r, e => by
    have e' : (match FF.intsOf ds with | some l => some (i :: l) | none => none) = some ns := e
    cases q : FF.intsOf ds with
    | none => rw [q] at e'; cases e'
    | some l =>
      rw [q] at e'
      cases e'
      cases h
      rw [Reps.intsOf r q]
      rfl
  | _, _, ns, .cons (d := .non) _ _, e => by cases e
  | _, _, ns, .cons (d := .bl _) _ _, e => by cases e
  | _, _, ns, .cons (d := .str _) _ _, e => by cases e
  | _, _, ns, .cons (d := .tup _) _ _, e => by cases e
  | _, _, ns, .cons (d := .lst _) _ _, e => by cases e
  | _, _, ns, .cons (d := .obj _ _) _ _, e => by cases e
  | _, _, ns, .cons (d := .ref _) _ _, e => by cases e
  | _, _, ns, .cons (d := .fn _) _ _, e => by cases e
  | _, _, ns, .cons (d := .odd _) _ _, e => by cases e
theorem Reps.boolsOf : ∀ {d : List D} {v : List V} {ns : List Bool}, Reps T F d v → boolsOf d = some ns → v = ns.map V.bl
  | _, _, ns, .nil, e => by
    have e : [] = ns := by simpa [FF.boolsOf] using e
    subst e; rfl
  | _, _, ns, .cons (ds := ds) (d := .bl i) h r, e => by
    have e' : (match FF.boolsOf ds with | some l => some (i :: l) | none => none) = some ns := e
    cases q : FF.boolsOf ds with
    | none => rw [q] at e'; cases e'
    | some l =>
      rw [q] at e'
      cases e'
      cases h
      rw [Reps.boolsOf r q]
      rfl
  | _, _, ns, .cons (d := .non) _ _, e => by cases e
  | _, _, ns, .cons (d := .int _) _ _, e => by cases e
  | _, _, ns, .cons (d := .str _) _ _, e => by cases e
  | _, _, ns, .cons (d := .tup _) _ _, e => by cases e
  | _, _, ns, .cons (d := .lst _) _ _, e => by cases e
  | _, _, ns, .cons (d := .obj _ _) _ _, e => by cases e
  | _, _, ns, .cons (d := .ref _) _ _, e => by cases e
  | _, _, ns, .cons (d := .fn _) _ _, e => by cases e
  | _, _, ns, .cons (d := .odd _) _ _, e => by cases e
theorem tbl_inj {f g : Nat} {x y : Str} (hf : T.tbl[f]? = some x) (hg : T.tbl[g]? = some y) (h : f ≠ g) : x ≠ y := fun e => by
  subst e
  obtain ⟨h1, e1⟩ := List.getElem?_eq_some_iff.mp hf
  obtain ⟨h2, e2⟩ := List.getElem?_eq_some_iff.mp hg
  exact h ((List.getElem_inj T.nd).mp (e1.trans e2.symm))
theorem RepF.get {f : Nat} {x : Str} (hx : T.tbl[f]? = some x) : ∀ {c : Nat} {d : List (Nat × D)} {v : List (Str × V)} {y : D}, RepF T F c d v → getF f d = some y → ∃ u, v.lookup x = some u ∧ Rep T F y u ∧ NoAttr T.K (T.cA c) x
  | _, _, _, y, .nil, e => by cases e
  | _, _, _, y, .cons (f := g) (x := z) (d := d) (v := v) (ds := ds) (vs := vs) hz h r, e => by
    have e' : (if g = f then some d else getF f ds) = some y := e
    by_cases q : g = f
    · rw [if_pos q] at e'
      cases e'
      subst q
      have : z = x := Option.some.inj (hz.1.symm.trans hx)
      subst this
      exact ⟨v, by simp [List.lookup], h, hz.2⟩
    · rw [if_neg q] at e'
      obtain ⟨u, e1, e2, e3⟩ := RepF.get hx r e'
      have ne : x ≠ z := tbl_inj hx hz.1 (fun e => q e.symm)
      have b : (x == z) = false := by simpa using ne
      exact ⟨u, by simp [List.lookup, b, e1], e2, e3⟩
theorem RepF.put {c : Nat} {f : Nat} {x : Str} {y : D} {u : V} (hx : T.tbl[f]? = some x ∧ NoAttr T.K (T.cA c) x) (hy : Rep T F y u) : ∀ {d : List (Nat × D)} {v : List (Str × V)}, RepF T F c d v → RepF T F c (putF f y d) (L2.putF x u v)
  | _, _, .nil => .cons hx hy .nil
  | _, _, .cons (f := g) (x := z) (d := d) (v := v) (ds := ds) (vs := vs) hz h r => by
    by_cases q : g = f
    · subst q
      have : z = x := Option.some.inj (hz.1.symm.trans hx.1)
      subst this
      have e1 : FF.putF g y ((g, d) :: ds) = (g, y) :: ds := if_pos rfl
      have e2 : L2.putF z u ((z, v) :: vs) = (z, u) :: vs := by simp [L2.putF]
      rw [e1, e2]
      exact .cons hz hy r
    · have ne : z ≠ x := tbl_inj hz.1 hx.1 q
      have e1 : FF.putF f y ((g, d) :: ds) = (g, d) :: FF.putF f y ds := if_neg q
      have e2 : L2.putF x u ((z, v) :: vs) = (z, v) :: L2.putF x u vs := by simp [L2.putF, ne]
      rw [e1, e2]
      exact .cons hz h (RepF.put hx hy r)
theorem RepF.length : ∀ {c : Nat} {d : List (Nat × D)} {v : List (Str × V)}, RepF T F c d v → d.length = v.length
  | _, _, _, .nil => rfl
  | _, _, _, .cons _ _ r => congrArg (· + 1) (RepF.length r)
/-- no field bears a method's name -/
theorem RepF.none {c : Nat} {m : Str} {o : Option Value} (hm : PySem.W.findIn T.K (.ref (T.cA c)) m = some o) (ho : o ≠ Option.none) : ∀ {d : List (Nat × D)} {v : List (Str × V)}, RepF T F c d v → v.lookup m = Option.none
  | _, _, .nil => rfl
  | _, _, .cons (x := x) hz _ r => by
    have ne : m ≠ x := fun e => by
      subst e
      have := hz.2
      unfold NoAttr at this
      rw [hm] at this
      exact ho (Option.some.inj this)
    have b : (m == x) = false := by simpa using ne
    simp [List.lookup, b, RepF.none hm ho r]
end

/-! ### the state -/
def CellR (T : Tb) (F : Hp) (H : Hp) (a : Addr) : Cell → Prop
  | .lst l => ∃ vs, H a = some (.lst vs) ∧ Reps T F l vs
  | .obj c fs => ∃ dx fvs, H a = some (.ins (T.cA c) dx fvs) ∧ Cls T.K (T.cA c) ∧ RepF T F c fs fvs
def SlotR (T : Tb) (pn : List (Addr × Obj)) (F G : Hp) (h : AH) (H : Hp) (o : Option (Option V)) : Slot → Prop
  | .un => True
  | .val d => ∃ v, o = some (some v) ∧ Rep T F d v
  | .own l => ∃ a vs, o = some (some (.ref a)) ∧ H a = some (.lst vs) ∧ F a = none ∧ G a = none ∧ h a = none ∧ Reps T F l vs
  | .exc c d => ∃ a oe dd v, o = some (some (.ref a)) ∧ (a, oe) ∈ pn ∧ Zc (.ref (T.cA c)) (some dd) oe ∧ (∃ fv, oe.data = .fields fv) ∧ F dd = some (.xd [(T.xf c, v)]) ∧ Rep T F d v
/-- the tables of the lambdas stand; nobody else tells of tables -/
structure TbS (T : Tb) (F G H : Hp) : Prop where
  tabs : LamX.Tabs T.lam H
  nF : ∀ b ps, F b ≠ some (.tbl ps)
  nG : ∀ b ps, G b ≠ some (.tbl ps)
/-- lists and objects change, nothing else -/
theorem TbS.go {T : Tb} {F G H F' G' H' : Hp} (x : TbS T F G H) (e : ∀ b o, H b = some o → (∀ vs, o ≠ .lst vs) → (∀ c d f, o ≠ .ins c d f) → H' b = some o) (hF : ∀ b ps, F' b = some (.tbl ps) → F b = some (.tbl ps)) (hG : ∀ b ps, G' b = some (.tbl ps) → G b = some (.tbl ps)) : TbS T F' G' H' := by
  refine ⟨fun p hp => ?_, fun b ps z => x.nF b ps (hF b ps z), fun b ps z => x.nG b ps (hG b ps z)⟩
  obtain ⟨ps, h1, h2, h3⟩ := x.tabs p hp
  refine ⟨ps, e _ _ h1 (fun _ z => by cases z) (fun _ _ _ z => by cases z), h2, fun pos cv hc => ?_⟩
  obtain ⟨c, e1, e2⟩ := h3 pos cv hc
  exact ⟨c, e1, e _ _ e2 (fun _ z => by cases z) (fun _ _ _ z => by cases z)⟩
theorem upd_tbl {F : Hp} {p b : Addr} {o : HO} {ps : Array Value} (h : ∀ ps, o ≠ .tbl ps) (z : upd F p o b = some (.tbl ps)) : F b = some (.tbl ps) := by
  by_cases hb : b = p
  · subst hb
    rw [upd_same] at z
    exact absurd (Option.some.inj z) (h ps)
  · rw [upd_ne hb] at z
    exact z
/-- F: what never changes; G: the others'; h: what may be changed -/
structure SH (T : Tb) (F G : Hp) (h : AH) (H : Hp) : Prop where
  sF : Same F H
  sG : Same G H
  dis : ∀ b, F b = none ∨ G b = none
  cell : ∀ a c, h a = some c → F a = none ∧ G a = none ∧ CellR T F H a c
  tb : TbS T F G H
structure SR0 (T : Tb) (pn : List (Addr × Obj)) (F G : Hp) (σ : Env) (h : AH) (τ : L2.St) (H : Hp) : Prop where
  sh : SH T F G h H
  len : σ.length = τ.length
  slot : ∀ i, SlotR T pn F G h H τ[i]? (σ.at i)
  sep : ∀ i j l m a, i ≠ j → σ.at i = .own l → σ.at j = .own m → τ[i]? = some (some (V.ref a)) → τ[j]? ≠ some (some (V.ref a))

theorem Env.at_put_self : ∀ {σ : Env} {i : Nat} {x : Slot}, i < σ.length → (σ.put i x).at i = x
  | _ :: _, 0, _, _ => rfl
  | _ :: r, i + 1, x, h => Env.at_put_self (σ := r) (i := i) (Nat.lt_of_succ_lt_succ h)
theorem Env.at_put_ne : ∀ {σ : Env} {i j : Nat} {x : Slot}, j ≠ i → (σ.put i x).at j = σ.at j
  | [], _, _, _, _ => rfl
  | _ :: _, 0, 0, _, h => absurd rfl h
  | _ :: _, 0, j + 1, _, _ => rfl
  | _ :: _, i + 1, 0, _, _ => rfl
  | _ :: r, i + 1, j + 1, x, h => Env.at_put_ne (σ := r) (i := i) (j := j) (fun e => h (congrArg (· + 1) e))
theorem Env.length_put : ∀ {σ : Env} {i : Nat} {x : Slot}, (σ.put i x).length = σ.length
  | [], _, _ => rfl
  | _ :: _, 0, _ => rfl
  | _ :: r, i + 1, x => congrArg (· + 1) (Env.length_put (σ := r))
theorem Env.at_out : ∀ {σ : Env} {i : Nat}, σ.length ≤ i → σ.at i = .un
  | [], _, _ => rfl
  | _ :: _, 0, h => absurd h (by simp)
  | _ :: r, i + 1, h => Env.at_out (σ := r) (Nat.le_of_succ_le_succ h)
theorem Env.put_out : ∀ {σ : Env} {i : Nat} {x : Slot}, σ.length ≤ i → σ.put i x = σ
  | [], _, _, _ => rfl
  | _ :: _, 0, _, h => absurd h (by simp)
  | s :: r, i + 1, x, h => congrArg (s :: ·) (Env.put_out (σ := r) (Nat.le_of_succ_le_succ h))
theorem Env.length_wipe {σ : Env} : ∀ {vs : List Nat}, (σ.wipe vs).length = σ.length
  | [] => rfl
  | _ :: vs => Env.length_put.trans (Env.length_wipe (vs := vs))

section
variable {T : Tb} {pn : List (Addr × Obj)} {F F' G : Hp} {σ : Env} {h h' : AH} {τ : L2.St} {H H' : Hp}
theorem CellR.mono {a : Addr} {c : Cell} (x : CellR T F H a c) (e : Same F F') (k : H' a = H a) : CellR T F' H' a c := by
  cases c with
  | lst l => obtain ⟨vs, e1, r⟩ := x; exact ⟨vs, k.trans e1, r.mono e⟩
  | obj c fs => obtain ⟨dx, fvs, e1, c0, r⟩ := x; exact ⟨dx, fvs, k.trans e1, c0, r.mono e⟩
theorem CellR.there {a : Addr} {c : Cell} (x : CellR T F H a c) : ∃ o, H a = some o := by
  cases c with
  | lst l => obtain ⟨vs, e1, r⟩ := x; exact ⟨_, e1⟩
  | obj c fs => obtain ⟨dx, fvs, e1, r⟩ := x; exact ⟨_, e1⟩
theorem Same.at {H H' : Hp} (e : Same H H') {a : Addr} {o : HO} (h : H a = some o) : H' a = H a := by rw [h]; exact e _ _ h
/-- nothing is changed: objects are laid beside, some of them known from now on -/
structure Grow (F H F' H' : Hp) : Prop where
  f : Same F F'
  h : Same H H'
  s : Same F' H'
  n : ∀ b, F' b = none ∨ F b ≠ none ∨ H b = none
  t : ∀ b ps, F' b = some (.tbl ps) → F b = some (.tbl ps)
theorem Grow.refl (s : Same F H) : Grow F H F H := ⟨Same.refl _, Same.refl _, s, fun b => by
  cases e : F b with
  | none => exact .inl rfl
  | some o => exact .inr (.inl (by simp)), fun _ _ e => e⟩
theorem Grow.new {p : Addr} {o : HO} (s : Same F H) (n : H p = none) (ho : ∀ ps, o ≠ .tbl ps := by intro _ z; cases z) : Grow F H (upd F p o) (upd H p o) := by
  have nF : F p = none := s.free n
  refine ⟨fun b x e => ?_, fun b x e => ?_, fun b x e => ?_, fun b => ?_, fun b ps e => upd_tbl ho e⟩
  · rw [upd_ne (ne_of_none e nF)]; exact e
  · rw [upd_ne (ne_of_none e n)]; exact e
  · by_cases hb : b = p
    · subst hb; rw [upd_same] at e ⊢; exact e
    · rw [upd_ne hb] at e ⊢; exact s _ _ e
  · by_cases hb : b = p
    · subst hb; exact .inr (.inr n)
    · rw [upd_ne hb]
      cases e : F b with
      | none => exact .inl rfl
      | some o => exact .inr (.inl (by simp))
/-- an object laid, known to nobody -/
theorem Grow.beside {p : Addr} {o : HO} (s : Same F H) (n : H p = none) : Grow F H F (upd H p o) := by
  have k : Same H (upd H p o) := fun b x e => by rw [upd_ne (ne_of_none e n)]; exact e
  exact ⟨Same.refl _, k, s.trans k, (Grow.refl s).n, fun _ _ e => e⟩
theorem SH.grow (x : SH T F G h H) (g : Grow F H F' H') : SH T F' G h H' := by
  refine ⟨g.s, x.sG.trans g.h, fun b => ?_, fun a c e => ?_, x.tb.go (fun b o e _ _ => g.h _ _ e) g.t fun _ _ e => e⟩
  · rcases g.n b with q | q | q
    · exact .inl q
    · rcases x.dis b with z | z
      · exact absurd z q
      · exact .inr z
    · exact .inr (x.sG.free q)
  · obtain ⟨e1, e2, e3⟩ := x.cell a c e
    obtain ⟨o, ho⟩ := e3.there
    refine ⟨?_, e2, e3.mono g.f (Same.at g.h ho)⟩
    rcases g.n a with q | q | q
    · exact q
    · exact absurd e1 q
    · rw [ho] at q; cases q
theorem SR0.grow (x : SR0 T pn F G σ h τ H) (g : Grow F H F' H') : SR0 T pn F' G σ h τ H' := by
  refine ⟨x.sh.grow g, x.len, fun i => ?_, x.sep⟩
  have q := x.slot i
  cases e : σ.at i with
  | un => trivial
  | val d =>
    rw [e] at q
    obtain ⟨v, e1, r⟩ := q
    exact ⟨v, e1, r.mono g.f⟩
  | own l =>
    rw [e] at q
    obtain ⟨a, vs, e1, e2, e3, e4, e5, r⟩ := q
    refine ⟨a, vs, e1, g.h _ _ e2, ?_, e4, e5, r.mono g.f⟩
    rcases g.n a with q | q | q
    · exact q
    · exact absurd e3 q
    · rw [e2] at q; cases q
  | exc c d =>
    rw [e] at q
    obtain ⟨a, oe, dd, v, e1, e2, e3, e4, e5, r⟩ := q
    exact ⟨a, oe, dd, v, e1, e2, e3, e4, g.f _ _ e5, r.mono g.f⟩
theorem SR0.val {i : Nat} {d : D} (x : SR0 T pn F G σ h τ H) (e : σ.at i = .val d) : ∃ v, τ[i]? = some (some v) ∧ Rep T F d v := by
  have q := x.slot i
  rw [e] at q
  exact q
/-- fewer cells -/
theorem SH.less (x : SH T F G h H) (s : AH.Sub h' h) : SH T F G h' H := ⟨x.sF, x.sG, x.dis, fun a c e => x.cell a c (s a c e), x.tb⟩
theorem AH.Sub.free {h h' : AH} (s : AH.Sub h' h) {a : Nat} (e : h a = none) : h' a = none := by
  cases q : h' a with
  | none => rfl
  | some c => rw [s a c q] at e; cases e
theorem SR0.less (x : SR0 T pn F G σ h τ H) (s : AH.Sub h' h) : SR0 T pn F G σ h' τ H := by
  refine ⟨x.sh.less s, x.len, fun i => ?_, x.sep⟩
  have q := x.slot i
  cases e : σ.at i with
  | un => trivial
  | val d => rw [e] at q; exact q
  | own l =>
    rw [e] at q
    obtain ⟨a, vs, e1, e2, e3, e4, e5, r⟩ := q
    exact ⟨a, vs, e1, e2, e3, e4, s.free e5, r⟩
  | exc c d => rw [e] at q; exact q
/-- a slot is stored -/
theorem SR0.store {i : Nat} {d : D} {v : V} (x : SR0 T pn F G σ h τ H) (r : Rep T F d v) : SR0 T pn F G (σ.put i (.val d)) h (τ.set i (some v)) H := by
  refine ⟨x.sh, by rw [Env.length_put, List.length_set]; exact x.len, fun j => ?_, fun j k l m a hn e1 e2 e3 e4 => ?_⟩
  · by_cases hi : i < σ.length
    · by_cases hj : j = i
      · subst hj
        rw [Env.at_put_self hi, List.getElem?_set_self (x.len ▸ hi)]
        exact ⟨v, rfl, r⟩
      · rw [Env.at_put_ne hj, List.getElem?_set_ne (Ne.symm hj)]
        exact x.slot j
    · rw [Env.put_out (Nat.le_of_not_lt hi), List.set_eq_of_length_le (by rw [← x.len]; exact Nat.le_of_not_lt hi)]
      exact x.slot j
  · by_cases hi : i < σ.length
    · have n1 : j ≠ i := fun z => by subst z; rw [Env.at_put_self hi] at e1; cases e1
      have n2 : k ≠ i := fun z => by subst z; rw [Env.at_put_self hi] at e2; cases e2
      rw [Env.at_put_ne n1] at e1
      rw [Env.at_put_ne n2] at e2
      rw [List.getElem?_set_ne (Ne.symm n1)] at e3
      rw [List.getElem?_set_ne (Ne.symm n2)] at e4
      exact x.sep j k l m a hn e1 e2 e3 e4
    · rw [Env.put_out (Nat.le_of_not_lt hi)] at e1 e2
      rw [List.set_eq_of_length_le (by rw [← x.len]; exact Nat.le_of_not_lt hi)] at e3 e4
      exact x.sep j k l m a hn e1 e2 e3 e4
/-- a slot is forgotten on our side -/
theorem SR0.forget {i : Nat} {o : Option V} (x : SR0 T pn F G σ h τ H) : SR0 T pn F G (σ.put i .un) h (τ.set i o) H := by
  refine ⟨x.sh, by rw [Env.length_put, List.length_set]; exact x.len, fun j => ?_, fun j k l m a hn e1 e2 e3 e4 => ?_⟩
  · by_cases hi : i < σ.length
    · by_cases hj : j = i
      · subst hj
        rw [Env.at_put_self hi]
        trivial
      · rw [Env.at_put_ne hj, List.getElem?_set_ne (Ne.symm hj)]
        exact x.slot j
    · rw [Env.put_out (Nat.le_of_not_lt hi), List.set_eq_of_length_le (by rw [← x.len]; exact Nat.le_of_not_lt hi)]
      exact x.slot j
  · by_cases hi : i < σ.length
    · have n1 : j ≠ i := fun z => by subst z; rw [Env.at_put_self hi] at e1; cases e1
      have n2 : k ≠ i := fun z => by subst z; rw [Env.at_put_self hi] at e2; cases e2
      rw [Env.at_put_ne n1] at e1
      rw [Env.at_put_ne n2] at e2
      rw [List.getElem?_set_ne (Ne.symm n1)] at e3
      rw [List.getElem?_set_ne (Ne.symm n2)] at e4
      exact x.sep j k l m a hn e1 e2 e3 e4
    · rw [Env.put_out (Nat.le_of_not_lt hi)] at e1 e2
      rw [List.set_eq_of_length_le (by rw [← x.len]; exact Nat.le_of_not_lt hi)] at e3 e4
      exact x.sep j k l m a hn e1 e2 e3 e4
theorem SR0.wipe (x : SR0 T pn F G σ h τ H) : ∀ vs : List Nat, SR0 T pn F G (σ.wipe vs) h (L2.wipe τ vs) H
  | [] => x
  | v :: vs => (SR0.wipe x vs).forget
theorem Env.length_nox : ∀ {σ : Env}, σ.nox.length = σ.length
  | [] => rfl
  | _ :: r => congrArg (· + 1) (Env.length_nox (σ := r))
theorem Env.at_nox : ∀ {σ : Env} {i : Nat}, σ.nox.at i = (σ.at i).nox
  | [], _ => rfl
  | _ :: _, 0 => rfl
  | _ :: r, i + 1 => Env.at_nox (σ := r) (i := i)
/-- a frame beside: values alone are told -/
theorem SR0.nox {G2 : Hp} (x : SR0 T pn F G σ h τ H) {pn' : List (Addr × Obj)} (sF : Same F F') (sh : SH T F' G2 h' H') : SR0 T pn' F' G2 σ.nox h' τ H' := by
  refine ⟨sh, Env.length_nox.trans x.len, fun i => ?_, fun i j l m a hn e1 e2 e3 e4 => ?_⟩
  · have q := x.slot i
    rw [Env.at_nox]
    cases e : σ.at i with
    | exc c d => trivial
    | un => trivial
    | val d =>
      rw [e] at q
      obtain ⟨v, e1, r⟩ := q
      exact ⟨v, e1, r.mono sF⟩
    | own l => trivial
  · rw [Env.at_nox] at e1
    exfalso
    cases e : σ.at i with
    | own l' => rw [e] at e1; cases e1
    | un => rw [e] at e1; cases e1
    | val d => rw [e] at e1; cases e1
    | exc c d => rw [e] at e1; cases e1
/-- a list that we alone know -/
theorem SH.hide {o : HO} {p : Addr} (x : SH T F G h H) (n : H p = none) (ho : ∀ ps, o ≠ .tbl ps := by intro _ z; cases z) : SH T F (upd G p o) h (upd H p o) := by
  have nF : F p = none := x.sF.free n
  have nG : G p = none := x.sG.free n
  refine ⟨fun b u e => ?_, fun b u e => ?_, fun b => ?_, fun a c e => ?_, x.tb.go (fun b u e _ _ => by rw [upd_ne (ne_of_none e n)]; exact e) (fun _ _ e => e) fun _ _ e => upd_tbl ho e⟩
  · rw [upd_ne (ne_of_none e nF)]; exact x.sF _ _ e
  · by_cases hb : b = p
    · subst hb; rw [upd_same] at e ⊢; exact e
    · rw [upd_ne hb] at e ⊢; exact x.sG _ _ e
  · by_cases hb : b = p
    · subst hb; exact .inl nF
    · rw [upd_ne hb]; exact x.dis b
  · obtain ⟨e1, e2, e3⟩ := x.cell a c e
    have ne : a ≠ p := fun z => by subst z; obtain ⟨o, ho⟩ := e3.there; rw [n] at ho; cases ho
    exact ⟨e1, by rw [upd_ne ne]; exact e2, e3.mono (Same.refl _) (upd_ne ne)⟩
theorem SH.hidw {o o' : HO} {p : Addr} (x : SH T F (upd G p o) h H) (ho : ∃ vs, o = .lst vs := by exact ⟨_, rfl⟩) (ho' : ∀ ps, o' ≠ .tbl ps := by intro _ z; cases z) : SH T F (upd G p o') h (upd H p o') := by
  obtain ⟨vs0, e0⟩ := ho
  have hp0 : H p = some o := x.sG _ _ upd_same
  have nF : F p = none := by
    rcases x.dis p with z | z
    · exact z
    · rw [upd_same] at z; cases z
  refine ⟨fun b u e => ?_, fun b u e => ?_, fun b => ?_, fun a c e => ?_, x.tb.go (fun b u e n1 _ => ?_) (fun _ _ e => e) fun b ps e => ?_⟩
  · rw [upd_ne (ne_of_none e nF)]; exact x.sF _ _ e
  · by_cases hb : b = p
    · subst hb; rw [upd_same] at e ⊢; exact e
    · rw [upd_ne hb] at e ⊢; exact x.sG _ _ (by rw [upd_ne hb]; exact e)
  · by_cases hb : b = p
    · subst hb; exact .inl nF
    · have z := x.dis b
      rw [upd_ne hb] at z ⊢; exact z
  · obtain ⟨e1, e2, e3⟩ := x.cell a c e
    have ne : a ≠ p := fun z => by subst z; rw [upd_same] at e2; cases e2
    rw [upd_ne ne] at e2
    exact ⟨e1, by rw [upd_ne ne]; exact e2, e3.mono (Same.refl _) (upd_ne ne)⟩
  · have ne : b ≠ p := fun z => by subst z; rw [hp0] at e; cases e; exact n1 _ e0
    rw [upd_ne ne]; exact e
  · by_cases hb : b = p
    · subst hb
      rw [upd_same] at e
      exact absurd (Option.some.inj e) (ho' ps)
    · rw [upd_ne hb] at e ⊢; exact e
theorem SH.unhide {o : HO} {p : Addr} (x : SH T F (upd G p o) h H) (n : G p = none) : SH T (upd F p o) G h H ∧ Same F (upd F p o) := by
  have nF : F p = none := by
    rcases x.dis p with z | z
    · exact z
    · rw [upd_same] at z; cases z
  have fk : Same F (upd F p o) := fun b u e => by rw [upd_ne (ne_of_none e nF)]; exact e
  have ho : ∀ ps, o ≠ .tbl ps := fun ps z => x.tb.nG p ps (by rw [upd_same, z])
  refine ⟨⟨fun b u e => ?_, fun b u e => ?_, fun b => ?_, fun a c e => ?_, x.tb.go (fun _ _ e _ _ => e) (fun _ _ e => upd_tbl ho e) fun b ps e => by rw [upd_ne (ne_of_none e n)]; exact e⟩, fk⟩
  · by_cases hb : b = p
    · subst hb; rw [upd_same] at e; exact x.sG _ _ (by rw [upd_same]; exact e)
    · rw [upd_ne hb] at e; exact x.sF _ _ e
  · exact x.sG _ _ (by rw [upd_ne (ne_of_none e n)]; exact e)
  · by_cases hb : b = p
    · subst hb; exact .inr n
    · have z := x.dis b
      rw [upd_ne hb] at z ⊢; exact z
  · obtain ⟨e1, e2, e3⟩ := x.cell a c e
    have ne : a ≠ p := fun z => by subst z; rw [upd_same] at e2; cases e2
    rw [upd_ne ne] at e2
    exact ⟨by rw [upd_ne ne]; exact e1, e2, e3.mono fk rfl⟩
/-- more pins -/
theorem SR0.pins (x : SR0 T pn F G σ h τ H) {pn' : List (Addr × Obj)} (k : ∀ p ∈ pn, p ∈ pn') : SR0 T pn' F G σ h τ H := by
  refine ⟨x.sh, x.len, fun i => ?_, x.sep⟩
  have q := x.slot i
  cases e : σ.at i with
  | exc c d =>
    rw [e] at q
    obtain ⟨a, oe, dd, v, e1, e2, e3⟩ := q
    exact ⟨a, oe, dd, v, e1, k _ e2, e3⟩
  | un => trivial
  | val d => rw [e] at q; exact q
  | own l => rw [e] at q; exact q
/-- a new cell -/
theorem CellR.which {a : Addr} {c : Cell} (x : CellR T F H a c) : ∃ o, H a = some o ∧ ((∃ vs, o = .lst vs) ∨ ∃ c d f, o = .ins c d f) := by
  cases c with
  | lst l => obtain ⟨vs, e1, r⟩ := x; exact ⟨_, e1, .inl ⟨_, rfl⟩⟩
  | obj c fs => obtain ⟨dx, fvs, e1, r⟩ := x; exact ⟨_, e1, .inr ⟨_, _, _, rfl⟩⟩
theorem SR0.newcell {p : Addr} {o : HO} {c : Cell} (x : SR0 T pn F G σ h τ H) (n : H p = none) (hc : CellR T F (upd H p o) p c) : SR0 T pn F G σ (h.put p c) τ (upd H p o) := by
  have g := Grow.beside (o := o) x.sh.sF n
  have y := x.grow g
  have nF : F p = none := x.sh.sF.free n
  have nG : G p = none := x.sh.sG.free n
  refine ⟨⟨y.sh.sF, y.sh.sG, y.sh.dis, fun a d e => ?_, y.sh.tb⟩, y.len, fun i => ?_, y.sep⟩
  · by_cases ha : a = p
    · subst ha
      rw [AH.put_same] at e
      cases e
      exact ⟨nF, nG, hc⟩
    · rw [AH.put_ne ha] at e
      exact y.sh.cell a d e
  · have q := y.slot i
    have qx := x.slot i
    cases e : σ.at i with
    | own l =>
      rw [e] at q qx
      obtain ⟨a, vs, e1, e2, e3, e4, e5, r⟩ := q
      obtain ⟨a', vs', e1', e2', _⟩ := qx
      have : a = a' := by
        rw [e1] at e1'
        exact V.ref.inj (Option.some.inj (Option.some.inj e1'))
      subst this
      have ne : a ≠ p := ne_of_none e2' n
      exact ⟨a, vs, e1, e2, e3, e4, by rw [AH.put_ne ne]; exact e5, r⟩
    | exc c d => rw [e] at q; exact q
    | un => trivial
    | val d => rw [e] at q; exact q
/-- a cell is written -/
theorem SR0.write {p : Addr} {o : HO} {c c' : Cell} (x : SR0 T pn F G σ h τ H) (e0 : h p = some c') (hc : CellR T F (upd H p o) p c) : SR0 T pn F G σ (h.put p c) τ (upd H p o) := by
  obtain ⟨nF, nG, c0⟩ := x.sh.cell p c' e0
  have at_ : ∀ b, b ≠ p → upd H p o b = H b := fun b hb => upd_ne hb
  have fk : Same F (upd H p o) := fun b u e => by rw [at_ b (ne_of_none e nF)]; exact x.sh.sF _ _ e
  have gk : Same G (upd H p o) := fun b u e => by rw [at_ b (ne_of_none e nG)]; exact x.sh.sG _ _ e
  obtain ⟨o0, ho0, wo⟩ := c0.which
  refine ⟨⟨fk, gk, x.sh.dis, fun a d e => ?_, x.sh.tb.go (fun b u e n1 n2 => (upd_ne (fun z => by subst z; rw [ho0] at e; cases e; rcases wo with ⟨_, z⟩ | ⟨_, _, _, z⟩; exact n1 _ z; exact n2 _ _ _ z)).trans e) (fun _ _ e => e) fun _ _ e => e⟩, x.len, fun i => ?_, x.sep⟩
  · by_cases ha : a = p
    · subst ha
      rw [AH.put_same] at e
      cases e
      exact ⟨nF, nG, hc⟩
    · rw [AH.put_ne ha] at e
      obtain ⟨e1, e2, e3⟩ := x.sh.cell a d e
      exact ⟨e1, e2, e3.mono (Same.refl _) (at_ a ha)⟩
  · have q := x.slot i
    cases e : σ.at i with
    | own l =>
      rw [e] at q
      obtain ⟨a, vs, e1, e2, e3, e4, e5, r⟩ := q
      have ne : a ≠ p := fun z => by subst z; rw [e0] at e5; cases e5
      exact ⟨a, vs, e1, by rw [at_ a ne]; exact e2, e3, e4, by rw [AH.put_ne ne]; exact e5, r⟩
    | exc c d => rw [e] at q; exact q
    | un => trivial
    | val d => rw [e] at q; exact q
/-- what is told of a cell is told for good; the cell itself is given up -/
theorem SR0.freeze {p : Addr} {o : HO} {c : Cell} (x : SR0 T pn F G σ h τ H) (e0 : h p = some c) (ho : H p = some o) : SR0 T pn (upd F p o) G σ (fun b => if b = p then none else h b) τ H := by
  obtain ⟨nF, nG, c0⟩ := x.sh.cell p c e0
  have fk : Same F (upd F p o) := fun b u e => by rw [upd_ne (ne_of_none e nF)]; exact e
  have ht : ∀ ps, o ≠ .tbl ps := fun ps z => by
    obtain ⟨o0, ho0, wo⟩ := c0.which
    rw [ho] at ho0
    cases ho0
    rw [z] at wo
    rcases wo with ⟨_, z⟩ | ⟨_, _, _, z⟩ <;> cases z
  refine ⟨⟨fun b u e => ?_, x.sh.sG, fun b => ?_, fun a d e => ?_, x.sh.tb.go (fun _ _ e _ _ => e) (fun _ _ e => upd_tbl ht e) fun _ _ e => e⟩, x.len, fun i => ?_, x.sep⟩
  · by_cases hb : b = p
    · subst hb; rw [upd_same] at e; rw [← e]; exact ho
    · rw [upd_ne hb] at e; exact x.sh.sF _ _ e
  · by_cases hb : b = p
    · subst hb; exact .inr nG
    · rw [upd_ne hb]; exact x.sh.dis b
  · by_cases ha : a = p
    · subst ha; simp at e
    · simp only [if_neg ha] at e
      obtain ⟨e1, e2, e3⟩ := x.sh.cell a d e
      exact ⟨by rw [upd_ne ha]; exact e1, e2, e3.mono fk rfl⟩
  · have q := x.slot i
    cases e : σ.at i with
    | own l =>
      rw [e] at q
      obtain ⟨a, vs, e1, e2, e3, e4, e5, r⟩ := q
      have ne : a ≠ p := fun z => by subst z; rw [e0] at e5; cases e5
      exact ⟨a, vs, e1, e2, by rw [upd_ne ne]; exact e3, e4, by simp only [if_neg ne]; exact e5, r.mono fk⟩
    | exc c d =>
      rw [e] at q
      obtain ⟨a, oe, dd, v, e1, e2, e3, e4, e5, r⟩ := q
      exact ⟨a, oe, dd, v, e1, e2, e3, e4, fk _ _ e5, r.mono fk⟩
    | un => trivial
    | val d =>
      rw [e] at q
      obtain ⟨v, e1, r⟩ := q
      exact ⟨v, e1, r.mono fk⟩
/-- an own list is frozen -/
theorem SR0.frz {i : Nat} {l : List D} (x : SR0 T pn F G σ h τ H) (e0 : σ.at i = .own l) : ∃ F', Same F F' ∧ SR0 T pn F' G (σ.put i (.val (.lst l))) h τ H := by
  have q0 := x.slot i
  rw [e0] at q0
  obtain ⟨p, vs, p1, p2, p3, p4, p5, rl⟩ := q0
  have fk : Same F (upd F p (.lst vs)) := fun b u e => by rw [upd_ne (ne_of_none e p3)]; exact e
  have hi : i < σ.length := by
    rcases Nat.lt_or_ge i σ.length with z | z
    · exact z
    · rw [Env.at_out z] at e0; cases e0
  refine ⟨upd F p (.lst vs), fk, ⟨fun b u e => ?_, x.sh.sG, fun b => ?_, fun a d e => ?_, x.sh.tb.go (fun _ _ e _ _ => e) (fun _ _ e => upd_tbl (fun _ z => by cases z) e) fun _ _ e => e⟩, Env.length_put.trans x.len, fun j => ?_, fun j k l m a hn e1 e2 e3 e4 => ?_⟩
  · by_cases hb : b = p
    · subst hb; rw [upd_same] at e; rw [← e]; exact p2
    · rw [upd_ne hb] at e; exact x.sh.sF _ _ e
  · by_cases hb : b = p
    · subst hb; exact .inr p4
    · rw [upd_ne hb]; exact x.sh.dis b
  · have ne : a ≠ p := fun z => by subst z; rw [p5] at e; cases e
    obtain ⟨e1, e2, e3⟩ := x.sh.cell a d e
    exact ⟨by rw [upd_ne ne]; exact e1, e2, e3.mono fk rfl⟩
  · by_cases hj : j = i
    · subst hj
      rw [Env.at_put_self hi]
      exact ⟨_, p1, .lst (SqL.of upd_same) (rl.mono fk)⟩
    · rw [Env.at_put_ne hj]
      have q := x.slot j
      cases e : σ.at j with
      | own l' =>
        rw [e] at q
        obtain ⟨a, vs', e1, e2, e3, e4, e5, r⟩ := q
        have ne : a ≠ p := fun z => by subst z; exact x.sep j i l' l _ hj e e0 e1 p1
        exact ⟨a, vs', e1, e2, by rw [upd_ne ne]; exact e3, e4, e5, r.mono fk⟩
      | exc c d =>
        rw [e] at q
        obtain ⟨a, oe, dd, v, e1, e2, e3, e4, e5, r⟩ := q
        exact ⟨a, oe, dd, v, e1, e2, e3, e4, fk _ _ e5, r.mono fk⟩
      | un => trivial
      | val d =>
        rw [e] at q
        obtain ⟨v, e1, r⟩ := q
        exact ⟨v, e1, r.mono fk⟩
  · have n1 : j ≠ i := fun z => by subst z; rw [Env.at_put_self hi] at e1; cases e1
    have n2 : k ≠ i := fun z => by subst z; rw [Env.at_put_self hi] at e2; cases e2
    rw [Env.at_put_ne n1] at e1
    rw [Env.at_put_ne n2] at e2
    exact x.sep j k l m a hn e1 e2 e3 e4
/-- a new own list -/
theorem SR0.newown {i : Nat} {l : List D} {p : Addr} {vs : List V} (x : SR0 T pn F G σ h τ H) (n : H p = none) (r : Reps T F l vs) : SR0 T pn F G (σ.put i (.own l)) h (τ.set i (some (.ref p))) (upd H p (.lst vs)) := by
  have g := Grow.beside (o := .lst vs) x.sh.sF n
  have y := x.grow g
  have nF : F p = none := x.sh.sF.free n
  have nG : G p = none := x.sh.sG.free n
  have nh : h p = none := by
    cases e : h p with
    | none => rfl
    | some c => obtain ⟨o, ho⟩ := (x.sh.cell p c e).2.2.there; rw [n] at ho; cases ho
  have old : ∀ j m a, σ.at j = .own m → τ[j]? = some (some (V.ref a)) → a ≠ p := fun j m a e1 e2 => by
    have q := x.slot j
    rw [e1] at q
    obtain ⟨a', vs', e1', e2', _⟩ := q
    rw [e2] at e1'
    cases e1'
    exact ne_of_none e2' n
  refine ⟨y.sh, by rw [Env.length_put, List.length_set]; exact x.len, fun j => ?_, fun j k l' m a hn e1 e2 e3 e4 => ?_⟩
  · by_cases hi : i < σ.length
    · by_cases hj : j = i
      · subst hj
        rw [Env.at_put_self hi, List.getElem?_set_self (x.len ▸ hi)]
        exact ⟨p, vs, rfl, upd_same, nF, nG, nh, r⟩
      · rw [Env.at_put_ne hj, List.getElem?_set_ne (Ne.symm hj)]
        exact y.slot j
    · rw [Env.put_out (Nat.le_of_not_lt hi), List.set_eq_of_length_le (by rw [← x.len]; exact Nat.le_of_not_lt hi)]
      exact y.slot j
  · by_cases hi : i < σ.length
    · by_cases h1 : j = i
      · subst h1
        have n2 : k ≠ j := fun z => hn z.symm
        rw [List.getElem?_set_self (x.len ▸ hi)] at e3
        rw [Env.at_put_ne n2] at e2
        rw [List.getElem?_set_ne (Ne.symm n2)] at e4
        have : p = a := V.ref.inj (Option.some.inj (Option.some.inj e3))
        exact old k m a e2 e4 this.symm
      · by_cases h2 : k = i
        · subst h2
          rw [List.getElem?_set_self (x.len ▸ hi)] at e4
          rw [Env.at_put_ne h1] at e1
          rw [List.getElem?_set_ne (Ne.symm h1)] at e3
          have : p = a := V.ref.inj (Option.some.inj (Option.some.inj e4))
          exact old j l' a e1 e3 this.symm
        · rw [Env.at_put_ne h1] at e1
          rw [Env.at_put_ne h2] at e2
          rw [List.getElem?_set_ne (Ne.symm h1)] at e3
          rw [List.getElem?_set_ne (Ne.symm h2)] at e4
          exact x.sep j k l' m a hn e1 e2 e3 e4
    · rw [Env.put_out (Nat.le_of_not_lt hi)] at e1 e2
      rw [List.set_eq_of_length_le (by rw [← x.len]; exact Nat.le_of_not_lt hi)] at e3 e4
      exact x.sep j k l' m a hn e1 e2 e3 e4
/-- an own list is written -/
theorem SR0.setown {i : Nat} {l m : List D} {p : Addr} {vs us : List V} (x : SR0 T pn F G σ h τ H) (e0 : σ.at i = .own l) (hp : τ[i]? = some (some (V.ref p))) (r : Reps T F m us) : SR0 T pn F G (σ.put i (.own m)) h τ (upd H p (.lst us)) := by
  have q0 := x.slot i
  rw [e0] at q0
  obtain ⟨p', vs', p1, p2, p3, p4, p5, rl⟩ := q0
  have : p = p' := by rw [hp] at p1; exact V.ref.inj (Option.some.inj (Option.some.inj p1))
  subst this
  have hi : i < σ.length := by
    rcases Nat.lt_or_ge i σ.length with z | z
    · exact z
    · rw [Env.at_out z] at e0; cases e0
  have at_ : ∀ b, b ≠ p → upd H p (.lst us) b = H b := fun b hb => upd_ne hb
  refine ⟨⟨fun b u e => by rw [at_ b (ne_of_none e p3)]; exact x.sh.sF _ _ e, fun b u e => by rw [at_ b (ne_of_none e p4)]; exact x.sh.sG _ _ e, x.sh.dis, fun a d e => ?_, x.sh.tb.go (fun b u e n1 n2 => (upd_ne (fun z => by subst z; rw [p2] at e; cases e; exact n1 _ rfl)).trans e) (fun _ _ e => e) fun _ _ e => e⟩, Env.length_put.trans x.len, fun j => ?_, fun j k l' m' a hn e1 e2 e3 e4 => ?_⟩
  · have ne : a ≠ p := fun z => by subst z; rw [p5] at e; cases e
    obtain ⟨e1, e2, e3⟩ := x.sh.cell a d e
    exact ⟨e1, e2, e3.mono (Same.refl _) (at_ a ne)⟩
  · by_cases hj : j = i
    · subst hj
      rw [Env.at_put_self hi]
      exact ⟨p, us, hp, upd_same, p3, p4, p5, r⟩
    · rw [Env.at_put_ne hj]
      have q := x.slot j
      cases e : σ.at j with
      | own l' =>
        rw [e] at q
        obtain ⟨a, vs', e1, e2, e3, e4, e5, r⟩ := q
        have ne : a ≠ p := fun z => by subst z; exact x.sep j i l' l _ hj e e0 e1 hp
        exact ⟨a, vs', e1, by rw [at_ a ne]; exact e2, e3, e4, e5, r⟩
      | exc c d => rw [e] at q; exact q
      | un => trivial
      | val d => rw [e] at q; exact q
  · have own : ∀ {j m}, (σ.put i (.own m)).at j = .own l' → True := fun _ => trivial
    have get : ∀ j m', (σ.put i (.own m)).at j = .own m' → ∃ m'', σ.at j = .own m'' := fun j m' e => by
      by_cases hj : j = i
      · subst hj; exact ⟨l, e0⟩
      · rw [Env.at_put_ne hj] at e; exact ⟨_, e⟩
    obtain ⟨m1, e1⟩ := get j l' e1
    obtain ⟨m2, e2⟩ := get k m' e2
    exact x.sep j k m1 m2 a hn e1 e2 e3 e4
/-- what a callee may change, and what comes back -/
theorem SR0.call (x : SR0 T pn F G σ h τ H) : ∃ G', SH T F G' h H ∧ ∀ F' h' H', Same F F' → SH T F' G' h' H' → SR0 T pn F' G σ h' τ H' := by
  classical
  let own : Addr → Prop := fun b => ∃ i l, σ.at i = .own l ∧ τ[i]? = some (some (V.ref b))
  have oat : ∀ b, own b → ∃ vs, H b = some (.lst vs) ∧ F b = none ∧ G b = none ∧ h b = none := fun b ⟨i, l, e1, e2⟩ => by
    have q := x.slot i
    rw [e1] at q
    obtain ⟨a, vs, q1, q2, q3, q4, q5, _⟩ := q
    rw [e2] at q1
    cases q1
    exact ⟨vs, q2, q3, q4, q5⟩
  refine ⟨fun b => if own b then H b else G b, ⟨x.sh.sF, fun b o e => ?_, fun b => ?_, fun a c e => ?_, x.sh.tb.tabs, x.sh.tb.nF, fun b ps e => ?_⟩, fun F' h' H' sF sh => ⟨⟨sh.sF, fun b o e => ?_, fun b => ?_, fun a c e => ?_, sh.tb.tabs, sh.tb.nF, x.sh.tb.nG⟩, x.len, fun i => ?_, x.sep⟩⟩
  · by_cases ob : own b
    · simp only [if_pos ob] at e; exact e
    · simp only [if_neg ob] at e; exact x.sh.sG _ _ e
  · by_cases ob : own b
    · obtain ⟨_, _, q, _⟩ := oat b ob; exact .inl q
    · simp only [if_neg ob]; exact x.sh.dis b
  · obtain ⟨e1, e2, e3⟩ := x.sh.cell a c e
    have ob : ¬ own a := fun ob => by obtain ⟨_, _, _, _, q⟩ := oat a ob; rw [e] at q; cases q
    refine ⟨e1, ?_, e3⟩
    simp only [if_neg ob]; exact e2
  · by_cases ob : own b
    · obtain ⟨vs, q, _⟩ := oat b ob
      simp only [if_pos ob] at e
      rw [q] at e
      cases e
    · simp only [if_neg ob] at e; exact x.sh.tb.nG b ps e
  · have ob : ¬ own b := fun ob => by obtain ⟨_, _, _, q, _⟩ := oat b ob; rw [q] at e; cases e
    exact sh.sG b o (by simp only [if_neg ob]; exact e)
  · rcases sh.dis b with z | z
    · exact .inl z
    · by_cases ob : own b
      · obtain ⟨_, _, _, q, _⟩ := oat b ob; exact .inr q
      · simp only [if_neg ob] at z; exact .inr z
  · obtain ⟨e1, e2, e3⟩ := sh.cell a c e
    refine ⟨e1, ?_, e3⟩
    by_cases ob : own a
    · obtain ⟨_, _, _, q, _⟩ := oat a ob; exact q
    · simp only [if_neg ob] at e2; exact e2
  · have q := x.slot i
    cases e : σ.at i with
    | own l =>
      rw [e] at q
      obtain ⟨a, vs, e1, e2, e3, e4, e5, r⟩ := q
      have ob : own a := ⟨i, l, e, e1⟩
      have hG : (fun b => if own b then H b else G b) a = some (.lst vs) := by simp only [if_pos ob]; exact e2
      refine ⟨a, vs, e1, sh.sG _ _ hG, ?_, e4, ?_, r.mono sF⟩
      · rcases sh.dis a with z | z
        · exact z
        · cases hG.symm.trans z
      · cases eh : h' a with
        | none => rfl
        | some c =>
          have z := (sh.cell a c eh).2.1
          cases hG.symm.trans z
    | exc c d =>
      rw [e] at q
      obtain ⟨a, oe, dd, v, e1, e2, e3, e4, e5, r⟩ := q
      exact ⟨a, oe, dd, v, e1, e2, e3, e4, sF _ _ e5, r.mono sF⟩
    | un => trivial
    | val d =>
      rw [e] at q
      obtain ⟨v, e1, r⟩ := q
      exact ⟨v, e1, r.mono sF⟩
end
/-! ### with what was there at the entry -/
structure Lk where
  pn : List (Addr × Obj)
  F0 : Hp
  G0 : Hp
structure SR (T : Tb) (lk : Lk) (F G : Hp) (σ : Env) (h : AH) (τ : L2.St) (H : Hp) : Prop where
  s : SR0 T lk.pn F G σ h τ H
  lF : Same lk.F0 F
  lG : G = lk.G0
section
variable {T : Tb} {lk : Lk} {F F' G : Hp} {σ : Env} {h h' : AH} {τ : L2.St} {H H' : Hp}
theorem SR.sh (x : SR T lk F G σ h τ H) : SH T F G h H := x.s.sh
theorem SR.slot (x : SR T lk F G σ h τ H) : ∀ i, SlotR T lk.pn F G h H τ[i]? (σ.at i) := x.s.slot
theorem SR.len (x : SR T lk F G σ h τ H) : σ.length = τ.length := x.s.len
theorem SR.grow (x : SR T lk F G σ h τ H) (g : Grow F H F' H') : SR T lk F' G σ h τ H' := ⟨x.s.grow g, x.lF.trans g.f, x.lG⟩
theorem SR.val {i : Nat} {d : D} (x : SR T lk F G σ h τ H) (e : σ.at i = .val d) : ∃ v, τ[i]? = some (some v) ∧ Rep T F d v := x.s.val e
theorem SR.store {i : Nat} {d : D} {v : V} (x : SR T lk F G σ h τ H) (r : Rep T F d v) : SR T lk F G (σ.put i (.val d)) h (τ.set i (some v)) H := ⟨x.s.store r, x.lF, x.lG⟩
theorem SR.forget {i : Nat} {o : Option V} (x : SR T lk F G σ h τ H) : SR T lk F G (σ.put i .un) h (τ.set i o) H := ⟨x.s.forget, x.lF, x.lG⟩
theorem SR.wipe (x : SR T lk F G σ h τ H) (vs : List Nat) : SR T lk F G (σ.wipe vs) h (L2.wipe τ vs) H := ⟨x.s.wipe vs, x.lF, x.lG⟩
theorem SR.nox {G2 : Hp} (x : SR T lk F G σ h τ H) {pn' : List (Addr × Obj)} (sF : Same F F') (sh : SH T F' G2 h' H') : SR T ⟨pn', F', G2⟩ F' G2 σ.nox h' τ H' := ⟨x.s.nox sF sh, Same.refl _, rfl⟩
theorem SR.newcell {p : Addr} {o : HO} {c : Cell} (x : SR T lk F G σ h τ H) (n : H p = none) (hc : CellR T F (upd H p o) p c) : SR T lk F G σ (h.put p c) τ (upd H p o) := ⟨x.s.newcell n hc, x.lF, x.lG⟩
theorem SR.write {p : Addr} {o : HO} {c c' : Cell} (x : SR T lk F G σ h τ H) (e0 : h p = some c') (hc : CellR T F (upd H p o) p c) : SR T lk F G σ (h.put p c) τ (upd H p o) := ⟨x.s.write e0 hc, x.lF, x.lG⟩
theorem SR.freeze {p : Addr} {o : HO} {c : Cell} (x : SR T lk F G σ h τ H) (e0 : h p = some c) (ho : H p = some o) : SR T lk (upd F p o) G σ (fun b => if b = p then none else h b) τ H :=
  ⟨x.s.freeze e0 ho, x.lF.trans fun b u e => by rw [upd_ne (ne_of_none e (x.s.sh.cell p c e0).1)]; exact e, x.lG⟩
theorem SR.frz {i : Nat} {l : List D} (x : SR T lk F G σ h τ H) (e0 : σ.at i = .own l) : ∃ F', Same F F' ∧ SR T lk F' G (σ.put i (.val (.lst l))) h τ H := by
  obtain ⟨F', s, y⟩ := x.s.frz e0
  exact ⟨F', s, y, x.lF.trans s, x.lG⟩
theorem SR.newown {i : Nat} {l : List D} {p : Addr} {vs : List V} (x : SR T lk F G σ h τ H) (n : H p = none) (r : Reps T F l vs) : SR T lk F G (σ.put i (.own l)) h (τ.set i (some (.ref p))) (upd H p (.lst vs)) := ⟨x.s.newown n r, x.lF, x.lG⟩
theorem SR.setown {i : Nat} {l m : List D} {p : Addr} {us : List V} (x : SR T lk F G σ h τ H) (e0 : σ.at i = .own l) (hp : τ[i]? = some (some (V.ref p))) (r : Reps T F m us) : SR T lk F G (σ.put i (.own m)) h τ (upd H p (.lst us)) := ⟨x.s.setown (vs := us) e0 hp r, x.lF, x.lG⟩
/-- tables grow -/
theorem SH.tabs (x : SH T F G h H) (e : LamX.ExtN H H') (t : LamX.Tabs T.lam H') : SH T F G h H' := by
  refine ⟨fun b o q => e b o (x.sF b o q) fun ps z => x.tb.nF b ps (by rw [q, z]), fun b o q => e b o (x.sG b o q) fun ps z => x.tb.nG b ps (by rw [q, z]), x.dis, fun a c q => ?_, t, x.tb.nF, x.tb.nG⟩
  obtain ⟨e1, e2, e3⟩ := x.cell a c q
  obtain ⟨o, ho, w⟩ := e3.which
  refine ⟨e1, e2, e3.mono (Same.refl _) ?_⟩
  rw [ho]
  refine e _ _ ho fun ps z => ?_
  rw [z] at w
  rcases w with ⟨_, z⟩ | ⟨_, _, _, z⟩ <;> cases z
theorem SR.call (x : SR T lk F G σ h τ H) : ∃ G', SH T F G' h H ∧ ∀ F' h' H', Same F F' → SH T F' G' h' H' → SR T lk F' G σ h' τ H' := by
  obtain ⟨G', sh, b⟩ := x.s.call
  exact ⟨G', sh, fun F' h' H' s sh' => ⟨b F' h' H' s sh', x.lF.trans s, x.lG⟩⟩
end
end FF

namespace L2
open PySem PySem.Spec PyProof.Rows
/-! ### ranges of integers of any size -/
theorem turn_long {P : Program} {w : World} {K : PySem.W.Frag} {tg : Expr} (it : Addr) (lo : Int) (n : Nat) : Turn P w K tg (Itr lo n) [it] it (fun i h => IsLongIter h it (lo + (i : Nat) * 1) ((n : Int) - (i : Nat)) 1) where
  mem := by simp
  obj := fun i h st b hb => by
    have e : b = it := by simpa using hb
    subst e
    exact ⟨_, st, fun v z => by
      have z' : Data.fields _ = Data.cell v := z
      cases z'⟩
  keep := fun i h h' st k => k it (by simp) _ st
  item := by
    intro X hP hw hK hc i pins s σ H E I hf st hg
    subst hP hw hK
    obtain ⟨f0, f1, f2, f3, f4, f5⟩ := hf it (by simp)
    have W := Walks.longrange (prog := X.prog) (w := X.w) (I.ok.hd hc) it lo 1 n
    refine W.item i s _ _ hg st fun v h' tk hv st' kk => ?_
    obtain ⟨t, rfl⟩ := hv
    have I1 : Inv X pins σ H { s with heap := h', toks := tk } := I.turned (fun b o hb e => kk b o (by simpa using hb) e) f0 f1 f3 f4 f5
    refine ⟨_, rfl, go_of (s := { s with heap := h', toks := tk }) (n := "longrange_iterator") st' rfl rfl (by decide) ⟨.int (lo + i), H, I1, ⟨t, ?_⟩, ⟨rfl, rfl⟩, st', fun b hb => (hf b hb).1⟩⟩
    rw [Int.mul_one]
  done := by
    intro X hP hw hK hc i pins s σ H E I hf st hg
    subst hP hw hK
    obtain ⟨f0, f1, f2, f3, f4, f5⟩ := hf it (by simp)
    exact wpAny_pyNext_long_end (I.ok.hd hc) st (by have : n ≤ i := hg; omega) fun h' eb => ⟨rfl, I.turned (t' := s.toks) (fun b o hb e => eb b o hb e) f0 f1 f3 f4 f5⟩
  self := fun _ _ _ _ _ st h => wpAny_pyIter_longiter st h
section
variable {X : Cx} {tg : Expr}
theorem range_it_any {pins : List (Addr × Obj)} {σ : St} {H : Hp} {s : Shared} {R : It → Hp → Prop} {E : Value → Shared → Prop} {lo hi : Int} {t u v : Tok} {tk : Nat} (I : Inv X pins σ H s)
    (q : R (Itr lo (hi - lo).toNat) H) : wpAny (model X.prog X.w) X.A (pyIter (.ref s.heap.objs.size)) (PIE X pins σ tg R) E { s with heap := s.heap.push { cls := .type "range", data := .fields #[.int lo t, .int hi u, .int 1 v] }, toks := tk } := by
  have I1 : Inv X pins σ H { s with heap := s.heap.push { cls := .type "range", data := .fields #[.int lo t, .int hi u, .int 1 v] }, toks := tk } := I.kept fun b o e => Heap.get?_push_of_some _ e
  have e1 : lo + ((0 : Nat) : Int) * 1 = lo := by simp
  have e2 : (((hi - lo).toNat : Nat) : Int) - ((0 : Nat) : Int) = Builtin.Range.rangeSize lo hi 1 := by rw [rangeSize_one]; split <;> omega
  have fp : ∀ b ∈ [(s.heap.push { cls := .type "range", data := .fields #[.int lo t, .int hi u, .int 1 v] }).objs.size], FpOk X pins H b := fun b hb => by
    have e : b = (s.heap.push { cls := .type "range", data := .fields #[.int lo t, .int hi u, .int 1 v] }).objs.size := by simpa using hb
    subst e
    exact I1.fpOk (Nat.le_refl _) (I1.hok.fresh (Nat.le_refl _))
  cases hs : Builtin.Range.small lo hi 1 with
  | true =>
    refine wpAny_pyIter_range (IsRange.new ..) hs ?_
    refine ⟨(s.heap.push { cls := .type "range", data := .fields #[.int lo t, .int hi u, .int 1 v] }).objs.size, [(s.heap.push { cls := .type "range", data := .fields #[.int lo t, .int hi u, .int 1 v] }).objs.size], _, _, H, rfl,
      I1.kept (t' := tk) fun b o e => Heap.get?_push_of_some _ e, turn_range _ lo (hi - lo).toNat, ?_, fp, q⟩
    show IsRangeIter _ _ (lo + ((0 : Nat) : Int) * 1) ((((hi - lo).toNat : Nat) : Int) - ((0 : Nat) : Int)) 1
    rw [e1, e2]
    exact Heap.get?_push_size _ rfl
  | false =>
    refine wpAny_pyIter_longrange (IsRange.new ..) hs ?_
    refine ⟨(s.heap.push { cls := .type "range", data := .fields #[.int lo t, .int hi u, .int 1 v] }).objs.size, [(s.heap.push { cls := .type "range", data := .fields #[.int lo t, .int hi u, .int 1 v] }).objs.size], _, _, H, rfl,
      I1.kept (t' := tk) fun b o e => Heap.get?_push_of_some _ e, turn_long _ lo (hi - lo).toNat, ?_, fp, q⟩
    show IsLongIter _ _ (lo + ((0 : Nat) : Int) * 1) ((((hi - lo).toNat : Nat) : Int) - ((0 : Nat) : Int)) 1
    rw [e1, e2]
    exact Heap.get?_push_size _ rfl
def iRng1A (ta : TA) : TI := fun σ H R => ta σ H fun vs H1 => ∃ j : Int, vs = [.int j] ∧ R (Itr 0 j.toNat) H1
def iRng2A (ta : TA) : TI := fun σ H R => ta σ H fun vs H1 => ∃ i j : Int, vs = [.int i, .int j] ∧ R (Itr i (j - i).toNat) H1
theorem pi_range1A {a : Expr} {ta : TA} {p pos : Pos} (hg : Gl X "range") (hm : X.mg "range" = none) (ha : PA X [a] ta) (hs : starEach [a] X.env = [(false, eval a X.env)] := by rfl) : PI X tg (.Call (.Name "range" p) [a] [] pos) (iRng1A ta) := by
  refine ⟨fun pins s σ H R I h => ?_⟩
  refine Call_ (ld_blt I hg hm boot_range (PyProof.Rows.callWith_type1 (thn (ha.run pos pins s σ H _ I h) fun us s1 ⟨vs, H1, I1, r1, q1⟩ => ?_) hs rfl))
  obtain ⟨j, e, q⟩ := q1
  subst e
  cases r1 with
  | cons r rr =>
    cases rr
    obtain ⟨t, rfl⟩ := r
    exact call_range_1 (range_it_any I1 (by simpa using q))
theorem pi_range2A {a b : Expr} {ta : TA} {p pos : Pos} (hg : Gl X "range") (hm : X.mg "range" = none) (ha : PA X [a, b] ta) (hs : starEach [a, b] X.env = [(false, eval a X.env), (false, eval b X.env)] := by rfl) (hs2 : starEach [b] X.env = [(false, eval b X.env)] := by rfl) :
    PI X tg (.Call (.Name "range" p) [a, b] [] pos) (iRng2A ta) := by
  refine ⟨fun pins s σ H R I h => ?_⟩
  refine Call_ (ld_blt I hg hm boot_range (PyProof.Rows.callWith_type1 (thn (ha.run pos pins s σ H _ I h) fun us s1 ⟨vs, H1, I1, r1, q1⟩ => ?_) (by rw [hs, hs2]) (by rw [hs2]; rfl)))
  obtain ⟨i, j, e, q⟩ := q1
  subst e
  cases r1 with
  | cons r rr =>
    cases rr with
    | cons r' rr =>
      cases rr
      obtain ⟨t, rfl⟩ := r
      obtain ⟨t', rfl⟩ := r'
      exact call_range_2 (range_it_any I1 q)
end
end L2

namespace FF
open PySem PySem.Spec PyProof.Rows L2
/-! ### a str times an integer; the integer of digits -/
theorem foldl_reps (c : List Nat) : ∀ (k : Nat) (acc : List Nat), ((List.replicate k c.toArray).foldl (· ++ ·) acc.toArray) = (acc ++ (List.replicate k c).flatten).toArray
  | 0, acc => by simp
  | k + 1, acc => by
    rw [List.replicate_succ, List.foldl_cons, List.append_toArray, foldl_reps c k, List.replicate_succ, List.flatten_cons, List.append_assoc]
theorem mul_text {a : List Nat} {k : Int} (h : 0 ≤ k) : Txt.mul (sOf a) k = sOf (List.replicate k.toNat a).flatten := by
  unfold Txt.mul
  by_cases h1 : k < 1
  · rw [if_pos h1, show k.toNat = 0 by omega]; rfl
  · rw [if_neg h1]
    split
    · rename_i hc
      rw [Bool.or_eq_true, beq_iff_eq, beq_iff_eq] at hc
      rcases hc with hc | hc
      · rw [hc]
        show sOf a = sOf (a ++ [])
        rw [List.append_nil]
      · have : a = [] := by
          have : a.toArray.size = 0 := hc
          rw [List.size_toArray] at this
          exact List.length_eq_zero_iff.mp this
        subst this
        congr 1
        have : ∀ n : Nat, (List.replicate n ([] : List Nat)).flatten = [] := fun n => by simp
        rw [this]
    · have := foldl_reps a k.toNat []
      rw [List.nil_append] at this
      exact congrArg _ this
theorem op_mul_text {X : Cx} : OpR X (binaryOp .Mult) (fun x y H Q => ∃ a k, x = .str (sOf a) ∧ y = .int k ∧ (0 ≤ k ∧ k ≤ 4000 ∧ a.length ≤ 4000) ∧ Q (.str (sOf (List.replicate k.toNat a).flatten)) H) := by
  intro pins s σ H x y v u Q I rx ry h
  obtain ⟨a, k, rfl, rfl, ⟨h0, h1, h2⟩, q⟩ := h
  obtain ⟨t, rfl⟩ := rx
  obtain ⟨t', rfl⟩ := ry
  have hl : (sOf a).length = a.length := List.size_toArray
  have ok : MulOk (sOf a) k := mulOk_of 4000 4000 (by rw [hl]; exact h2) (by omega) (by omega) (by decide) (by decide)
  refine SB.mul ok fun t2 tk => ⟨.str (sOf (List.replicate k.toNat a).flatten), H, I.tok _, ⟨t2, ?_⟩, q⟩
  rw [mul_text h0]
open NumText in
theorem digits_go : ∀ (s : List Nat) (acc : Array Nat) (b : Bool), (∀ c ∈ s, 48 ≤ c ∧ c < 58) → s ≠ [] ∨ b = true → s.foldlM (NumText.step 10) (acc, b) = some ((acc ++ (s.map (· - 48)).toArray), true)
  | [], acc, b, _, hb => by
    rcases hb with hb | hb
    · exact absurd rfl hb
    · subst hb; simp
  | c :: r, acc, b, h, _ => by
    have hc := h c List.mem_cons_self
    have e : NumText.step 10 (acc, b) c = some (acc.push (c - 48), true) := by
      unfold NumText.step digit?
      have e1 : (c == 95) = false := by simp; omega
      have e2 : (decide (48 ≤ c) && decide (c ≤ 57)) = true := by simp; omega
      rw [e1, e2]
      show (if c - 48 < 10 then some (acc.push (c - 48), true) else none) = _
      rw [if_pos (by omega)]
    rw [List.foldlM_cons, e]
    show r.foldlM (NumText.step 10) (acc.push (c - 48), true) = _
    rw [digits_go r _ _ (fun x hx => h x (List.mem_cons_of_mem _ hx)) (.inr rfl)]
    simp
theorem take_all {p : Nat → Bool} : ∀ (s : List Nat), (∀ c ∈ s, p c = true) → s.takeWhile p = s
  | [], _ => rfl
  | c :: r, h => by rw [List.takeWhile_cons, h c List.mem_cons_self, if_pos rfl, take_all r fun x m => h x (List.mem_cons_of_mem _ m)]
theorem dec_fold : ∀ (s : List Nat) (a : Nat), (s.map (· - 48)).foldl (fun acc d => acc * 10 + d) a = s.foldl (fun a c => a * 10 + (c - 48)) a
  | [], _ => rfl
  | c :: r, a => by
    rw [List.map_cons, List.foldl_cons, List.foldl_cons]
    exact dec_fold r _
open NumText in
theorem int_text {s : List Nat} (h0 : s ≠ []) (h1 : s.length ≤ 640) (h2 : digS s = true) : PySem.intText? (sOf s) = some ((decN s : Nat) : Int) := by
  have hc : ∀ c ∈ s, 48 ≤ c ∧ c < 58 := fun c m => of_decide_eq_true (List.all_eq_true.mp h2 c m)
  have t1 : numTextOf (sOf s) = s := by
    unfold numTextOf
    rw [if_pos]
    rw [← Array.all_toList]
    show s.all _ = true
    exact List.all_eq_true.mpr fun c m => by have := hc c m; simp; omega
  have t2 : numSeenOf (sOf s) = s := by
    unfold numSeenOf
    rw [t1]
    exact take_all s fun c m => by have := hc c m; simp; omega
  have nb : ∀ c, 48 ≤ c → blank c = false := fun c m => by unfold blank; simp; omega
  have d1 : s.dropWhile blank = s := by
    cases s with
    | nil => rfl
    | cons c r => rw [List.dropWhile_cons, nb c (hc c List.mem_cons_self).1]; rfl
  have sg : sign s = (false, s) := by
    unfold sign
    cases s with
    | nil => rfl
    | cons c r =>
      have := hc c List.mem_cons_self
      split
      · rename_i e; cases e; omega
      · rename_i e; cases e; omega
      · rfl
  have co : core s = s := by
    unfold core
    rw [d1, sg]
    have : s.reverse.dropWhile blank = s.reverse := by
      cases e : s.reverse with
      | nil => rfl
      | cons c r =>
        have : c ∈ s := by rw [← List.mem_reverse, e]; exact List.mem_cons_self
        rw [List.dropWhile_cons, nb c (hc c this).1]; rfl
    rw [this, List.reverse_reverse]
  have dg : digits? 10 s = some (s.map (· - 48)).toArray := by
    unfold digits?
    rw [digits_go s #[] false hc (.inl h0)]
    simp
  unfold PySem.intText?
  rw [t1, t2, if_pos (by simp), co, dg]
  show (if (s.map (· - 48)).toArray.size ≤ 4300 then _ else _) = _
  rw [if_pos (by rw [List.size_toArray, List.length_map]; omega), d1, sg]
  unfold worth
  rw [if_neg (show ¬ false = true by decide), List.foldl_toArray, dec_fold]
  rfl
end FF

namespace FF
open PySem PySem.Spec PyProof.Rows L2

structure RRt where
  F0 : Hp
  G0 : Hp
  R : Exc → Env → AH → Prop
abbrev RRt.lk (RR : RRt) (X : Cx) : Lk := ⟨X.pn, RR.F0, RR.G0⟩
section
variable {X : Cx} {T : Tb}
theorem PE.imp {e : Expr} {t t' : TE} (p : PE X e t) (h : ∀ τ H Q, t' τ H Q → t τ H Q) : PE X e t' := ⟨fun pins s τ H Q I q => p.run pins s τ H Q I (h τ H Q q)⟩
theorem PT.imp {e : Expr} {t t' : TT} (p : PT X e t) (h : ∀ τ H Q, t' τ H Q → t τ H Q) : PT X e t' := ⟨fun pins s τ H Q I q => p.run pins s τ H Q I (h τ H Q q)⟩
theorem PW.imp {e : Expr} {t t' : TT} (p : PW X e t) (h : ∀ τ H Q, t' τ H Q → t τ H Q) : PW X e t' := ⟨fun wh pins s τ H Q I q => p.run wh pins s τ H Q I (h τ H Q q)⟩
theorem PA.imp {e : List Expr} {t t' : TA} (p : PA X e t) (h : ∀ τ H Q, t' τ H Q → t τ H Q) : PA X e t' := ⟨fun pos pins s τ H Q I q => p.run pos pins s τ H Q I (h τ H Q q)⟩
theorem PS.imp {e : Stmt} {t t' : TS} (p : PS X e t) (h : ∀ D τ H, t' D τ H → t D τ H) : PS X e t' := ⟨fun pins s τ H D I q => p.run pins s τ H D I (h D τ H q)⟩
theorem PSs.imp {e : List Stmt} {t t' : TS} (p : PSs X e t) (h : ∀ D τ H, t' D τ H → t D τ H) : PSs X e t' := ⟨fun pins s τ H D I q => p.run pins s τ H D I (h D τ H q)⟩

/-- our reading of an expression, in the layer's words -/
def LE (T : Tb) (X : Cx) (RR : RRt) (w : Env → AH → QE → RE → Prop) : TE := fun τ H Q =>
  ∃ F G σ h Qd, SR T (RR.lk X) F G σ h τ H ∧ w σ h Qd (fun x h' => RR.R x σ h') ∧ ∀ d h' v F' H', Same F F' → SR T (RR.lk X) F' G σ h' τ H' → Rep T F' d v → Qd d h' → Q v H'
def LT (T : Tb) (X : Cx) (RR : RRt) (w : Env → AH → QE → RE → Prop) : TT := fun τ H Q =>
  ∃ F G σ h, ∃ Qd : Bool → AH → Prop, SR T (RR.lk X) F G σ h τ H ∧ w σ h (fun x h' => match x with | .bl k => Qd k h' | _ => False) (fun x h' => RR.R x σ h') ∧ ∀ k h' F' H', Same F F' → SR T (RR.lk X) F' G σ h' τ H' → Qd k h' → Q k H'
def LA (T : Tb) (X : Cx) (RR : RRt) (n : Nat) (w : Env → AH → (List D → AH → Prop) → RE → Prop) : TA := fun τ H Q =>
  ∃ F G σ h Qd, SR T (RR.lk X) F G σ h τ H ∧ w σ h Qd (fun x h' => RR.R x σ h') ∧ ∀ d h' v F' H', d.length = n → Same F F' → SR T (RR.lk X) F' G σ h' τ H' → Reps T F' d v → Qd d h' → Q v H'
variable {RR : RRt}
theorem LT.imp {w w' : Env → AH → QE → RE → Prop} {τ : L2.St} {H : Hp} {Q : Bool → Hp → Prop} (h : LT T X RR w τ H Q) (i : ∀ σ h Qd R, w σ h Qd R → w' σ h Qd R) : LT T X RR w' τ H Q := by
  obtain ⟨F, G, σ, h0, Qd, sr, q, k⟩ := h
  exact ⟨F, G, σ, h0, Qd, sr, i _ _ _ _ q, k⟩

/-! ### operators by their values -/
/-- what a data operation is, in the layer's words -/
def L2op (T : Tb) (X : Cx) (f : D → D → AH → QE → Prop) : R2 := fun x y H Q =>
  ∃ F G σ h τ dx dy Qd, SR0 T X.pn F G σ h τ H ∧ Rep T F dx x ∧ Rep T F dy y ∧ f dx dy h Qd ∧ ∀ z h' v F' H', Same F F' → SR0 T X.pn F' G σ h' τ H' → Rep T F' z v → Qd z h' → Q v H'
def L1op (T : Tb) (X : Cx) (f : D → AH → QE → Prop) : V → Hp → VK → Prop := fun x H Q =>
  ∃ F G σ h τ dx Qd, SR0 T X.pn F G σ h τ H ∧ Rep T F dx x ∧ f dx h Qd ∧ ∀ z h' v F' H', Same F F' → SR0 T X.pn F' G σ h' τ H' → Rep T F' z v → Qd z h' → Q v H'
def LNop (T : Tb) (X : Cx) (f : List D → AH → QE → Prop) : List V → Hp → VK → Prop := fun x H Q =>
  ∃ F G σ h τ dx Qd, SR0 T X.pn F G σ h τ H ∧ Reps T F dx x ∧ f dx h Qd ∧ ∀ z h' v F' H', Same F F' → SR0 T X.pn F' G σ h' τ H' → Rep T F' z v → Qd z h' → Q v H'
theorem le_op {wa wb : Env → AH → QE → RE → Prop} {f : D → D → AH → QE → Prop} {τ : L2.St} {H : Hp} {Q : VK}
    (h : LE T X RR (fun σ h Q R => wa σ h (fun x h => wb σ h (fun y h => f x y h Q) R) R) τ H Q) : tOp (L2op T X f) (LE T X RR wa) (LE T X RR wb) τ H Q := by
  obtain ⟨F, G, σ, h, Qd, sr, w, k⟩ := h
  exact ⟨F, G, σ, h, _, sr, w, fun dx h1 vx F1 H1 s1 sr1 r1 w1 => ⟨F1, G, σ, h1, _, sr1, w1, fun dy h2 vy F2 H2 s2 sr2 r2 w2 =>
    ⟨F2, G, σ, h2, τ, dx, dy, Qd, sr2.s, r1.mono s2, r2, w2, fun z h' v F' H' s3 sr3 r3 q => k z h' v F' H' (s1.trans (s2.trans s3)) ⟨sr3, sr2.lF.trans s3, sr2.lG⟩ r3 q⟩⟩⟩
theorem le_un {wa : Env → AH → QE → RE → Prop} {f : D → AH → QE → Prop} {τ : L2.St} {H : Hp} {Q : VK}
    (h : LE T X RR (fun σ h Q R => wa σ h (fun x h => f x h Q) R) τ H Q) : tUn (L1op T X f) (LE T X RR wa) τ H Q := by
  obtain ⟨F, G, σ, h, Qd, sr, w, k⟩ := h
  exact ⟨F, G, σ, h, _, sr, w, fun dx h1 vx F1 H1 s1 sr1 r1 w1 => ⟨F1, G, σ, h1, τ, dx, Qd, sr1.s, r1, w1, fun z h' v F' H' s3 sr3 r3 q => k z h' v F' H' (s1.trans s3) ⟨sr3, sr1.lF.trans s3, sr1.lG⟩ r3 q⟩⟩

/-! ### ints -/
theorem mulOk_ok {i j : Int} (h : mulOk i j) : IntMulOk i j := by
  have b : ∀ x : Int, Builtin.Int.intBits x = bitsI x := fun x => by
    unfold Builtin.Int.intBits bitsI
    by_cases e : x = 0
    · subst e; rfl
    · rw [if_neg (by simpa using e), if_neg e]
  have e : bitsLine = 134217728 := by decide
  unfold IntMulOk
  intro z
  simp only [Bool.and_eq_true, decide_eq_true_eq, b, shortFactorBits_eq, Builtin.Int.intTooBig, e] at z
  unfold mulOk at h
  omega
theorem bits_eq (x : Int) : Builtin.Int.intBits x = bitsI x := by
  unfold Builtin.Int.intBits bitsI
  by_cases e : x = 0
  · subst e; rfl
  · rw [if_neg (by simpa using e), if_neg e]
theorem noPy {i j : Int} (h : bitsI j ≤ 9000) : Builtin.divisionGoesByPylong i j = false := PyProof.noPylong_of_log2 (by
  unfold bitsI at h
  by_cases e : j = 0
  · subst e; decide
  · rw [if_neg e] at h; omega)

def opM : BOp → Operator
  | .add => .Add | .sub => .Sub | .mul => .Mult | .fdiv => .FloorDiv | .mod => .Mod | .pow => .Pow | .shl => .LShift | .shr => .RShift
def copM : COp → CmpOp
  | .eq => .Eq | .ne => .NotEq | .lt => .Lt | .le => .LtE | .gt => .Gt | .ge => .GtE | .is_ => .Is | .isn => .IsNot | .in_ => .In | .nin => .NotIn

theorem op_mulG : OpR X (binaryOp .Mult) (rI mulOk fun i j => .int (i * j)) := opI fun _ _ _ _ _ _ _ hc q => mul_int q (mulOk_ok hc)
theorem op_fdivG : OpR X (binaryOp .FloorDiv) (rI (fun _ j => j ≠ 0 ∧ bitsI j ≤ 9000) fun i j => .int (i.fdiv j)) := opI fun _ _ _ _ _ _ _ hc q => floordiv_int hc.1 q (.inl (noPy hc.2))
theorem op_shlG : OpR X (binaryOp .LShift) (rI (fun i j => 0 ≤ j ∧ (bitsI i : Int) + j ≤ 134217728) fun i j => .int (i * 2 ^ j.toNat)) := opI fun i j _ _ _ _ _ hc q => by
  have e : (2 : Int) ^ 27 = 134217728 := by decide
  refine lshift_int hc.1 ?_ q
  rw [bits_eq, e]
  exact hc.2
theorem SL_eq : SL = sizeLine := sizeLine_eq.symm

/-- a list + a list, of any standing -/
theorem op_catS : OpR X (binaryOp .Add) (fun x y H Q => ∃ l b xs zs, x = .ref l ∧ y = .ref b ∧ SqL X.K H l xs ∧ SqL X.K H b zs ∧ xs.length + zs.length ≤ sizeLine ∧ ∀ p, H p = none → Q (.ref p) (upd H p (.lst (xs ++ zs)))) := by
  intro pins s σ H x y v u Q I rx ry h
  obtain ⟨l, b, xs, zs, rfl, rfl, hH, hB, hz, q⟩ := h
  cases rx
  cases ry
  obtain ⟨its, r, p1, hl⟩ := I.list hH
  obtain ⟨its2, r2, p2, hl2⟩ := I.list hB
  obtain ⟨⟨cls, dd, data, sl⟩, n, ho, hc, hdd, hd⟩ := p1
  obtain ⟨⟨cls2, dd2, data2, sl2⟩, n2, ho2, hc2, hdd2, hd2⟩ := p2
  simp only at hc hd hc2 hd2
  subst hc hd hc2 hd2
  have e : its.toArray ++ its2.toArray = (its ++ its2).toArray := by simp
  have l1 := r.length
  have l2 := r2.length
  refine concat_meets ⟨_, ho, rfl⟩ ⟨_, ho2, rfl⟩ noFill_list_add seq_list_add PySem.F.slot_list_add PySem.F.entry_list_add (PySem.F.args_list_add_2 _ _) (list_addW l b its.toArray its2.toArray n n2 dd dd2 sl sl2 (by rw [List.size_toArray, List.size_toArray]; omega)) ⟨ho, ho2, ?_⟩
  rw [e]
  exact ⟨.ref _, _, I.lnew (t' := s.toks) (r.append r2) (by rw [List.length_append]; omega), rfl, q _ I.fresh⟩
/-- a list times an int -/
theorem op_repS : OpR X (binaryOp .Mult) (fun x y H Q => ∃ l k xs, x = .ref l ∧ y = .int k ∧ SqL X.K H l xs ∧ -1000000 < k ∧ k < 1000000 ∧ xs.length * k.toNat ≤ sizeLine ∧ ∀ p, H p = none → Q (.ref p) (upd H p (.lst (List.replicate k.toNat xs).flatten))) := by
  intro pins s σ H x y v u Q I rx ry h
  obtain ⟨l, k, xs, rfl, rfl, hH, h1, h2, hz, q⟩ := h
  cases rx
  obtain ⟨t, rfl⟩ := ry
  obtain ⟨its, r, p1, hl⟩ := I.list hH
  obtain ⟨⟨cls, dd, data, sl⟩, n, ho, hc, hdd, hd⟩ := p1
  simp only at hc hd
  subst hc hd
  have l1 := r.length
  have hz' : its.toArray.size * k.toNat ≤ 2 ^ 24 := by
    rw [List.size_toArray, ← l1]
    have e : sizeLine = 2 ^ 24 := by decide
    rw [← e]
    exact hz
  refine wpAny_binaryOp_repeat_ref (T := "list") (U := "int") (by decide) ⟨_, ho, rfl⟩ (fun s' => typeIs_int s' k t) noFill_list_mul F.fills_int_mul F.slot_int_rmul repeat_list F.slot_int_index.lookup
    (call_meets F.slot_int_rmul (typeIs_int s k t) F.entry_int_rmul (F.args_int_rmul_2 _ _) (lm_int_rmul_list_any k t l its.toArray n dd sl)
      ⟨ho, rfl, ⟨_, ho, rfl⟩, call_meets F.slot_list_mul ⟨_, ho, rfl⟩ F.entry_list_mul (F.args_list_mul_2 _ _)
        (lm_list_mul_any l its.toArray n dd sl k t (by simp [Builtin.List.listFitsIndex]; omega) (by omega) (by simp [Builtin.List.listTooLong, sizeLine]; omega))
        ⟨ho, ?_⟩⟩)
  rw [listMul_foldl_if]
  exact ⟨.ref _, _, I.lnew (t' := s.toks) (r.rep k.toNat) (by rw [PyProof.Rows.lm_len_rep_flat, Nat.mul_comm]; exact hz), rfl, q _ I.fresh⟩
def rBin (T : Tb) (X : Cx) (op : BOp) : R2 := L2op T X fun x y h Q => wBin op x y fun z => Q z h
theorem op_bin (hK : X.K = T.K) (op : BOp) : OpR X (binaryOp (opM op)) (rBin T X op) := by
  intro pins s σ H x y v u Q I rx ry h
  obtain ⟨F, G, σ', h, τ, dx, dy, Qd, sr, r1, r2, w, k⟩ := h
  have res : ∀ (z : D) (v' : V), Rep T F z v' → Qd z h → Q v' H := fun z v' r q => k z h v' F H (Same.refl _) sr r q
  cases r1 with
  | int =>
    cases r2 with
    | int =>
      rename_i i j
      cases op with
      | add => exact op_add pins s σ H _ _ v u Q I rx ry ⟨i, j, rfl, rfl, res _ _ .int w⟩
      | sub => exact op_sub pins s σ H _ _ v u Q I rx ry ⟨i, j, rfl, rfl, res _ _ .int w⟩
      | mul => exact op_mulG pins s σ H _ _ v u Q I rx ry ⟨i, j, rfl, rfl, w.1, res _ _ .int w.2⟩
      | fdiv => exact op_fdivG pins s σ H _ _ v u Q I rx ry ⟨i, j, rfl, rfl, w.1, res _ _ .int w.2⟩
      | mod => exact op_modN pins s σ H _ _ v u Q I rx ry ⟨i, j, rfl, rfl, w.1, res _ _ .int w.2⟩
      | pow => exact op_pow pins s σ H _ _ v u Q I rx ry ⟨i, j, rfl, rfl, w.1, res _ _ .int w.2⟩
      | shl => exact op_shlG pins s σ H _ _ v u Q I rx ry ⟨i, j, rfl, rfl, w.1, res _ _ .int w.2⟩
      | shr => exact op_shr pins s σ H _ _ v u Q I rx ry ⟨i, j, rfl, rfl, w.1, res _ _ .int w.2⟩
    | _ => exact False.elim w
  | lst s1 q1 =>
    rename_i l a vs
    cases r2 with
    | lst s2 q2 =>
      rename_i m b us
      cases op with
      | add =>
        obtain ⟨w1, w2⟩ := w
        refine op_catS pins s σ H _ _ v u Q I rx ry ⟨a, b, vs, us, rfl, rfl, hK ▸ sr.sh.sF.seq s1, hK ▸ sr.sh.sF.seq s2, ?_, fun p hp => ?_⟩
        · rw [← q1.length, ← q2.length, ← SL_eq]; exact w1
        · have g := Grow.new (o := .lst (vs ++ us)) sr.sh.sF hp
          exact k _ _ _ _ _ g.f (sr.grow g) (.lst (SqL.of upd_same) ((q1.append q2).mono g.f)) w2
      | _ => exact False.elim w
    | int =>
      rename_i i
      cases op with
      | mul =>
        obtain ⟨w1, w2⟩ := w
        refine op_repS pins s σ H _ _ v u Q I rx ry ⟨a, i, vs, rfl, rfl, hK ▸ sr.sh.sF.seq s1, w1.1, w1.2.1, by rw [← q1.length, ← SL_eq]; exact w1.2.2, fun p hp => ?_⟩
        have g := Grow.new (o := .lst (List.replicate i.toNat vs).flatten) sr.sh.sF hp
        have key : ∀ n : Nat, Reps T F (List.replicate n l).flatten (List.replicate n vs).flatten := fun n => by
          induction n with
          | zero => exact .nil
          | succ n ih => rw [List.replicate_succ, List.flatten_cons, List.replicate_succ, List.flatten_cons]; exact q1.append ih
        exact k _ _ _ _ _ g.f (sr.grow g) (.lst (SqL.of upd_same) ((key _).mono g.f)) w2
      | _ => exact False.elim w
    | _ => exact False.elim w
  | str =>
    rename_i x
    cases r2 with
    | str =>
      rename_i y
      cases op with
      | add =>
        obtain ⟨w1, w2⟩ := w
        refine op_add_str pins s σ H _ _ v u Q I rx ry ⟨sOf x, sOf y, rfl, rfl, ?_, ?_⟩
        · show x.toArray.size + y.toArray.size ≤ _
          rw [List.size_toArray, List.size_toArray, ← SL_eq]; exact w1
        · have e : sOf x ++ sOf y = sOf (x ++ y) := by
            show (⟨x.toArray ++ y.toArray⟩ : Str) = _
            simp [sOf]
          rw [e]
          exact res _ _ .str w2
      | _ => exact False.elim w
    | int =>
      rename_i i
      cases op with
      | mul => exact op_mul_text pins s σ H _ _ v u Q I rx ry ⟨x, i, rfl, rfl, w.1, res _ _ .str w.2⟩
      | _ => exact False.elim w
    | _ => exact False.elim w
  | tup s1 q1 =>
    rename_i l a vs
    cases r2 with
    | tup s2 q2 =>
      rename_i m b us
      cases op with
      | add =>
        obtain ⟨⟨_, _, n1, n2, w1⟩, w2⟩ := w
        have e1 : vs ≠ [] := fun z => by subst z; cases q1; exact n1 rfl
        have e2 : us ≠ [] := fun z => by subst z; cases q2; exact n2 rfl
        refine op_catT pins s σ H _ _ v u Q I rx ry ⟨a, b, vs, us, rfl, rfl, hK ▸ Same.sqt sr.sh.sF s1, hK ▸ Same.sqt sr.sh.sF s2, e1, ?_, fun z => absurd z e2, fun _ p hp => ?_⟩
        · rw [← q1.length, ← q2.length, ← SL_eq]; exact w1
        · have g := Grow.new (o := .tup (vs ++ us)) sr.sh.sF hp
          exact k _ _ _ _ _ g.f (sr.grow g) (.tup (SqT.of upd_same) ((q1.append q2).mono g.f)) w2
      | _ => exact False.elim w
    | _ => exact False.elim w
  | _ => cases r2 <;> exact False.elim w
end
end FF

namespace FF
open PySem PySem.Spec PyProof.Rows L2
mutual
def D.py : D → PyData
  | .bl b => .bool b
  | .int i => .int i
  | .str s => .str (sOf s)
  | .tup l => .tuple (D.pys l)
  | .lst l => .list (D.pys l)
  | _ => .none
def D.pys : List D → List PyData
  | [] => []
  | d :: r => D.py d :: D.pys r
end
theorem depth_all {n : Nat} {ds : List PyData} : (∀ d ∈ ds, d.depth ≤ n) → PyData.depthAll ds ≤ n := by
  induction ds with
  | nil => intro _; exact Nat.zero_le _
  | cons d r ih =>
    intro h
    rw [PyData.depthAll]
    exact Nat.max_le.mpr ⟨h d List.mem_cons_self, ih fun e he => h e (List.mem_cons_of_mem _ he)⟩
theorem lay_all {ds : List PyData} : (∀ d ∈ ds, d.canLay0 = true) → PyData.canLayAll0 ds = true := by
  induction ds with
  | nil => intro _; simp [PyData.canLayAll0]
  | cons d r ih =>
    intro h
    rw [PyData.canLayAll0, h d List.mem_cons_self, ih fun e he => h e (List.mem_cons_of_mem _ he)]
    rfl
theorem pys_mem {ds : List D} {p : PyData} : p ∈ D.pys ds → ∃ d ∈ ds, d.py = p := by
  induction ds with
  | nil => intro h; cases h
  | cons d r ih =>
    intro h
    rw [D.pys] at h
    rcases List.mem_cons.mp h with e | h
    · exact ⟨d, List.mem_cons_self, e.symm⟩
    · obtain ⟨e, h1, h2⟩ := ih h
      exact ⟨e, List.mem_cons_of_mem _ h1, h2⟩
theorem pln_lay : ∀ (n : Nat) (d : D), d.pln n = true → d.py.canLay0 = true ∧ d.py.depth ≤ n := by
  intro n
  induction n with
  | zero =>
    intro d h
    cases d with
    | non => exact ⟨by simp [D.py, PyData.canLay0], by simp [D.py, PyData.depth]⟩
    | bl b => exact ⟨by simp [D.py, PyData.canLay0], by simp [D.py, PyData.depth]⟩
    | int b => exact ⟨by simp [D.py, PyData.canLay0], by simp [D.py, PyData.depth]⟩
    | str s =>
      refine ⟨?_, by simp [D.py, PyData.depth]⟩
      have h : s.all (· < 1114112) = true := by simpa [D.pln] using h
      simp only [D.py, PyData.canLay0, PyData.strOk]
      simpa using h
    | _ => simp [D.pln] at h
  | succ n ih =>
    intro d h
    cases d with
    | non => exact ⟨by simp [D.py, PyData.canLay0], by simp [D.py, PyData.depth]⟩
    | bl b => exact ⟨by simp [D.py, PyData.canLay0], by simp [D.py, PyData.depth]⟩
    | int b => exact ⟨by simp [D.py, PyData.canLay0], by simp [D.py, PyData.depth]⟩
    | str s =>
      refine ⟨?_, by simp [D.py, PyData.depth]⟩
      have h : s.all (· < 1114112) = true := by simpa [D.pln] using h
      simp only [D.py, PyData.canLay0, PyData.strOk]
      simpa using h
    | tup l =>
      have h : l.all (D.pln n) = true := by simpa [D.pln] using h
      have h' : ∀ d ∈ l, d.pln n = true := fun d hd => List.all_eq_true.mp h d hd
      refine ⟨?_, ?_⟩
      · simp only [D.py, PyData.canLay0]
        exact lay_all fun p hp => by obtain ⟨d, h1, h2⟩ := pys_mem hp; rw [← h2]; exact (ih d (h' d h1)).1
      · simp only [D.py, PyData.depth]
        have := depth_all (n := n) (ds := D.pys l) fun p hp => by obtain ⟨d, h1, h2⟩ := pys_mem hp; rw [← h2]; exact (ih d (h' d h1)).2
        omega
    | lst l =>
      have h : l.all (D.pln n) = true := by simpa [D.pln] using h
      have h' : ∀ d ∈ l, d.pln n = true := fun d hd => List.all_eq_true.mp h d hd
      refine ⟨?_, ?_⟩
      · simp only [D.py, PyData.canLay0]
        exact lay_all fun p hp => by obtain ⟨d, h1, h2⟩ := pys_mem hp; rw [← h2]; exact (ih d (h' d h1)).1
      · simp only [D.py, PyData.depth]
        have := depth_all (n := n) (ds := D.pys l) fun p hp => by obtain ⟨d, h1, h2⟩ := pys_mem hp; rw [← h2]; exact (ih d (h' d h1)).2
        omega
    | _ => simp [D.pln] at h
theorem pln_shaped {n : Nat} {d : D} (h : d.pln n = true) (hn : n ≤ 64) : SeqAt.shaped d.py = true := by
  obtain ⟨a, b⟩ := pln_lay n d h
  unfold SeqAt.shaped
  rw [a, decide_eq_true (Nat.le_trans b hn)]
  rfl
theorem sOf_inj {x y : List Nat} (h : sOf x = sOf y) : x = y := by
  have : x.toArray = y.toArray := congrArg Str.cps h
  simpa using this
theorem sOf_beq (x y : List Nat) : (sOf x == sOf y) = (x == y) := by
  by_cases e : x = y
  · subst e; simp
  · have : sOf x ≠ sOf y := fun z => e (sOf_inj z)
    rw [beq_eq_false_iff_ne.mpr this, beq_eq_false_iff_ne.mpr e]
mutual
theorem eqv_py : ∀ (n : Nat) (d e : D), d.pln n = true → e.pln n = true → PyData.eqv d.py e.py = D.eqb d e
  | n, .non, e, _, he => by cases e <;> first | (cases n <;> simp [D.pln] at he; done) | simp [D.py, PyData.eqv, D.eqb]
  | n, .bl b, e, _, he => by cases e <;> first | (cases n <;> simp [D.pln] at he; done) | simp [D.py, PyData.eqv, D.eqb]
  | n, .int b, e, _, he => by cases e <;> first | (cases n <;> simp [D.pln] at he; done) | simp [D.py, PyData.eqv, D.eqb]
  | n, .str b, e, _, he => by cases e <;> first | (cases n <;> simp [D.pln] at he; done) | simp [D.py, PyData.eqv, D.eqb, sOf_beq]
  | 0, .tup l, e, hd, _ => by simp [D.pln] at hd
  | n + 1, .tup l, e, hd, he => by
    cases e with
    | tup m =>
      simp only [D.py, PyData.eqv, D.eqb]
      exact eqv_pys n l m (by simpa [D.pln] using hd) (by simpa [D.pln] using he)
    | _ => first | (simp [D.pln] at he; done) | simp [D.py, PyData.eqv, D.eqb]
  | 0, .lst l, e, hd, _ => by simp [D.pln] at hd
  | n + 1, .lst l, e, hd, he => by
    cases e with
    | lst m =>
      simp only [D.py, PyData.eqv, D.eqb]
      exact eqv_pys n l m (by simpa [D.pln] using hd) (by simpa [D.pln] using he)
    | _ => first | (simp [D.pln] at he; done) | simp [D.py, PyData.eqv, D.eqb]
  | n, .obj _ _, _, hd, _ => by cases n <;> simp [D.pln] at hd
  | n, .ref _, _, hd, _ => by cases n <;> simp [D.pln] at hd
  | n, .fn _, _, hd, _ => by cases n <;> simp [D.pln] at hd
  | n, .clo _ _, _, hd, _ => by cases n <;> simp [D.pln] at hd
  | n, .odd _, _, hd, _ => by cases n <;> simp [D.pln] at hd
theorem eqv_pys : ∀ (n : Nat) (d e : List D), (∀ x ∈ d, x.pln n = true) → (∀ x ∈ e, x.pln n = true) → PyData.eqvAll (D.pys d) (D.pys e) = D.eqbs d e
  | _, [], [], _, _ => by simp [D.pys, PyData.eqvAll, D.eqbs]
  | _, [], _ :: _, _, _ => by simp [D.pys, PyData.eqvAll, D.eqbs]
  | _, _ :: _, [], _, _ => by simp [D.pys, PyData.eqvAll, D.eqbs]
  | n, x :: xs, y :: ys, hd, he => by
    simp only [D.pys, PyData.eqvAll, D.eqbs]
    rw [eqv_py n x y (hd x List.mem_cons_self) (he y List.mem_cons_self), eqv_pys n xs ys (fun z hz => hd z (List.mem_cons_of_mem _ hz)) fun z hz => he z (List.mem_cons_of_mem _ hz)]
end
section
variable {X : Cx} {T : Tb} {F H : Hp}
mutual
theorem rep_dp (s : Same F H) : ∀ {d : D} {v : V}, Rep T F d v → ∀ {n : Nat}, d.pln n = true → Dp T.K H v d.py
  | _, _, .dct _, n, p => by cases n <;> simp [D.pln] at p
  | _, _, .non, _, _ => by rw [D.py]; exact .non; all_goals simp
  | _, _, .bl, _, _ => by rw [D.py]; exact .bl _
  | _, _, .int, _, _ => by rw [D.py]; exact .int _
  | _, _, .str, _, _ => by rw [D.py]; exact .str _
  | _, _, .tup h r, n, p => by
    cases n with
    | zero => simp [D.pln] at p
    | succ n =>
      rw [D.py]
      exact .tup (Same.sqt s h) (reps_dp s r (n := n) (by simpa [D.pln] using p))
  | _, _, .lst h r, n, p => by
    cases n with
    | zero => simp [D.pln] at p
    | succ n =>
      rw [D.py]
      exact .lst (s.seq h) (reps_dp s r (n := n) (by simpa [D.pln] using p))
  | _, _, .obj _ _ _, n, p => by cases n <;> simp [D.pln] at p
  | _, _, .ref, n, p => by cases n <;> simp [D.pln] at p
  | _, _, .fn, n, p => by cases n <;> simp [D.pln] at p
theorem reps_dp (s : Same F H) : ∀ {d : List D} {v : List V}, Reps T F d v → ∀ {n : Nat}, (∀ x ∈ d, x.pln n = true) → DpAll T.K H v (D.pys d)
  | _, _, .nil, _, _ => by rw [D.pys]; exact .nil
  | _, _, .cons h r, n, p => by
    rw [D.pys]
    exact .cons (rep_dp s h (n := n) (p _ List.mem_cons_self)) (reps_dp s r (n := n) fun x hx => p x (List.mem_cons_of_mem _ hx))
end
theorem rep_isNon {d : D} {v : V} (r : Rep T F d v) : decide (v = .non) = d.isNon := by
  cases r <;> simp [D.isNon]
theorem rep_flat {d : D} {v : V} (r : Rep T F d v) (h : d.flat = true) : flatV v = true := by
  cases r <;> first | rfl | cases h
theorem reps_flat : ∀ {d : List D} {v : List V}, Reps T F d v → d.all D.flat = true → v.all flatV = true
  | _, _, .nil, _ => rfl
  | _, _, .cons h r, e => by
    rw [List.all_cons, Bool.and_eq_true] at e
    rw [List.all_cons, rep_flat h e.1, reps_flat r e.2]
    rfl
theorem eqV_eqb {d e : D} {v u : V} (r : Rep T F d v) (q : Rep T F e u) (hd : d.flat = true) (he : e.flat = true) : eqV u v = D.eqb d e := by
  have bc : ∀ {α : Type} [BEq α] [LawfulBEq α] (a b : α), (a == b) = (b == a) := fun a b => by
    rw [Bool.eq_iff_iff, beq_iff_eq, beq_iff_eq]
    exact eq_comm
  cases r <;> first | (cases (show false = true from hd); done) | (cases q <;> first | (cases (show false = true from he); done) | rfl | (simp only [eqV, D.eqb]; done) | (simp only [eqV, D.eqb]; first | exact bc (α := Int) _ _ | exact bc (α := Bool) _ _) | (simp only [eqV, D.eqb, sOf_beq]; exact bc (α := List Nat) _ _))
theorem inV_any {d : D} {v : V} (r : Rep T F d v) (hd : d.flat = true) : ∀ {l : List D} {vs : List V}, Reps T F l vs → l.all D.flat = true → inV v vs = l.any (D.eqb d)
  | _, _, .nil, _ => rfl
  | _, _, .cons h q, e => by
    rw [List.all_cons, Bool.and_eq_true] at e
    unfold inV
    rw [List.any_cons, List.any_cons, eqV_eqb r h hd e.1]
    congr 1
    exact inV_any r hd q e.2
theorem asL_rep {F G : Hp} {h : AH} {H : Hp} (sh : SH T F G h H) {d : D} {v : V} {l : List D} (r : Rep T F d v) (e : asL h d = some l) : ∃ a vs, v = .ref a ∧ SqL T.K H a vs ∧ Reps T F l vs := by
  cases r with
  | lst h1 q =>
    cases e
    exact ⟨_, _, rfl, sh.sF.seq h1, q⟩
  | ref =>
    rename_i a
    unfold asL at e
    simp only at e
    split at e
    · rename_i m hm
      cases e
      obtain ⟨_, _, vs, e1, q⟩ := sh.cell _ _ hm
      exact ⟨a, vs, rfl, SqL.of e1, q⟩
    · cases e
  | _ => cases e
theorem asLT_rep {F G : Hp} {h : AH} {H : Hp} (sh : SH T F G h H) {d : D} {v : V} {l : List D} (r : Rep T F d v) (e : asLT h d = some l) : ∃ a vs, v = .ref a ∧ (SqL T.K H a vs ∨ SqT T.K H a vs) ∧ Reps T F l vs := by
  cases r with
  | lst h1 q =>
    cases e
    exact ⟨_, _, rfl, .inl (sh.sF.seq h1), q⟩
  | tup h1 q =>
    cases e
    exact ⟨_, _, rfl, .inr (Same.sqt sh.sF h1), q⟩
  | ref =>
    rename_i a
    unfold asLT at e
    simp only at e
    split at e
    · rename_i m hm
      cases e
      obtain ⟨_, _, vs, e1, q⟩ := sh.cell _ _ hm
      exact ⟨a, vs, rfl, .inl (SqL.of e1), q⟩
    · cases e
  | _ => cases e
theorem asObj_rep {F G : Hp} {h : AH} {H : Hp} (sh : SH T F G h H) {d : D} {v : V} {c : Nat} {fs : List (Nat × D)} (r : Rep T F d v) (e : d.asObj h = some (c, fs)) : ∃ a dx fvs, v = .ref a ∧ H a = some (.ins (T.cA c) dx fvs) ∧ Cls T.K (T.cA c) ∧ RepF T F c fs fvs := by
  cases r with
  | obj h1 k q =>
    cases e
    exact ⟨_, _, _, rfl, sh.sF _ _ h1, k, q⟩
  | ref =>
    rename_i a
    unfold D.asObj at e
    simp only at e
    split at e
    · rename_i m hm
      cases e
      obtain ⟨_, _, dx, fvs, e1, k, q⟩ := sh.cell _ _ hm
      exact ⟨a, dx, fvs, rfl, e1, k, q⟩
    · cases e
  | _ => cases e

/-! ### comparisons -/
theorem op_isB : OpR X (compareOp .Is) (fun x y H Q => ∃ c b, x = .bl c ∧ y = .bl b ∧ Q (.bl (c == b)) H) := by
  intro pins s σ H x y v u Q I rx ry h
  obtain ⟨c, b, rfl, rfl, q⟩ := h
  cases rx
  cases ry
  show wpAny _ _ ((isSame (Value.bool c) (Value.bool b)) >>= fun z => pure (Value.bool z)) _ _ s
  have e : isSame (Value.bool c) (Value.bool b) = pure (c == b) := by
    cases c <;> cases b <;> rfl
  rw [e]
  exact wpAny_bind (wpAny_pure (wpAny_pure (fin_bl I q rfl)))
def rCmp (T : Tb) (X : Cx) (op : COp) : R2 := L2op T X fun x y h Q => wCmp op x y fun k => Q (.bl k) h
theorem op_cmp (hK : X.K = T.K) (hu : X.A.units + 64 < cLine) (op : COp) : OpR X (compareOp (copM op)) (rCmp T X op) := by
  intro pins s σ H x y v u Q I rx ry h
  obtain ⟨F, G, σ', h, τ, dx, dy, Qd, sr, r1, r2, w, k⟩ := h
  have res : ∀ (b : Bool), Qd (.bl b) h → Q (.bl b) H := fun b q => k _ h _ F H (Same.refl _) sr .bl q
  cases op with
  | eq =>
    obtain ⟨⟨w1, w2⟩, w3⟩ := w
    refine op_eqD hu pins s σ H _ _ v u Q I rx ry ⟨dx.py, dy.py, hK ▸ rep_dp sr.sh.sF r1 w1, hK ▸ rep_dp sr.sh.sF r2 w2, pln_shaped w1 (by decide), pln_shaped w2 (by decide), ?_⟩
    rw [eqv_py 60 dx dy w1 w2]
    exact res _ w3
  | ne =>
    obtain ⟨⟨w1, w2⟩, w3⟩ := w
    refine op_neD hu pins s σ H _ _ v u Q I rx ry ⟨dx.py, dy.py, hK ▸ rep_dp sr.sh.sF r1 w1, hK ▸ rep_dp sr.sh.sF r2 w2, pln_shaped w1 (by decide), pln_shaped w2 (by decide), ?_⟩
    rw [eqv_py 60 dx dy w1 w2]
    exact res _ w3
  | lt =>
    cases r1 <;> first | (exact False.elim w) | (cases r2 <;> first | (exact False.elim w) | exact op_lt pins s σ H _ _ v u Q I rx ry ⟨_, _, rfl, rfl, res _ w⟩)
  | le =>
    cases r1 <;> first | (exact False.elim w) | (cases r2 <;> first | (exact False.elim w) | exact op_le pins s σ H _ _ v u Q I rx ry ⟨_, _, rfl, rfl, res _ w⟩)
  | gt =>
    cases r1 <;> first | (exact False.elim w) | (cases r2 <;> first | (exact False.elim w) | exact op_gt pins s σ H _ _ v u Q I rx ry ⟨_, _, rfl, rfl, res _ w⟩)
  | ge =>
    cases r1 <;> first | (exact False.elim w) | (cases r2 <;> first | (exact False.elim w) | exact op_ge pins s σ H _ _ v u Q I rx ry ⟨_, _, rfl, rfl, res _ w⟩)
  | is_ =>
    cases r2 <;> first | (exact False.elim w) | (cases r1 <;> first | (exact False.elim w) | exact op_isB pins s σ H _ _ v u Q I rx ry ⟨_, _, rfl, rfl, res _ w⟩) | (refine op_isN pins s σ H _ _ v u Q I rx ry ⟨rfl, ?_⟩; rw [rep_isNon r1]; exact res _ w)
  | isn =>
    cases r2 <;> first | (exact False.elim w) | (refine op_notN pins s σ H _ _ v u Q I rx ry ⟨rfl, ?_⟩; rw [rep_isNon r1]; exact res _ w)
  | in_ =>
    cases r2 with
    | lst h1 q =>
      obtain ⟨⟨w1, w2⟩, w3⟩ := w
      refine op_in_seq pins s σ H _ _ v u Q I rx ry ⟨_, _, rfl, .inl (hK ▸ sr.sh.sF.seq h1), rep_flat r1 w1, reps_flat q w2, ?_⟩
      rw [inV_any r1 w1 q w2]
      exact res _ w3
    | tup h1 q =>
      obtain ⟨⟨w1, w2⟩, w3⟩ := w
      refine op_in_seq pins s σ H _ _ v u Q I rx ry ⟨_, _, rfl, .inr (hK ▸ Same.sqt sr.sh.sF h1), rep_flat r1 w1, reps_flat q w2, ?_⟩
      rw [inV_any r1 w1 q w2]
      exact res _ w3
    | _ => exact False.elim w
  | nin =>
    cases r2 with
    | lst h1 q =>
      obtain ⟨⟨w1, w2⟩, w3⟩ := w
      refine op_notIn_seq pins s σ H _ _ v u Q I rx ry ⟨_, _, rfl, .inl (hK ▸ sr.sh.sF.seq h1), rep_flat r1 w1, reps_flat q w2, ?_⟩
      rw [inV_any r1 w1 q w2]
      exact res _ w3
    | tup h1 q =>
      obtain ⟨⟨w1, w2⟩, w3⟩ := w
      refine op_notIn_seq pins s σ H _ _ v u Q I rx ry ⟨_, _, rfl, .inr (hK ▸ Same.sqt sr.sh.sF h1), rep_flat r1 w1, reps_flat q w2, ?_⟩
      rw [inV_any r1 w1 q w2]
      exact res _ w3
    | _ => exact False.elim w

/-! ### built-in functions -/
theorem maxL_eq : ∀ {ns : List Int} {m : Int}, m ∈ ns → (∀ y, y ∈ ns → y ≤ m) → maxL ns = m
  | [], m, h, _ => by cases h
  | [x], m, h, _ => (List.mem_singleton.mp h).symm
  | x :: y :: r, m, h, k => by
    have e : maxL (x :: y :: r) = max x (maxL (y :: r)) := rfl
    rw [e]
    have mem : ∀ {l : List Int}, l ≠ [] → maxL l ∈ l := by
      intro l
      induction l with
      | nil => intro z; exact absurd rfl z
      | cons a l ih =>
        intro _
        cases l with
        | nil => exact List.mem_singleton.mpr rfl
        | cons b l =>
          have e2 : maxL (a :: b :: l) = max a (maxL (b :: l)) := rfl
          rw [e2]
          rcases Int.le_total a (maxL (b :: l)) with q | q
          · rw [Int.max_eq_right q]; exact List.mem_cons_of_mem _ (ih (by simp))
          · rw [Int.max_eq_left q]; exact List.mem_cons_self
    have top : ∀ {l : List Int} {z : Int}, z ∈ l → z ≤ maxL l := by
      intro l
      induction l with
      | nil => intro z hz; cases hz
      | cons a l ih =>
        intro z hz
        cases l with
        | nil => rw [List.mem_singleton.mp hz]; exact Int.le_refl _
        | cons b l =>
          have e2 : maxL (a :: b :: l) = max a (maxL (b :: l)) := rfl
          rw [e2]
          rcases List.mem_cons.mp hz with q | q
          · rw [q]; exact Int.le_max_left _ _
          · exact Int.le_trans (ih q) (Int.le_max_right _ _)
    have a1 : max x (maxL (y :: r)) ∈ x :: y :: r := by rw [← e]; exact mem (by simp)
    have a2 := k _ a1
    have a3 : m ≤ max x (maxL (y :: r)) := by rw [← e]; exact top h
    omega
theorem minL_eq : ∀ {ns : List Int} {m : Int}, m ∈ ns → (∀ y, y ∈ ns → m ≤ y) → minL ns = m
  | [], m, h, _ => by cases h
  | [x], m, h, _ => (List.mem_singleton.mp h).symm
  | x :: y :: r, m, h, k => by
    have e : minL (x :: y :: r) = min x (minL (y :: r)) := rfl
    rw [e]
    have mem : ∀ {l : List Int}, l ≠ [] → minL l ∈ l := by
      intro l
      induction l with
      | nil => intro z; exact absurd rfl z
      | cons a l ih =>
        intro _
        cases l with
        | nil => exact List.mem_singleton.mpr rfl
        | cons b l =>
          have e2 : minL (a :: b :: l) = min a (minL (b :: l)) := rfl
          rw [e2]
          rcases Int.le_total a (minL (b :: l)) with q | q
          · rw [Int.min_eq_left q]; exact List.mem_cons_self
          · rw [Int.min_eq_right q]; exact List.mem_cons_of_mem _ (ih (by simp))
    have top : ∀ {l : List Int} {z : Int}, z ∈ l → minL l ≤ z := by
      intro l
      induction l with
      | nil => intro z hz; cases hz
      | cons a l ih =>
        intro z hz
        cases l with
        | nil => rw [List.mem_singleton.mp hz]; exact Int.le_refl _
        | cons b l =>
          have e2 : minL (a :: b :: l) = min a (minL (b :: l)) := rfl
          rw [e2]
          rcases List.mem_cons.mp hz with q | q
          · rw [q]; exact Int.min_le_left _ _
          · exact Int.le_trans (Int.min_le_right _ _) (ih q)
    have a1 : min x (minL (y :: r)) ∈ x :: y :: r := by rw [← e]; exact mem (by simp)
    have a2 := k _ a1
    have a3 : min x (minL (y :: r)) ≤ m := by rw [← e]; exact top h
    omega
def rBi (T : Tb) (X : Cx) (b : Bi) : List V → Hp → VK → Prop := LNop T X fun ds h Q => wBi b ds h fun d => Q d h
theorem call_bi_abs : CallR X (.builtin "abs") (rBi T X .abs) := by
  intro pins s σ H xs us Q I r h
  obtain ⟨F, G, σ', h, τ, ds, Qd, sr, r1, w, k⟩ := h
  have res : ∀ (z : D) (v' : V), Rep T F z v' → Qd z h → Q v' H := fun z v' r q => k z h v' F H (Same.refl _) sr r q
  cases r1 with
  | nil => exact False.elim w
  | cons a1 a2 =>
    cases a1 <;> first | (cases a2 <;> exact False.elim w) | (cases a2 <;> first | exact False.elim w | skip)
    rename_i i
    refine call_abs pins s σ H _ us Q I r ⟨i, rfl, ?_⟩
    have e : (if i < 0 then -i else i) = (i.natAbs : Int) := by split <;> omega
    rw [e]
    exact res _ _ .int w
theorem call_bi_int : CallR X (.type "int") (rBi T X .int) := by
  intro pins s σ H xs us Q I r h
  obtain ⟨F, G, σ', h, τ, ds, Qd, sr, r1, w, k⟩ := h
  have res : ∀ (z : D) (v' : V), Rep T F z v' → Qd z h → Q v' H := fun z v' r q => k z h v' F H (Same.refl _) sr r q
  cases r1 with
  | nil => exact False.elim w
  | cons a1 a2 =>
    cases a2 with
    | cons _ _ => cases a1 <;> exact False.elim w
    | nil =>
      cases a1 with
      | int => exact call_int1 pins s σ H _ us Q I r (.inl ⟨_, rfl, res _ _ .int w⟩)
      | bl => exact call_int1 pins s σ H _ us Q I r (.inr ⟨_, rfl, res _ _ .int w⟩)
      | str =>
        rename_i x
        refine call_int_str pins s σ H _ us Q I r ⟨sOf x, _, rfl, int_text w.1.1 w.1.2.1 w.1.2.2, ?_, res _ _ .int w.2⟩
        show x.toArray.size ≤ 640
        rw [List.size_toArray]; exact w.1.2.1
      | _ => exact False.elim w
theorem call_bi_len (hK : X.K = T.K) : CallR X (.builtin "len") (rBi T X .len) := by
  intro pins s σ H xs us Q I r h
  obtain ⟨F, G, σ', h, τ, ds, Qd, sr, r1, w, k⟩ := h
  have res : ∀ (z : D) (v' : V), Rep T F z v' → Qd z h → Q v' H := fun z v' r q => k z h v' F H (Same.refl _) sr r q
  cases r1 with
  | nil => exact False.elim w
  | cons a1 a2 =>
    cases a2 with
    | cons _ _ => exact False.elim w
    | nil =>
      have key : ∀ {d : D} {v : V}, Rep T F d v → (match asLT h d with | some l => Qd (.int l.length) h | none => False) → ∃ x n, [v] = [x] ∧ LenV X.K x H n ∧ Q (.int n) H := fun {d v} ra wd => by
        cases e : asLT h d with
        | none => rw [e] at wd; exact False.elim wd
        | some l =>
          rw [e] at wd
          obtain ⟨a, vs, rfl, q1, q2⟩ := asLT_rep sr.sh ra e
          refine ⟨_, l.length, rfl, ?_, res _ _ .int wd⟩
          rcases q1 with q1 | q1
          · exact .inl ⟨vs, hK ▸ q1, q2.length⟩
          · exact .inr ⟨vs, hK ▸ q1, q2.length⟩
      cases a1 with
      | str =>
        rename_i x
        obtain ⟨w1, w2⟩ := w
        refine call_len pins s σ H _ us Q I r ⟨_, x.length, rfl, ⟨?_, ?_⟩, res _ _ .int w2⟩
        · show x.toArray.size ≤ _
          rw [List.size_toArray, ← SL_eq]; exact w1
        · show _ = x.toArray.size
          rw [List.size_toArray]
      | lst h1 q => exact call_len pins s σ H _ us Q I r (key (.lst h1 q) w)
      | tup h1 q => exact call_len pins s σ H _ us Q I r (key (.tup h1 q) w)
      | ref => exact call_len pins s σ H _ us Q I r (key .ref w)
      | _ => exact False.elim w
theorem of_asL_ints {F G : Hp} {h : AH} {H : Hp} (hK : X.K = T.K) (sh : SH T F G h H) {d : D} {v : V} {P : List Int → Prop} (ra : Rep T F d v) (w : match asL h d with | some l => (match intsOf l with | some ns => P ns | none => False) | none => False) :
    ∃ a ns, v = .ref a ∧ SqL X.K H a (ns.map V.int) ∧ P ns := by
  cases e : asL h d with
  | none => rw [e] at w; exact False.elim w
  | some l =>
    rw [e] at w
    cases e2 : intsOf l with
    | none => simp only [e2] at w
    | some ns =>
      simp only [e2] at w
      obtain ⟨a, vs, rfl, q1, q2⟩ := asL_rep sh ra e
      have := Reps.intsOf q2 e2
      subst this
      exact ⟨a, ns, rfl, hK ▸ q1, w⟩
theorem of_asL_bools {F G : Hp} {h : AH} {H : Hp} (hK : X.K = T.K) (sh : SH T F G h H) {d : D} {v : V} {P : List Bool → Prop} (ra : Rep T F d v) (w : match asL h d with | some l => (match boolsOf l with | some ns => P ns | none => False) | none => False) :
    ∃ a ns, v = .ref a ∧ SqL X.K H a (ns.map V.bl) ∧ P ns := by
  cases e : asL h d with
  | none => rw [e] at w; exact False.elim w
  | some l =>
    rw [e] at w
    cases e2 : boolsOf l with
    | none => simp only [e2] at w
    | some ns =>
      simp only [e2] at w
      obtain ⟨a, vs, rfl, q1, q2⟩ := asL_rep sh ra e
      have := Reps.boolsOf q2 e2
      subst this
      exact ⟨a, ns, rfl, hK ▸ q1, w⟩
theorem call_bi_sum (hK : X.K = T.K) (hc : X.calm = true) : CallR X (.builtin "sum") (rBi T X .sum) := by
  intro pins s σ H xs us Q I r h
  obtain ⟨F, G, σ', h, τ, ds, Qd, sr, r1, w, k⟩ := h
  have res : ∀ (z : D) (v' : V), Rep T F z v' → Qd z h → Q v' H := fun z v' r q => k z h v' F H (Same.refl _) sr r q
  cases r1 with
  | nil => exact False.elim w
  | cons a1 a2 =>
    cases a2 with
    | cons _ _ => exact False.elim w
    | nil =>
      obtain ⟨a, ns, rfl, q1, q2⟩ := of_asL_ints (P := fun ns => Qd (.int ns.sum) h) hK sr.sh a1 w
      exact cr_sum hc pins s σ H _ us Q I r ⟨a, ns, rfl, q1, res _ _ .int q2⟩
theorem call_bi_all (hK : X.K = T.K) (hc : X.calm = true) : CallR X (.builtin "all") (rBi T X .all) := by
  intro pins s σ H xs us Q I r h
  obtain ⟨F, G, σ', h, τ, ds, Qd, sr, r1, w, k⟩ := h
  have res : ∀ (z : D) (v' : V), Rep T F z v' → Qd z h → Q v' H := fun z v' r q => k z h v' F H (Same.refl _) sr r q
  cases r1 with
  | nil => exact False.elim w
  | cons a1 a2 =>
    cases a2 with
    | cons _ _ => exact False.elim w
    | nil =>
      obtain ⟨a, ns, rfl, q1, q2⟩ := of_asL_bools (P := fun ns => Qd (.bl (ns.all id)) h) hK sr.sh a1 w
      exact cr_all hc pins s σ H _ us Q I r ⟨a, ns, rfl, q1, res _ _ .bl q2⟩
theorem call_bi_any (hK : X.K = T.K) (hc : X.calm = true) : CallR X (.builtin "any") (rBi T X .any) := by
  intro pins s σ H xs us Q I r h
  obtain ⟨F, G, σ', h, τ, ds, Qd, sr, r1, w, k⟩ := h
  have res : ∀ (z : D) (v' : V), Rep T F z v' → Qd z h → Q v' H := fun z v' r q => k z h v' F H (Same.refl _) sr r q
  cases r1 with
  | nil => exact False.elim w
  | cons a1 a2 =>
    cases a2 with
    | cons _ _ => exact False.elim w
    | nil =>
      obtain ⟨a, ns, rfl, q1, q2⟩ := of_asL_bools (P := fun ns => Qd (.bl (ns.any id)) h) hK sr.sh a1 w
      exact cr_any hc pins s σ H _ us Q I r ⟨a, ns, rfl, q1, res _ _ .bl q2⟩
theorem nuMax2_int {i j : Int} : nuMax2 (.int i) (.int j) = some (.int (max i j)) := by
  show some (if decide (i < j) = true then V.int j else V.int i) = _
  by_cases c : i < j
  · rw [if_pos (decide_eq_true c), Int.max_eq_right (by omega)]
  · rw [if_neg (by rw [decide_eq_true_iff]; exact c), Int.max_eq_left (by omega)]
theorem nuMin2_int {i j : Int} : nuMin2 (.int i) (.int j) = some (.int (min i j)) := by
  show some (if decide (j < i) = true then V.int j else V.int i) = _
  by_cases c : j < i
  · rw [if_pos (decide_eq_true c), Int.min_eq_right (by omega)]
  · rw [if_neg (by rw [decide_eq_true_iff]; exact c), Int.min_eq_left (by omega)]
theorem nuMax3_int {i j k : Int} : nuMax3 (.int i) (.int j) (.int k) = some (.int (max (max i j) k)) := by
  unfold nuMax3
  rw [nuMax2_int]
  exact nuMax2_int
theorem nuMin3_int {i j k : Int} : nuMin3 (.int i) (.int j) (.int k) = some (.int (min (min i j) k)) := by
  unfold nuMin3
  rw [nuMin2_int]
  exact nuMin2_int
theorem call_bi_max (hK : X.K = T.K) (hc : X.calm = true) : CallR X (.builtin "max") (rBi T X .max) := by
  intro pins s σ H xs us Q I r h
  obtain ⟨F, G, σ', h, τ, ds, Qd, sr, r1, w, k⟩ := h
  have res : ∀ (z : D) (v' : V), Rep T F z v' → Qd z h → Q v' H := fun z v' r q => k z h v' F H (Same.refl _) sr r q
  cases r1 with
  | nil => exact False.elim w
  | cons a1 a2 =>
    cases a2 with
    | nil =>
      rename_i dd vv
      have w' : match asL h dd with | some l => (match intsOf l with | some ns => 0 < ns.length ∧ Qd (.int (maxL ns)) h | none => False) | none => False := by
        cases a1 <;> first | exact w | exact False.elim w
      obtain ⟨a, ns, rfl, q1, q2, q3⟩ := of_asL_ints (P := fun ns => 0 < ns.length ∧ Qd (.int (maxL ns)) h) hK sr.sh a1 w'
      exact cr_max hc pins s σ H _ us Q I r ⟨a, ns, rfl, q1, q2, fun m h1 h2 => res _ _ .int (by rw [← maxL_eq h1 h2]; exact q3)⟩
    | cons b1 b2 =>
      cases b2 with
      | cons c1 c2 =>
        cases c2 with
        | cons _ _ => cases a1 <;> first | exact False.elim w | (cases b1 <;> first | exact False.elim w | (cases c1 <;> exact False.elim w))
        | nil =>
          cases a1 <;> first | exact False.elim w | skip
          cases b1 <;> first | exact False.elim w | skip
          cases c1 <;> first | exact False.elim w | skip
          rename_i i j k3
          refine call_max3Nu hc pins s σ H _ us Q I r ⟨.int i, .int j, .int k3, .int (max (max i j) k3), rfl, ?_, res _ _ .int w⟩
          exact nuMax3_int
      | nil =>
        cases a1 <;> first | exact False.elim w | skip
        cases b1 <;> first | exact False.elim w | skip
        rename_i i j
        refine call_max2 hc pins s σ H _ us Q I r ⟨i, j, rfl, ?_⟩
        have e : (if j > i then j else i) = max i j := by split <;> omega
        rw [e]
        exact res _ _ .int w
theorem call_bi_min (hK : X.K = T.K) (hc : X.calm = true) : CallR X (.builtin "min") (rBi T X .min) := by
  intro pins s σ H xs us Q I r h
  obtain ⟨F, G, σ', h, τ, ds, Qd, sr, r1, w, k⟩ := h
  have res : ∀ (z : D) (v' : V), Rep T F z v' → Qd z h → Q v' H := fun z v' r q => k z h v' F H (Same.refl _) sr r q
  cases r1 with
  | nil => exact False.elim w
  | cons a1 a2 =>
    cases a2 with
    | nil =>
      rename_i dd vv
      have w' : match asL h dd with | some l => (match intsOf l with | some ns => 0 < ns.length ∧ Qd (.int (minL ns)) h | none => False) | none => False := by
        cases a1 <;> first | exact w | exact False.elim w
      obtain ⟨a, ns, rfl, q1, q2, q3⟩ := of_asL_ints (P := fun ns => 0 < ns.length ∧ Qd (.int (minL ns)) h) hK sr.sh a1 w'
      exact cr_min hc pins s σ H _ us Q I r ⟨a, ns, rfl, q1, q2, fun m h1 h2 => res _ _ .int (by rw [← minL_eq h1 h2]; exact q3)⟩
    | cons b1 b2 =>
      cases b2 with
      | cons c1 c2 =>
        cases c2 with
        | cons _ _ => cases a1 <;> first | exact False.elim w | (cases b1 <;> first | exact False.elim w | (cases c1 <;> exact False.elim w))
        | nil =>
          cases a1 <;> first | exact False.elim w | skip
          cases b1 <;> first | exact False.elim w | skip
          cases c1 <;> first | exact False.elim w | skip
          rename_i i j k3
          refine call_min3Nu hc pins s σ H _ us Q I r ⟨.int i, .int j, .int k3, .int (min (min i j) k3), rfl, ?_, res _ _ .int w⟩
          exact nuMin3_int
      | nil =>
        cases a1 <;> first | exact False.elim w | skip
        cases b1 <;> first | exact False.elim w | skip
        rename_i i j
        refine call_min2 hc pins s σ H _ us Q I r ⟨i, j, rfl, ?_⟩
        have e : (if j < i then j else i) = min i j := by split <;> omega
        rw [e]
        exact res _ _ .int w
theorem call_bi_divmod (hK : X.K = T.K) : CallR X (.builtin "divmod") (rBi T X .divmod) := by
  intro pins s σ H xs us Q I r h
  obtain ⟨F, G, σ', h, τ, ds, Qd, sr, r1, w, k⟩ := h
  cases r1 with
  | nil => exact False.elim w
  | cons a1 a2 =>
    cases a2 with
    | nil => cases a1 <;> exact False.elim w
    | cons b1 b2 =>
      cases b2 with
      | cons _ _ => cases a1 <;> cases b1 <;> exact False.elim w
      | nil =>
        cases a1 <;> cases b1 <;> first | exact False.elim w | skip
        rename_i i j
        have w : (0 < j ∧ bitsI j ≤ 9000) ∧ Qd (.tup [.int (i / j), .int (i % j)]) h := w
        refine call_divmodW pins s σ H _ us Q I r ⟨i, j, rfl, ⟨w.1.1, noPy w.1.2⟩, fun p hp => ?_⟩
        have g := Grow.new (o := .tup [.int (i / j), .int (i % j)]) sr.sh.sF hp
        exact k _ _ _ _ _ g.f (sr.grow g) (.tup (SqT.of upd_same) (.cons .int (.cons .int .nil))) w.2
end
end FF

namespace FF
open PySem PySem.Spec PyProof.Rows L2

/-! ### shapes of the text -/
def noStar : Expr → Bool
  | .Starred _ _ => false
  | _ => true
def noSuper : Expr → Bool
  | .Call (.Name id _) [] [] _ => id != "super"
  | _ => true
/-- its truth is its value's -/
def plainT : Expr → Bool
  | .UnaryOp .Not _ _ => false
  | .BoolOp _ _ _ => false
  | .IfExp _ _ _ _ => false
  | .Compare _ _ _ _ => false
  | _ => true
def noSlice : Expr → Bool
  | .Slice _ _ _ _ => false
  | _ => true
theorem star_cons {e : Expr} {es : List Expr} {env : PySem.Env} (h : noStar e = true) : starEach (e :: es) env = (false, eval e env) :: starEach es env := by
  cases e <;> first | rfl | cases h
theorem star_any {pos : Pos} {env : PySem.Env} : ∀ {es : List Expr}, es.all noStar = true → (backTo pos (starEach es env)).any (·.1) = false
  | [], _ => rfl
  | e :: es, h => by
    rw [List.all_cons, Bool.and_eq_true] at h
    rw [star_cons h.1]
    exact star_any h.2
theorem star_all {pos : Pos} {env : PySem.Env} : ∀ {es : List Expr}, es.all noStar = true → (backTo pos (starEach es env)).all (!·.1) = true
  | [], _ => rfl
  | e :: es, h => by
    rw [List.all_cons, Bool.and_eq_true] at h
    rw [star_cons h.1]
    exact star_all h.2
theorem base_ok {e : Expr} {f : Str} {env : PySem.Env} (h : noSuper e = true) : attributeBase e f env (eval e env) = eval e env := by
  cases e with
  | Call g as ks pos =>
    cases g with
    | Name id p =>
      cases as with
      | nil =>
        cases ks with
        | nil =>
          have h : (id != "super") = true := h
          unfold attributeBase
          simp only [h, Bool.true_or, if_true]
        | cons _ _ => rfl
      | cons _ _ => rfl
    | _ => rfl
  | _ => rfl
theorem true_ok {e : Expr} {env : PySem.Env} (h : plainT e = true) : ∀ whole, isTrue e env whole = (do let v ← whole; standAt e.pos; holding [v] (truthy v)) := by
  intro whole
  cases e with
  | UnaryOp op a p => cases op <;> first | rfl | cases h
  | BoolOp _ _ _ => cases h
  | IfExp _ _ _ _ => cases h
  | Compare _ _ _ _ => cases h
  | _ => rfl
theorem ix_ok {e : Expr} (h : noSlice e = true) : PlainIx e := by
  intro o i
  cases e <;> first | rfl | cases h
theorem meth_ok {o e : Expr} {m : Str} {apos pos : Pos} {es : List Expr} {env : PySem.Env} (hb : noSuper o = true) (hl : (apos.endLine == pos.line) = true) (hs : (es).all noStar = true) (hn : es.length < 30) : ∃ pl, eval (.Call (.Attribute o m apos) es [] pos) env = (do
      let ov ← eval o env
      standAt apos.atName
      let (f, first) ← holding [ov] (getMethod ov m pl)
      callWith pos f first (backTo pos (starEach es env)) (backToKw pos (keywordEach [] env))) := by
  have hf : methodCallForm (es.length + 0) (backTo pos (starEach es env)) (backToKw pos (keywordEach [] env)) = true := by
    unfold methodCallForm
    rw [star_all hs]
    simp [backToKw, keywordEach, hn]
  refine ⟨(do return (← importBound o env).getD true), ?_⟩
  show (do
      let ov ← attributeBase o m env (eval o env)
      standAt apos.atName
      methodCall o m apos pos env ov (es.length + 0) (backTo pos (starEach es env)) (backToKw pos (keywordEach [] env))) = _
  rw [base_ok hb]
  unfold methodCall
  rw [hf]
  simp only [calleeOf, methodCallPos, hl, Bool.not_true, Bool.false_or, if_true, pure_bind]

section
variable {X : Cx} {T : Tb} {RR : RRt}
/-! ### names, constants -/
theorem le_var {Γ : Gam} {i : Nat} {x : Str} {pos : Pos} (hN : X.N[i]? = some x) (hv : Vis X.env.scope x) (hd : (x == ("__debug__" : Str)) = false) (hcd : (x == ("__classdict__" : Str)) = false) : PE X (.Name x pos) (LE T X RR (wpE Γ (.var i))) := by
  refine PE.imp (pe_var hN hv hd hcd) fun τ H Q ⟨F, G, σ, h, Qd, sr, w, k⟩ => ?_
  have w : (match σ.at i with | .val d => Qd d h | _ => False) := w
  cases e : σ.at i with
  | val d =>
    rw [e] at w
    obtain ⟨v, e1, r⟩ := sr.val e
    exact ⟨v, e1, k d h v F H (Same.refl _) sr r w⟩
  | _ => rw [e] at w; exact False.elim w
theorem le_const {w : Env → AH → QE → RE → Prop} {e : Expr} {v : V} {d : D} (he : PE X e (tC v)) (hr : ∀ F, Rep T F d v) (hw : ∀ σ h Q R, w σ h Q R → Q d h) : PE X e (LE T X RR w) :=
  PE.imp he fun τ H Q ⟨F, G, σ, h, Qd, sr, q, k⟩ => k d h v F H (Same.refl _) sr (hr F) (hw _ _ _ _ q)
/-! ### operators -/
theorem le_bin {Γ : Gam} {op : BOp} {a b : E} {ea eb : Expr} {pos : Pos} (hK : X.K = T.K) (ha : PE X ea (LE T X RR (wpE Γ a))) (hb : PE X eb (LE T X RR (wpE Γ b))) : PE X (.BinOp ea (opM op) eb pos) (LE T X RR (wpE Γ (.bin op a b))) :=
  PE.imp (pe_op (op_bin (T := T) hK op) ha hb) fun τ H Q h => le_op (f := fun x y h Q => wBin op x y fun z => Q z h) h
theorem nomark_ok {op : COp} {e : Expr} (h : (∀ es k p, e ≠ .Set es k p)) : behindInMarks (copM op) e = false := by
  cases e with
  | Set es k p => exact absurd rfl (h es k p)
  | _ => cases op <;> rfl
theorem le_cmp {Γ : Gam} {op : COp} {a b : E} {ea eb : Expr} {pos : Pos} (hK : X.K = T.K) (hu : X.A.units + 64 < cLine) (hm : behindInMarks (copM op) eb = false) (ha : PE X ea (LE T X RR (wpE Γ a))) (hb : PE X eb (LE T X RR (wpE Γ b))) : PE X (.Compare ea [copM op] [eb] pos) (LE T X RR (wpE Γ (.cmp op a b))) :=
  PE.imp (pe_cmpR (op_cmp (T := T) hK hu op) ha hb hm) fun τ H Q h => le_op (f := fun x y h Q => wCmp op x y fun k => Q (.bl k) h) h
theorem lt_cmp {Γ : Gam} {op : COp} {a b : E} {ea eb : Expr} {pos : Pos} (hK : X.K = T.K) (hu : X.A.units + 64 < cLine) (hm : behindInMarks (copM op) eb = false) (ha : PE X ea (LE T X RR (wpE Γ a))) (hb : PE X eb (LE T X RR (wpE Γ b))) : PT X (.Compare ea [copM op] [eb] pos) (LT T X RR (wpE Γ (.cmp op a b))) := by
  refine PT.imp (pt_cmpR (op_cmp (T := T) hK hu op) ha hb hm) fun τ H Q ⟨F, G, σ, h, Qd, sr, w, k⟩ => ?_
  have q0 : LE T X RR (fun σ h Q R => wpE Γ a σ h (fun x h => wpE Γ b σ h (fun y h => wCmp op x y fun k => Q (.bl k) h) R) R) τ H (fun x H' => ∃ k, x = .bl k ∧ Q k H') := by
    refine ⟨F, G, σ, h, (fun x h' => match x with | .bl k => Qd k h' | _ => False), sr, w, fun d h' v F' H' s sr' r q => ?_⟩
    cases r with
    | bl => exact ⟨_, rfl, k _ h' F' H' s sr' q⟩
    | _ => exact False.elim q
  exact le_op (f := fun x y h Q => wCmp op x y fun k => Q (.bl k) h) q0
/-- a value as a test -/
theorem lt_val {w : Env → AH → QE → RE → Prop} {e : Expr} (hp : plainT e = true) (he : PE X e (LE T X RR w)) : PT X e (LT T X RR w) := by
  refine PT.imp (pt_val he (true_ok hp)) fun τ H Q ⟨F, G, σ, h, Qd, sr, q, k⟩ => ?_
  refine ⟨F, G, σ, h, _, sr, q, fun d h' v F' H' s sr' r q => ?_⟩
  cases r with
  | bl => exact ⟨_, rfl, k _ h' F' H' s sr' q⟩
  | _ => exact False.elim q
theorem le_neg {Γ : Gam} {a : E} {ea : Expr} {pos : Pos} (ha : PE X ea (LE T X RR (wpE Γ a))) : PE X (.UnaryOp .USub ea pos) (LE T X RR (wpE Γ (.neg a))) := by
  refine PE.imp (pe_un un_neg ha) fun τ H Q ⟨F, G, σ, h, Qd, sr, w, k⟩ => ⟨F, G, σ, h, _, sr, w, fun d h' v F' H' s sr' r q => ?_⟩
  cases r with
  | int => exact ⟨_, rfl, k _ h' _ F' H' s sr' .int q⟩
  | _ => exact False.elim q
theorem le_not {Γ : Gam} {a : E} {ea : Expr} {pos : Pos} (ha : PE X ea (LE T X RR (wpE Γ a))) : PE X (.UnaryOp .Not ea pos) (LE T X RR (wpE Γ (.not a))) := by
  refine PE.imp (pe_not ha) fun τ H Q ⟨F, G, σ, h, Qd, sr, w, k⟩ => ⟨F, G, σ, h, _, sr, w, fun d h' v F' H' s sr' r q => ?_⟩
  cases r with
  | bl => exact ⟨_, rfl, k _ h' _ F' H' s sr' .bl q⟩
  | _ => exact False.elim q
theorem lt_not {Γ : Gam} {a : E} {ea : Expr} {pos : Pos} (ha : PT X ea (LT T X RR (wpE Γ a))) : PT X (.UnaryOp .Not ea pos) (LT T X RR (wpE Γ (.not a))) := by
  refine PT.imp (pt_not ha) fun τ H Q ⟨F, G, σ, h, Qd, sr, w, k⟩ => ?_
  refine ⟨F, G, σ, h, fun b h' => Qd (!b) h', sr, ?_, fun b h' F' H' s sr' q => k _ h' F' H' s sr' q⟩
  have w : wpE Γ a σ h (fun x h => match x with | .bl b => (match D.bl (!b) with | .bl k => Qd k h | _ => False) | _ => False) (fun x h' => RR.R x σ h') := w
  exact w
theorem le_and1 {Γ : Gam} {a : E} {ea : Expr} {pos : Pos} (ha : PE X ea (LE T X RR (wpE Γ a))) : PE X (.BoolOp .And [ea] pos) (LE T X RR (wpAnd Γ (.cons a .nil))) := pe_one ha
theorem le_and {Γ : Gam} {a b : E} {r : Es} {ea eb : Expr} {er : List Expr} {pos : Pos} (ha : PE X ea (LE T X RR (wpE Γ a))) (hr : PE X (.BoolOp .And (eb :: er) pos) (LE T X RR (wpAnd Γ (.cons b r)))) : PE X (.BoolOp .And (ea :: eb :: er) pos) (LE T X RR (wpAnd Γ (.cons a (.cons b r)))) := by
  refine PE.imp (pe_and ha hr) fun τ H Q ⟨F, G, σ, h, Qd, sr, w, k⟩ => ⟨F, G, σ, h, _, sr, w, fun d h' v F' H' s sr' r q => ?_⟩
  cases r with
  | bl =>
    rename_i b0
    refine ⟨b0, rfl, ?_⟩
    cases b0 with
    | true => exact ⟨F', G, σ, h', Qd, sr', q, fun d h2 v F2 H2 s2 => k d h2 v F2 H2 (s.trans s2)⟩
    | false => exact k _ h' _ F' H' s sr' .bl q
  | _ => exact False.elim q
theorem le_or1 {Γ : Gam} {a : E} {ea : Expr} {pos : Pos} (ha : PE X ea (LE T X RR (wpE Γ a))) : PE X (.BoolOp .Or [ea] pos) (LE T X RR (wpOr Γ (.cons a .nil))) := pe_one ha
theorem le_or {Γ : Gam} {a b : E} {r : Es} {ea eb : Expr} {er : List Expr} {pos : Pos} (ha : PE X ea (LE T X RR (wpE Γ a))) (hr : PE X (.BoolOp .Or (eb :: er) pos) (LE T X RR (wpOr Γ (.cons b r)))) : PE X (.BoolOp .Or (ea :: eb :: er) pos) (LE T X RR (wpOr Γ (.cons a (.cons b r)))) := by
  refine PE.imp (pe_or ha hr) fun τ H Q ⟨F, G, σ, h, Qd, sr, w, k⟩ => ⟨F, G, σ, h, _, sr, w, fun d h' v F' H' s sr' r q => ?_⟩
  cases r with
  | bl =>
    rename_i b0
    refine ⟨b0, rfl, ?_⟩
    cases b0 with
    | true => exact k _ h' _ F' H' s sr' .bl q
    | false => exact ⟨F', G, σ, h', Qd, sr', q, fun d h2 v F2 H2 s2 => k d h2 v F2 H2 (s.trans s2)⟩
  | _ => exact False.elim q
theorem lw_and1 {Γ : Gam} {a : E} {ea : Expr} {pos : Pos} (ha : PT X ea (LT T X RR (wpE Γ a))) : PW X (.BoolOp .And [ea] pos) (LT T X RR (wpAnd Γ (.cons a .nil))) := pw_and1 ha
theorem lw_and {Γ : Gam} {a b : E} {r : Es} {ea eb : Expr} {er : List Expr} {pos : Pos} (ha : PT X ea (LT T X RR (wpE Γ a))) (hr : PW X (.BoolOp .And (eb :: er) pos) (LT T X RR (wpAnd Γ (.cons b r)))) : PW X (.BoolOp .And (ea :: eb :: er) pos) (LT T X RR (wpAnd Γ (.cons a (.cons b r)))) := by
  refine PW.imp (pw_and ha hr) fun τ H Q ⟨F, G, σ, h, Qd, sr, w, k⟩ => ?_
  refine ⟨F, G, σ, h, fun b0 h' => if b0 = true then wpAnd Γ (.cons b r) σ h' (fun x h' => match x with | .bl k => Qd k h' | _ => False) (fun x h' => RR.R x σ h') else Qd false h', sr, w, fun b0 h' F' H' s sr' q => ?_⟩
  cases b0 with
  | true => exact ⟨F', G, σ, h', Qd, sr', q, fun d h2 F2 H2 s2 => k d h2 F2 H2 (s.trans s2)⟩
  | false => exact k _ h' F' H' s sr' q
theorem lw_or1 {Γ : Gam} {a : E} {ea : Expr} {pos : Pos} (ha : PT X ea (LT T X RR (wpE Γ a))) : PW X (.BoolOp .Or [ea] pos) (LT T X RR (wpOr Γ (.cons a .nil))) := pw_or1 ha
theorem lw_or {Γ : Gam} {a b : E} {r : Es} {ea eb : Expr} {er : List Expr} {pos : Pos} (ha : PT X ea (LT T X RR (wpE Γ a))) (hr : PW X (.BoolOp .Or (eb :: er) pos) (LT T X RR (wpOr Γ (.cons b r)))) : PW X (.BoolOp .Or (ea :: eb :: er) pos) (LT T X RR (wpOr Γ (.cons a (.cons b r)))) := by
  refine PW.imp (pw_or ha hr) fun τ H Q ⟨F, G, σ, h, Qd, sr, w, k⟩ => ?_
  refine ⟨F, G, σ, h, fun b0 h' => if b0 = true then Qd true h' else wpOr Γ (.cons b r) σ h' (fun x h' => match x with | .bl k => Qd k h' | _ => False) (fun x h' => RR.R x σ h'), sr, w, fun b0 h' F' H' s sr' q => ?_⟩
  cases b0 with
  | true => exact k _ h' F' H' s sr' q
  | false => exact ⟨F', G, σ, h', Qd, sr', q, fun d h2 F2 H2 s2 => k d h2 F2 H2 (s.trans s2)⟩
theorem le_ite {Γ : Gam} {c a b : E} {ec ea eb : Expr} {pos : Pos} (hc : PT X ec (LT T X RR (wpE Γ c))) (ha : PE X ea (LE T X RR (wpE Γ a))) (hb : PE X eb (LE T X RR (wpE Γ b))) : PE X (.IfExp ec ea eb pos) (LE T X RR (wpE Γ (.ite c a b))) := by
  refine PE.imp (pe_ifExp hc ha hb) fun τ H Q ⟨F, G, σ, h, Qd, sr, w, k⟩ => ?_
  refine ⟨F, G, σ, h, fun b0 h' => if b0 = true then wpE Γ a σ h' Qd (fun x h' => RR.R x σ h') else wpE Γ b σ h' Qd (fun x h' => RR.R x σ h'), sr, w, fun b0 h' F' H' s sr' q => ?_⟩
  cases b0 with
  | true => exact ⟨F', G, σ, h', Qd, sr', q, fun d h2 v F2 H2 s2 => k d h2 v F2 H2 (s.trans s2)⟩
  | false => exact ⟨F', G, σ, h', Qd, sr', q, fun d h2 v F2 H2 s2 => k d h2 v F2 H2 (s.trans s2)⟩
theorem le_chain0 {Γ : Gam} {o1 o2 : COp} {a b c : E} {τ : L2.St} {H : Hp} {Q : VK} (h : LE T X RR (wpE Γ (.chain o1 o2 a b c)) τ H Q) : tChain (rCmp T X o1) (rCmp T X o2) (LE T X RR (wpE Γ a)) (LE T X RR (wpE Γ b)) (LE T X RR (wpE Γ c)) τ H Q := by
  obtain ⟨F, G, σ, h, Qd, sr, w, k⟩ := h
  refine ⟨F, G, σ, h, _, sr, w, fun dx h1 vx F1 H1 s1 sr1 r1 w1 => ⟨F1, G, σ, h1, _, sr1, w1, fun dy h2 vy F2 H2 s2 sr2 r2 w2 => ?_⟩⟩
  refine ⟨F2, G, σ, h2, τ, dx, dy, fun z h3 => match z with | .bl k => if k = true then wpE Γ c σ h3 (fun z h => wCmp o2 dy z fun k => Qd (.bl k) h) (fun x h' => RR.R x σ h') else Qd (.bl false) h3 | _ => False, sr2.s, r1.mono s2, r2, w2, fun z h' v F' H' s3 sr3' r3 q => ?_⟩
  have sr3 : SR T (RR.lk X) F' G σ h' τ H' := ⟨sr3', sr2.lF.trans s3, sr2.lG⟩
  cases r3 with
  | bl =>
    rename_i b0
    refine ⟨b0, rfl, ?_⟩
    cases b0 with
    | true => exact ⟨F', G, σ, h', _, sr3, q, fun dz h4 vz F4 H4 s4 sr4 r4 w4 => ⟨F4, G, σ, h4, τ, dy, dz, Qd, sr4.s, r2.mono (s3.trans s4), r4, w4, fun z h5 v F5 H5 s5 sr5 r5 q5 => k z h5 v F5 H5 (s1.trans (s2.trans (s3.trans (s4.trans s5)))) ⟨sr5, sr4.lF.trans s5, sr4.lG⟩ r5 q5⟩⟩
    | false => exact k _ h' _ F' H' (s1.trans (s2.trans s3)) sr3 .bl q
  | _ => exact False.elim q
theorem le_chain {Γ : Gam} {o1 o2 : COp} {a b c : E} {ea eb ec : Expr} {pos : Pos} (hK : X.K = T.K) (hu : X.A.units + 64 < cLine) (hm : behindInMarks (copM o2) ec = false)
    (ha : PE X ea (LE T X RR (wpE Γ a))) (hb : PE X eb (LE T X RR (wpE Γ b))) (hc : PE X ec (LE T X RR (wpE Γ c))) : PE X (.Compare ea [copM o1, copM o2] [eb, ec] pos) (LE T X RR (wpE Γ (.chain o1 o2 a b c))) :=
  PE.imp (pe_chain (op_cmp (T := T) hK hu o1) (op_cmp (T := T) hK hu o2) ha hb hc hm) fun τ H Q h => le_chain0 h
theorem lt_chain {Γ : Gam} {o1 o2 : COp} {a b c : E} {ea eb ec : Expr} {pos : Pos} (hK : X.K = T.K) (hu : X.A.units + 64 < cLine) (hm : behindInMarks (copM o2) ec = false)
    (ha : PE X ea (LE T X RR (wpE Γ a))) (hb : PE X eb (LE T X RR (wpE Γ b))) (hc : PE X ec (LE T X RR (wpE Γ c))) : PT X (.Compare ea [copM o1, copM o2] [eb, ec] pos) (LT T X RR (wpE Γ (.chain o1 o2 a b c))) := by
  refine PT.imp (pt_chain (op_cmp (T := T) hK hu o1) (op_cmp (T := T) hK hu o2) ha hb hc hm) fun τ H Q ⟨F, G, σ, h, Qd, sr, w, k⟩ => ?_
  refine le_chain0 ⟨F, G, σ, h, (fun x h' => match x with | .bl k => Qd k h' | _ => False), sr, w, fun d h' v F' H' s sr' r q => ?_⟩
  cases r with
  | bl => exact ⟨_, rfl, k _ h' F' H' s sr' q⟩
  | _ => exact False.elim q
end
end FF

namespace FF
open PySem PySem.Spec PyProof.Rows L2

/-- a def's promise, from its specification -/
def prom (T : Tb) (sp : Spec) : Sp := fun vs H Q E => ∃ F G h ds Qd Rd, Reps T F ds vs ∧ SH T F G h H ∧ sp ds h Qd Rd ∧
  (∀ d h' v F' H', Same F F' → SH T F' G h' H' → Rep T F' d v → Qd d h' → Q v H') ∧
  (∀ x h' F' H' dd v, Same F F' → SH T F' G h' H' → F' dd = some (.xd [(T.xf x.c, v)]) → Rep T F' x.v v → Rd x h' → E (.ref (T.cA x.c)) (some dd) H')
/-- what is wanted of an exception, in the layer's words -/
def WR (T : Tb) (X : Cx) (RR : RRt) : WX := fun cls d τ H => ∃ F G σ h x dd v, cls = .ref (T.cA x.c) ∧ d = some dd ∧ SR T (RR.lk X) F G σ h τ H ∧ F dd = some (.xd [(T.xf x.c, v)]) ∧ Rep T F x.v v ∧ RR.R x σ h
/-- a def that keeps its specification -/
structure Good (P : Program) (w : World) (T : Tb) (mg : Str → Option Value) (base : Heap) (k : Nat) (n : Nat) (sp : Spec) : Prop where
  ex : ∃ (fd : FuncData) (ps : List Str), FnOk P w T.K mg base (L2.CX P w) k (T.fA n) fd ps (prom T sp) ∧ Binds T.K fd ps []
  kp : PySem.W.keepIn T.K (.ref (T.fA n)) = true
theorem Good.mono {P : Program} {w : World} {T : Tb} {mg : Str → Option Value} {base : Heap} {j k n : Nat} {sp : Spec} (g : Good P w T mg base j n sp) (h : j ≤ k) : Good P w T mg base k n sp := by
  obtain ⟨⟨fd, ps, F, b⟩, kp⟩ := g
  exact ⟨⟨fd, ps, F.mono h, b⟩, kp⟩

section
variable {X : Cx} {T : Tb} {RR : RRt}
/-! ### displays -/
theorem la_nil {Γ : Gam} : PA X [] (LA T X RR 0 (wpEs Γ .nil)) :=
  PA.imp pa_nil fun τ H Q ⟨F, G, σ, h, Qd, sr, w, k⟩ => k [] h [] F H rfl (Same.refl _) sr .nil w
theorem la_cons {Γ : Gam} {n : Nat} {a : E} {r : Es} {e : Expr} {es : List Expr} (hs : noStar e = true) (ha : PE X e (LE T X RR (wpE Γ a))) (hr : PA X es (LA T X RR n (wpEs Γ r))) : PA X (e :: es) (LA T X RR (n + 1) (wpEs Γ (.cons a r))) :=
  PA.imp (pa_cons ha hr (star_cons hs)) fun τ H Q ⟨F, G, σ, h, Qd, sr, w, k⟩ => ⟨F, G, σ, h, _, sr, w, fun d h1 v F1 H1 s1 sr1 r1 w1 =>
    ⟨F1, G, σ, h1, _, sr1, w1, fun ds h2 vs F2 H2 l2 s2 sr2 r2 w2 => k _ h2 _ F2 H2 (congrArg (· + 1) l2) (s1.trans s2) sr2 (.cons (r1.mono s2) r2) w2⟩⟩
theorem le_tup {Γ : Gam} {n : Nat} {es : Es} {l : List Expr} {x1 : Nat} {pos : Pos} (h : PA X l (LA T X RR n (wpEs Γ es))) : PE X (.Tuple l x1 pos) (LE T X RR (wpE Γ (.tup es))) :=
  PE.imp (pe_tup h) fun τ H Q ⟨F, G, σ, h, Qd, sr, w, k⟩ => ⟨F, G, σ, h, _, sr, w, fun ds h1 vs F1 H1 _ s1 sr1 r1 ⟨w1, w2⟩ => ⟨by rw [← r1.length, ← SL_eq]; exact w1, fun p hp => by
    have g := Grow.new (o := .tup vs) sr1.sh.sF hp
    exact k _ h1 _ _ _ (s1.trans g.f) (sr1.grow g) (.tup (SqT.of upd_same) (r1.mono g.f)) w2⟩⟩
theorem le_lst {Γ : Gam} {n : Nat} {es : Es} {l : List Expr} {pos : Pos} (h : PA X l (LA T X RR n (wpEs Γ es))) : PE X (.List l pos) (LE T X RR (wpE Γ (.lst es))) :=
  PE.imp (pe_lst h) fun τ H Q ⟨F, G, σ, h, Qd, sr, w, k⟩ => ⟨F, G, σ, h, _, sr, w, fun ds h1 vs F1 H1 _ s1 sr1 r1 ⟨w1, w2⟩ => ⟨by rw [← r1.length, ← SL_eq]; exact w1, fun p hp => by
    have g := Grow.new (o := .lst vs) sr1.sh.sF hp
    exact k _ h1 _ _ _ (s1.trans g.f) (sr1.grow g) (.lst (SqL.of upd_same) (r1.mono g.f)) w2⟩⟩
theorem le_dct {Γ : Gam} {pos : Pos} : PE X (.Dict [] [] pos) (LE T X RR (wpE Γ .dct)) :=
  PE.imp pe_dnewK fun τ H Q ⟨F, G, σ, h, Qd, sr, w, k⟩ p hp => by
    have g := Grow.new (o := .dK []) sr.sh.sF hp
    exact k _ h _ _ _ g.f (sr.grow g) (.dct upd_same) w
theorem hfree {F G : Hp} {h : AH} {H : Hp} (sh : SH T F G h H) {p : Addr} (n : H p = none) : h p = none := by
  cases e : h p with
  | none => rfl
  | some c => obtain ⟨o, ho⟩ := (sh.cell p c e).2.2.there; rw [n] at ho; cases ho
theorem le_refl {Γ : Gam} {n : Nat} {es : Es} {l : List Expr} {pos : Pos} (h : PA X l (LA T X RR n (wpEs Γ es))) : PE X (.List l pos) (LE T X RR (wpE Γ (.refl es))) :=
  PE.imp (pe_lst h) fun τ H Q ⟨F, G, σ, h, Qd, sr, w, k⟩ => ⟨F, G, σ, h, _, sr, w, fun ds h1 vs F1 H1 _ s1 sr1 r1 ⟨w1, w2⟩ => ⟨by rw [← r1.length, ← SL_eq]; exact w1, fun p hp =>
    k _ _ _ F1 _ s1 (sr1.newcell (c := .lst ds) hp ⟨vs, upd_same, r1⟩) .ref (w2 p (hfree sr1.sh hp))⟩⟩

/-! ### calls -/
/-- from a call's wants to the callee's promise -/
theorem prom_of {sp : Spec} {F G : Hp} {σ : Env} {h : AH} {τ : L2.St} {H : Hp} {ds : List D} {vs : List V} {Qd : QE} {Q : VK} (sr : SR T (RR.lk X) F G σ h τ H) (r : Reps T F ds vs) (w : sp ds h Qd (fun x h' => RR.R x σ h'))
    (k : ∀ d h' v F' H', Same F F' → SR T (RR.lk X) F' G σ h' τ H' → Rep T F' d v → Qd d h' → Q v H') : prom T sp vs H Q (WE (WR T X RR) τ) := by
  obtain ⟨G', sh, back⟩ := sr.call
  refine ⟨F, G', h, ds, Qd, _, r, sh, w, fun d h' v F' H' s sh' rv q => k d h' v F' H' s (back F' h' H' s sh') rv q, fun x h' F' H' dd v s sh' e rv q => ?_⟩
  exact ⟨F', G, σ, h', x, dd, v, rfl, rfl, back F' h' H' s sh', e, rv, q⟩
theorem le_call {Γ : Gam} {k n m : Nat} {es : Es} {e : Expr} {l : List Expr} {x : Str} {p pos : Pos} (hK : X.K = T.K) (g : Good X.prog X.w T X.mg X.base k n (Γ.fn n)) (hr : Room k X.A) (hg : Gl X x) (hm : X.mg x = some (.ref (T.fA n)))
    (tk : Takes X (WR T X RR)) (hs : (e :: l).all noStar = true) (hd : (x == ("__debug__" : Str)) = false) (ha : PA X (e :: l) (LA T X RR m (wpEs Γ es))) : PE X (.Call (.Name x p) (e :: l) [] pos) (LE T X RR (wpE Γ (.call n es []))) := by
  obtain ⟨⟨fd, ps, F, b⟩, kp⟩ := g
  have F : FnOk X.prog X.w X.K X.mg X.base (L2.CX X.prog X.w) k (T.fA n) fd ps (prom T (Γ.fn n)) := hK ▸ F
  have b : Binds X.K fd ps [] := hK ▸ b
  have kp : PySem.W.keepIn X.K (.ref (T.fA n)) = true := hK ▸ kp
  have hs' : noStar e = true ∧ l.all noStar = true := by rw [List.all_cons, Bool.and_eq_true] at hs; exact hs
  refine PE.imp (pe_callSD F hr hg hm kp b .nil (fun τ => passAt tk τ) ha hd (star_cons hs'.1) (star_any hs'.2)) fun τ H Q ⟨F, G, σ, h, Qd, sr, w, k⟩ => ?_
  exact ⟨F, G, σ, h, _, sr, w, fun ds h1 vs F1 H1 _ s1 sr1 r1 w1 => by
      rw [List.append_nil] at w1
      rw [List.append_nil]
      exact prom_of sr1 r1 w1 fun d h' v F' H' s => k d h' v F' H' (s1.trans s)⟩
theorem le_call0 {Γ : Gam} {k n : Nat} {x : Str} {p pos : Pos} (hK : X.K = T.K) (g : Good X.prog X.w T X.mg X.base k n (Γ.fn n)) (hr : Room k X.A) (hg : Gl X x) (hm : X.mg x = some (.ref (T.fA n)))
    (tk : Takes X (WR T X RR)) (hd : (x == ("__debug__" : Str)) = false) : PE X (.Call (.Name x p) [] [] pos) (LE T X RR (wpE Γ (.call n .nil []))) := by
  obtain ⟨⟨fd, ps, F, b⟩, kp⟩ := g
  have F : FnOk X.prog X.w X.K X.mg X.base (L2.CX X.prog X.w) k (T.fA n) fd ps (prom T (Γ.fn n)) := hK ▸ F
  have b : Binds X.K fd ps [] := hK ▸ b
  have kp : PySem.W.keepIn X.K (.ref (T.fA n)) = true := hK ▸ kp
  refine ⟨fun pins s τ H Q I ⟨F0, G, σ, h, Qd, sr, w, k⟩ => ?_⟩
  refine wpAny_Call_Name_kw (ld_glob I hg hm ?_ hd)
  refine PySem.W.callWith_K0 I.kIn kp (run_fnSD (us := []) (vs := []) (E := WE (WR T X RR)) F hr b .nil (passAt tk τ) I .nil ?_)
  exact prom_of sr (.nil) w k
/-- the defaults -/
structure GoodD (P : Program) (w : World) (T : Tb) (mg : Str → Option Value) (base : Heap) (k : Nat) (n : Nat) (dv : List D) (sp : Spec) : Prop where
  ex : ∃ (fd : FuncData) (ps : List Str) (dvs : List V) (us : List Value), FnOk P w T.K mg base (L2.CX P w) k (T.fA n) fd ps (prom T sp) ∧ Binds T.K fd ps us ∧ Vals dvs us ∧ ∀ F, Reps T F dv dvs
  kp : PySem.W.keepIn T.K (.ref (T.fA n)) = true
theorem le_callD {Γ : Gam} {k n m : Nat} {dv : List D} {es : Es} {e : Expr} {l : List Expr} {x : Str} {p pos : Pos} (hK : X.K = T.K) (g : GoodD X.prog X.w T X.mg X.base k n dv (Γ.fn n)) (hr : Room k X.A) (hg : Gl X x) (hm : X.mg x = some (.ref (T.fA n)))
    (tk : Takes X (WR T X RR)) (hs : (e :: l).all noStar = true) (hd : (x == ("__debug__" : Str)) = false) (ha : PA X (e :: l) (LA T X RR m (wpEs Γ es))) : PE X (.Call (.Name x p) (e :: l) [] pos) (LE T X RR (wpE Γ (.call n es dv))) := by
  obtain ⟨⟨fd, ps, dvs, us, F, b, rv, rd⟩, kp⟩ := g
  have F : FnOk X.prog X.w X.K X.mg X.base (L2.CX X.prog X.w) k (T.fA n) fd ps (prom T (Γ.fn n)) := hK ▸ F
  have b : Binds X.K fd ps us := hK ▸ b
  have kp : PySem.W.keepIn X.K (.ref (T.fA n)) = true := hK ▸ kp
  have hs' : noStar e = true ∧ l.all noStar = true := by rw [List.all_cons, Bool.and_eq_true] at hs; exact hs
  refine PE.imp (pe_callSD F hr hg hm kp b rv (fun τ => passAt tk τ) ha hd (star_cons hs'.1) (star_any hs'.2)) fun τ H Q ⟨F, G, σ, h, Qd, sr, w, k⟩ => ?_
  exact ⟨F, G, σ, h, _, sr, w, fun ds h1 vs F1 H1 _ s1 sr1 r1 w1 => prom_of sr1 (r1.append (rd F1)) w1 fun d h' v F' H' s => k d h' v F' H' (s1.trans s)⟩
/-- a call with keywords: how the arguments go to the parameters -/
structure GoodK (P : Program) (w : World) (T : Tb) (mg : Str → Option Value) (base : Heap) (k : Nat) (n : Nat) (m : Nat) (ks : List Str) (perm : List Nat) (sp : Spec) : Prop where
  ex : ∃ (fd : FuncData) (ps : List Str), FnOk P w T.K mg base (L2.CX P w) k (T.fA n) fd ps (prom T sp) ∧
    ∀ (s : Shared) (us ws : List Value), T.K.In s.heap → us.length = m → ws.length = ks.length → BindsTo s fd ⟨us, ks.zip ws⟩ (ps.zip (perm.filterMap ((us ++ ws)[·]?)))
  kp : PySem.W.keepIn T.K (.ref (T.fA n)) = true
theorem vals_perm {vs : List V} {us : List Value} (r : Vals vs us) : ∀ (p : List Nat), Vals (p.filterMap (vs[·]?)) (p.filterMap (us[·]?))
  | [] => .nil
  | i :: p => by
    rw [List.filterMap_cons, List.filterMap_cons]
    cases e : vs[i]? with
    | none => rw [r.none_of e]; exact vals_perm r p
    | some v =>
      obtain ⟨u, hu, ru⟩ := r.get e
      rw [hu]
      exact .cons ru (vals_perm r p)
theorem reps_perm {F : Hp} {ds : List D} {vs : List V} (r : Reps T F ds vs) : ∀ (p : List Nat), Reps T F (permD p ds) (p.filterMap (vs[·]?))
  | [] => .nil
  | i :: p => by
    unfold permD
    rw [List.filterMap_cons, List.filterMap_cons]
    cases e : ds[i]? with
    | none =>
      have : vs[i]? = none := List.getElem?_eq_none_iff.mpr (by rw [← r.length]; exact List.getElem?_eq_none_iff.mp e)
      rw [this]
      exact reps_perm r p
    | some v =>
      obtain ⟨u, hu, ru⟩ := r.get e
      rw [hu]
      exact .cons ru (reps_perm r p)
theorem run_fnKD {k m : Nat} {f : Addr} {fd : FuncData} {ps ks : List Str} {perm : List Nat} {sp : Sp} {E : L2.St → XK} {pins : List (Addr × Obj)} {σ : L2.St} {H : Hp} {s : Shared} {Q : VK} {us ws : List Value} {vs zs : List V}
    (F : FnOk X.prog X.w X.K X.mg X.base (L2.CX X.prog X.w) k f fd ps sp) (hr : Room k X.A)
    (hb : ∀ (s : Shared) (us ws : List Value), X.K.In s.heap → us.length = m → ws.length = ks.length → BindsTo s fd ⟨us, ks.zip ws⟩ (ps.zip (perm.filterMap ((us ++ ws)[·]?))))
    (hx : PassesAt (L2.CX X.prog X.w) X σ (E σ)) (I : Inv X pins σ H s) (r : Vals vs us) (rz : Vals zs ws) (l1 : vs.length = m) (l2 : zs.length = ks.length) (h : sp (perm.filterMap ((vs ++ zs)[·]?)) H Q (E σ)) : wpAny (model X.prog X.w) X.A (call (.ref f) us (ks.zip ws)) (EP X pins σ Q) X.xe s := by
  have r2 := vals_perm (r.append rz) perm
  refine wpAny_call (codeAny_mono (F.run X.A X.stack s H ⟨us, ks.zip ws⟩ _ _ Q (E σ) hr I.env0 (hb s us ws I.kIn (r.length.symm.trans l1) (rz.length.symm.trans l2)) r2 h) fun r s' hq => ?_)
  cases r with
  | error e => exact hx pins H s e s' I hq
  | ok fl =>
    cases fl with
    | ret u => exact I.after hq
    | next => exact False.elim hq
    | brk => exact False.elim hq
    | cont => exact False.elim hq
/-- the keywords' values -/
theorem lk_nil {Γ : Gam} : PK X [] (LA T X RR 0 (wpEs Γ .nil)) :=
  ⟨fun pos pins s τ H Q I ⟨F, G, σ, h, Qd, sr, w, k⟩ => pk_nil.run pos pins s τ H Q I (k [] h [] F H rfl (Same.refl _) sr .nil w)⟩
theorem lk_cons {Γ : Gam} {n : Nat} {a : E} {r : Es} {e : Expr} {kws : List Keyword} {nm : Option Str} {kpos : Pos} (ha : PE X e (LE T X RR (wpE Γ a))) (hr : PK X kws (LA T X RR n (wpEs Γ r))) : PK X (⟨nm, e, kpos⟩ :: kws) (LA T X RR (n + 1) (wpEs Γ (.cons a r))) :=
  ⟨fun pos pins s τ H Q I ⟨F, G, σ, h, Qd, sr, w, k⟩ => (pk_cons ha hr).run pos pins s τ H Q I ⟨F, G, σ, h, _, sr, w, fun d h1 v F1 H1 s1 sr1 r1 w1 =>
    ⟨F1, G, σ, h1, _, sr1, w1, fun ds h2 vs F2 H2 l2 s2 sr2 r2 w2 => k _ h2 _ F2 H2 (congrArg (· + 1) l2) (s1.trans s2) sr2 (.cons (r1.mono s2) r2) w2⟩⟩⟩
theorem kw_all {pos : Pos} {env : PySem.Env} {ks : List Str} : ∀ {kws : List Keyword}, kws.map (·.arg) = ks.map some → (backToKw pos (keywordEach kws env)).all (·.1.isSome) = true ∧ (backToKw pos (keywordEach kws env)).filterMap (·.1) = ks ∧ (backToKw pos (keywordEach kws env)).any (·.1.isNone) = false := by
  induction ks with
  | nil =>
    intro kws h
    have : kws = [] := by simpa using h
    subst this
    exact ⟨rfl, rfl, rfl⟩
  | cons x ks ih =>
    intro kws h
    cases kws with
    | nil => simp at h
    | cons q kws =>
      obtain ⟨nm, e, p⟩ := q
      simp only [List.map_cons, List.cons.injEq] at h
      obtain ⟨h1, h2⟩ := h
      obtain ⟨a, b, c⟩ := ih h2
      have h1 : nm = some x := h1
      subst h1
      refine ⟨?_, ?_, ?_⟩
      · simp only [keywordEach, backToKw, List.map_cons, List.all_cons, Option.isSome_some, Bool.true_and]; exact a
      · simp only [keywordEach, backToKw, List.map_cons, List.filterMap_cons]; exact congrArg (x :: ·) b
      · simp only [keywordEach, backToKw, List.map_cons, List.any_cons, Option.isNone_some, Bool.false_or]; exact c
theorem le_callK {Γ : Gam} {k n m : Nat} {es kes : Es} {e : Expr} {l : List Expr} {kws : List Keyword} {ks : List Str} {perm : List Nat} {x : Str} {p pos : Pos} (hK : X.K = T.K) (g : GoodK X.prog X.w T X.mg X.base k n m ks perm (Γ.fn n)) (hr : Room k X.A) (hg : Gl X x) (hm : X.mg x = some (.ref (T.fA n)))
    (tk : Takes X (WR T X RR)) (hs : (e :: l).all noStar = true) (hd : (x == ("__debug__" : Str)) = false) (hks : kws.map (·.arg) = ks.map some) (ha : PA X (e :: l) (LA T X RR m (wpEs Γ es))) (hkw : PK X kws (LA T X RR ks.length (wpEs Γ kes))) : PE X (.Call (.Name x p) (e :: l) kws pos) (LE T X RR (wpE Γ (.callk n es kes perm))) := by
  obtain ⟨⟨fd, ps, F, b⟩, kp⟩ := g
  have F : FnOk X.prog X.w X.K X.mg X.base (L2.CX X.prog X.w) k (T.fA n) fd ps (prom T (Γ.fn n)) := hK ▸ F
  have b : ∀ (s : Shared) (us ws : List Value), X.K.In s.heap → us.length = m → ws.length = ks.length → BindsTo s fd ⟨us, ks.zip ws⟩ (ps.zip (perm.filterMap ((us ++ ws)[·]?))) := hK ▸ b
  have kp : PySem.W.keepIn X.K (.ref (T.fA n)) = true := hK ▸ kp
  have hs' : noStar e = true ∧ l.all noStar = true := by rw [List.all_cons, Bool.and_eq_true] at hs; exact hs
  obtain ⟨a1, a2, a3⟩ := kw_all (pos := pos) (env := X.env) hks
  refine ⟨fun pins s τ H Q I ⟨F0, G, σ, h, Qd, sr, w, kk⟩ => ?_⟩
  refine wpAny_Call_Name_kw (ld_glob I hg hm ?_ hd)
  have hpl : ((backTo pos (starEach (e :: l) X.env)).any (·.1) || (backToKw pos (keywordEach kws X.env)).any (·.1.isNone)) = false := by
    rw [star_any hs, a3]; rfl
  refine PySem.W.callWith_KW (h₀ := X.base) I.ok.mod.kin kp a1 (thn (ha.run pos pins s τ H (fun vs H1 => vs.length = m ∧ LA T X RR ks.length (wpEs Γ kes) τ H1 fun zs H2 => zs.length = ks.length ∧ prom T (Γ.fn n) (perm.filterMap ((vs ++ zs)[·]?)) H2 Q (WE (WR T X RR) τ)) I ?_) fun us s1 ⟨vs, H1, I1, r, l1, q⟩ => ?_) hpl (star_cons hs'.1)
  · refine ⟨F0, G, σ, h, _, sr, w, fun ds h1 vs F1 H1 l1 s1 sr1 r1 w1 => ⟨by rw [← r1.length]; exact l1, F1, G, σ, h1, _, sr1, w1, fun zs h2 us F2 H2 l2 s2 sr2 r2 w2 => ⟨by rw [← r2.length]; exact l2, ?_⟩⟩⟩
    exact prom_of sr2 (reps_perm ((r1.mono s2).append r2) perm) w2 fun d h' v F' H' s => kk d h' v F' H' (s1.trans (s2.trans s))
  · refine thn (hkw.run pos pins s1 τ H1 _ I1 q) fun ws s2 ⟨zs, H2, I2, rz, l2, q2⟩ => ⟨I2.kIn, ?_⟩
    rw [a2]
    exact run_fnKD F hr b (passAt tk τ) I2 r rz l1 l2 q2
theorem le_callK0 {Γ : Gam} {k n : Nat} {kes : Es} {kws : List Keyword} {ks : List Str} {perm : List Nat} {x : Str} {p pos : Pos} (hK : X.K = T.K) (g : GoodK X.prog X.w T X.mg X.base k n 0 ks perm (Γ.fn n)) (hr : Room k X.A) (hg : Gl X x) (hm : X.mg x = some (.ref (T.fA n)))
    (tk : Takes X (WR T X RR)) (hd : (x == ("__debug__" : Str)) = false) (hks : kws.map (·.arg) = ks.map some) (hkw : PK X kws (LA T X RR ks.length (wpEs Γ kes))) : PE X (.Call (.Name x p) [] kws pos) (LE T X RR (wpE Γ (.callk n .nil kes perm))) := by
  obtain ⟨⟨fd, ps, F, b⟩, kp⟩ := g
  have F : FnOk X.prog X.w X.K X.mg X.base (L2.CX X.prog X.w) k (T.fA n) fd ps (prom T (Γ.fn n)) := hK ▸ F
  have b : ∀ (s : Shared) (us ws : List Value), X.K.In s.heap → us.length = 0 → ws.length = ks.length → BindsTo s fd ⟨us, ks.zip ws⟩ (ps.zip (perm.filterMap ((us ++ ws)[·]?))) := hK ▸ b
  have kp : PySem.W.keepIn X.K (.ref (T.fA n)) = true := hK ▸ kp
  obtain ⟨a1, a2, a3⟩ := kw_all (pos := pos) (env := X.env) hks
  refine ⟨fun pins s τ H Q I ⟨F0, G, σ, h, Qd, sr, w, kk⟩ => ?_⟩
  refine wpAny_Call_Name_kw (ld_glob I hg hm ?_ hd)
  have hpl : ((backTo pos (starEach [] X.env)).any (·.1) || (backToKw pos (keywordEach kws X.env)).any (·.1.isNone)) = false := by
    rw [a3]; rfl
  refine PySem.W.callWith_KW0 (h₀ := X.base) I.ok.mod.kin kp a1 (thn (hkw.run pos pins s τ H (fun zs H2 => zs.length = ks.length ∧ prom T (Γ.fn n) (perm.filterMap ((([] : List V) ++ zs)[·]?)) H2 Q (WE (WR T X RR) τ)) I ?_) fun ws s2 ⟨zs, H2, I2, rz, l2, q2⟩ => ⟨I2.kIn, ?_⟩) hpl
  · refine ⟨F0, G, σ, h, _, sr, w, fun zs h2 us F2 H2 l2 s2 sr2 r2 w2 => ⟨by rw [← r2.length]; exact l2, ?_⟩⟩
    exact prom_of sr2 (reps_perm (Reps.append .nil r2) perm) w2 fun d h' v F' H' s => kk d h' v F' H' (s2.trans s)
  · rw [a2]
    exact run_fnKD (us := []) (vs := []) F hr b (passAt tk τ) I2 .nil rz rfl l2 q2
/-- a local that holds a def -/
theorem le_callv {Γ : Gam} {k i m : Nat} {es : Es} {e : Expr} {l : List Expr} {x : Str} {p pos : Pos} (hK : X.K = T.K) (g : ∀ n, n < 1000 → (∃ ds h Q R, Γ.fn n ds h Q R) → Good X.prog X.w T X.mg X.base k n (Γ.fn n)) (hr : Room k X.A)
    (hN : X.N[i]? = some x) (hv : Vis X.env.scope x) (hd : (x == ("__debug__" : Str)) = false) (hcd : (x == ("__classdict__" : Str)) = false) (hclo : ∀ n vs ds h Q R, ¬ Γ.clo n vs ds h Q R)
    (tk : Takes X (WR T X RR)) (hs : (e :: l).all noStar = true) (ha : PA X (e :: l) (LA T X RR m (wpEs Γ es))) (hkp : ∀ n, n < 1000 → PySem.W.keepIn T.K (.ref (T.fA n)) = true) : PE X (.Call (.Name x p) (e :: l) [] pos) (LE T X RR (wpE Γ (.callv i es))) := by
  have hs' : noStar e = true ∧ l.all noStar = true := by rw [List.all_cons, Bool.and_eq_true] at hs; exact hs
  refine ⟨fun pins s τ H Q I ⟨F0, G, σ, h, Qd, sr, w, kk⟩ => ?_⟩
  have w : (match σ.at i with
    | .val (.fn n) => n < 1000 ∧ wpEs Γ es σ h (fun ds h => Γ.fn n ds h Qd (fun x h' => RR.R x σ h')) (fun x h' => RR.R x σ h')
    | .val (.clo n vs) => wpEs Γ es σ h (fun ds h => Γ.clo n vs ds h Qd (fun x h' => RR.R x σ h')) (fun x h' => RR.R x σ h')
    | _ => False) := w
  cases e0 : σ.at i with
  | val d =>
    rw [e0] at w
    obtain ⟨v, e1, r⟩ := sr.val e0
    cases r with
    | fn =>
      rename_i n
      obtain ⟨hn, w⟩ := w
      refine wpAny_Call_Name_kw (thn ((pe_var (pos := p) hN hv hd hcd).run pins s τ H (fun v H1 => v = .ref (T.fA n) ∧ H1 = H) I ⟨_, e1, rfl, rfl⟩) fun u s1 ⟨v, H1, I1, r1, q1⟩ => ?_)
      obtain ⟨rfl, rfl⟩ := q1
      cases r1
      refine PySem.W.callWith_K (h₀ := X.base) I.ok.mod.kin (hK ▸ hkp n hn) (thn (ha.run pos pins s1 τ _ (fun vs H1 => (∃ ds h Q R, Γ.fn n ds h Q R) ∧ prom T (Γ.fn n) vs H1 Q (WE (WR T X RR) τ)) I1 ?_) fun us s2 ⟨vs, H2, I2, r, ⟨ex, q⟩⟩ => ⟨I2.kIn, ?_⟩) (star_cons hs'.1) (star_any hs'.2)
      · exact ⟨F0, G, σ, h, _, sr, w, fun ds h1 vs F1 H1 l1 s1 sr1 r1 w1 => ⟨⟨_, _, _, _, w1⟩, prom_of sr1 r1 w1 fun d h' v F' H' s => kk d h' v F' H' (s1.trans s)⟩⟩
      · obtain ⟨⟨fd, ps, F, b⟩, kp⟩ := g n hn ex
        have F : FnOk X.prog X.w X.K X.mg X.base (L2.CX X.prog X.w) k (T.fA n) fd ps (prom T (Γ.fn n)) := hK ▸ F
        have b : Binds X.K fd ps [] := hK ▸ b
        refine run_fnSD (dvs := []) (E := WE (WR T X RR)) F hr b .nil (passAt tk τ) I2 r ?_
        rw [List.append_nil]
        exact q
    | _ => exact False.elim w
  | _ => rw [e0] at w; exact False.elim w
/-! ### objects -/
theorem le_fld {Γ : Gam} {f : Nat} {o : E} {e : Expr} {x : Str} {pos : Pos} (hK : X.K = T.K) (hx : T.tbl[f]? = some x) (hb : noSuper e = true) (he : PE X e (LE T X RR (wpE Γ o))) : PE X (.Attribute e x pos) (LE T X RR (wpE Γ (.fld o f))) := by
  refine PE.imp (pe_fld he (base_ok hb)) fun τ H Q ⟨F, G, σ, h, Qd, sr, w, k⟩ => ⟨F, G, σ, h, _, sr, w, fun d h1 v F1 H1 s1 sr1 r1 w1 => ?_⟩
  have w1 : (match d.asObj h1 with | some (_, fs) => (match getF f fs with | some d => Qd d h1 | none => False) | none => False) := w1
  cases e1 : d.asObj h1 with
  | none => rw [e1] at w1; exact False.elim w1
  | some q =>
    obtain ⟨c, fs⟩ := q
    rw [e1] at w1
    obtain ⟨a, dx, fvs, rfl, ea, cl, rf⟩ := asObj_rep sr1.sh r1 e1
    cases e2 : getF f fs with
    | none => simp only [e2] at w1
    | some y =>
      simp only [e2] at w1
      obtain ⟨u, e3, r3, na⟩ := RepF.get hx rf e2
      exact ⟨a, T.cA c, dx, fvs, u, rfl, ea, hK ▸ cl, hK ▸ na, e3, k _ h1 _ F1 H1 s1 sr1 r3 w1⟩
/-- a method -/
structure GoodM (P : Program) (w : World) (T : Tb) (mg : Str → Option Value) (base : Heap) (k : Nat) (n c : Nat) (m : Str) (sp : Spec) : Prop where
  ex : ∃ (fd : FuncData) (ps : List Str), FnOk P w T.K mg base (L2.CX P w) k (T.fA n) fd ps (prom T sp) ∧ Binds T.K fd ps []
  me : Meth T.K (T.cA c) m (T.fA n)
theorem meth_go {X : Cx} {CX : CXT} {k : Nat} {f C : Addr} {fd : FuncData} {ps : List Str} {sp : Sp} {E : L2.St → XK} {m : Str} {pos apos : Pos} {o : Expr} {es : List Expr} {ta : TE} {t : TA} (he : PE X o ta) (c : Cls X.K C) (hm : Meth X.K C m f) (F : FnOk X.prog X.w X.K X.mg X.base CX k f fd ps sp) (hr : Room k X.A) (hb : Binds X.K fd ps []) (hx : ∀ σ, PassesAt CX X σ (E σ))
    (ha : es = [] ∨ PA X es t) (hs : es.all noStar = true) (hsup : noSuper o = true) (hl : (apos.endLine == pos.line) = true) (hn : es.length < 30) :
    PE X (.Call (.Attribute o m apos) es [] pos) (fun σ H Q => ta σ H fun x H1 => ∃ a dx fs, x = .ref a ∧ H1 a = some (.ins C dx fs) ∧ fs.lookup m = none ∧ ((es = [] ∧ sp [x] H1 Q (E σ)) ∨ (es ≠ [] ∧ t σ H1 fun vs H2 => sp (x :: vs) H2 Q (E σ)))) := by
  obtain ⟨pl, ht⟩ := meth_ok (m := m) (e := .Name m apos) (env := X.env) hsup hl hs hn
  refine ⟨fun pins s σ H Q I h => ?_⟩
  refine PySem.W.methodCall_KW (pl := pl) (thn (he.run pins s σ H _ I h) fun u s1 ⟨x, H1, I1, rx, a, dx, fs, ex, ea, l, q⟩ => ?_) ht
  subst ex
  obtain rfl : u = Value.ref a := rx
  refine getmeth_ok I1 ea c hm l ?_
  cases es with
  | nil =>
    rcases q with ⟨_, q⟩ | ⟨q, _⟩
    · exact PySem.W.callWith_K0 (first := [.ref a]) I1.kIn hm.kp (run_fnSD (E := E) (us := [.ref a]) (vs := [.ref a]) (dvs := []) F hr hb .nil (hx σ) I1 (.cons rfl .nil) q)
    · exact absurd rfl q
  | cons e es =>
    rcases q with ⟨q, _⟩ | ⟨_, q⟩
    · cases q
    · have hs' : noStar e = true ∧ es.all noStar = true := by rw [List.all_cons, Bool.and_eq_true] at hs; exact hs
      have ha : PA X (e :: es) t := ha.elim (fun z => nomatch z) id
      refine PySem.W.callWith_K (first := [.ref a]) (h₀ := X.base) I.ok.mod.kin hm.kp (thn (ha.run pos pins s1 σ H1 _ I1 q) fun us s2 ⟨vs, H2, I2, r, q2⟩ => ⟨I2.kIn, ?_⟩) (star_cons hs'.1) (star_any hs'.2)
      refine run_fnSD (E := E) (us := .ref a :: us) (vs := .ref a :: vs) (dvs := []) F hr hb .nil (hx σ) I2 (.cons rfl r) ?_
      rw [List.append_nil]
      exact q2
theorem le_meth {Γ : Gam} {k n c m : Nat} {o : E} {es : Es} {e : Expr} {l : List Expr} {x : Str} {apos pos : Pos} (hK : X.K = T.K) (g : GoodM X.prog X.w T X.mg X.base k n c x (Γ.fn n)) (cl : Cls T.K (T.cA c)) (hr : Room k X.A)
    (tk : Takes X (WR T X RR)) (hs : l.all noStar = true) (hsup : noSuper e = true) (hl : (apos.endLine == pos.line) = true) (hn : l.length < 30) (he : PE X e (LE T X RR (wpE Γ o))) (ha : (l = [] ∧ es = .nil) ∨ (l ≠ [] ∧ PA X l (LA T X RR m (wpEs Γ es)))) : PE X (.Call (.Attribute e x apos) l [] pos) (LE T X RR (wpE Γ (.meth n c o es []))) := by
  obtain ⟨⟨fd, ps, F, b⟩, me⟩ := g
  have F : FnOk X.prog X.w X.K X.mg X.base (L2.CX X.prog X.w) k (T.fA n) fd ps (prom T (Γ.fn n)) := hK ▸ F
  have b : Binds X.K fd ps [] := hK ▸ b
  refine PE.imp (meth_go (t := LA T X RR m (wpEs Γ es)) (E := WE (WR T X RR)) he (hK ▸ cl) (hK ▸ me) F hr b (fun τ => passAt tk τ) (ha.elim (fun z => .inl z.1) fun z => .inr z.2) hs hsup hl hn) fun τ H Q ⟨F, G, σ, h, Qd, sr, w, k⟩ => ⟨F, G, σ, h, _, sr, w, fun d h1 v F1 H1 s1 sr1 r1 w1 => ?_⟩
  have w1 : (match d.asObj h1 with | some (c', _) => c' = c ∧ wpEs Γ es σ h1 (fun ds h => Γ.fn n (d :: (ds ++ [])) h Qd (fun x h' => RR.R x σ h')) (fun x h' => RR.R x σ h') | none => False) := w1
  cases e1 : d.asObj h1 with
  | none => rw [e1] at w1; exact False.elim w1
  | some q =>
    obtain ⟨c', fs⟩ := q
    rw [e1] at w1
    obtain ⟨ec, w3⟩ := w1
    subst ec
    obtain ⟨a, dx, fvs, rfl, ea, cl', rf⟩ := asObj_rep sr1.sh r1 e1
    refine ⟨a, dx, fvs, rfl, ea, RepF.none me.at_ (by simp) rf, ?_⟩
    rcases ha with ⟨e1, e2⟩ | ⟨e1, _⟩
    · subst e1 e2
      have w4 : Γ.fn n [d] h1 Qd (fun x h' => RR.R x σ h') := w3
      exact .inl ⟨rfl, prom_of sr1 (.cons r1 .nil) w4 fun d h' v F' H' s => k d h' v F' H' (s1.trans s)⟩
    · refine .inr ⟨e1, F1, G, σ, h1, _, sr1, w3, fun ds h2 vs F2 H2 _ s2 sr2 r2 w2 => ?_⟩
      rw [List.append_nil] at w2
      exact prom_of sr2 (.cons (r1.mono s2) r2) w2 fun d h' v F' H' s => k d h' v F' H' (s1.trans (s2.trans s))
/-- a class whose objects are made by __init__ -/
structure GoodI (P : Program) (w : World) (T : Tb) (mg : Str → Option Value) (base : Heap) (k : Nat) (n c : Nat) (sp : Spec) : Prop where
  ex : ∃ (fd : FuncData) (ps : List Str), FnOk P w T.K mg base (L2.CX P w) k (T.fA n) fd ps (prom T sp) ∧ Binds T.K fd ps []
  mkC : Mk T.K (T.cA c) (T.fA n)
  cl : Cls T.K (T.cA c)
theorem run_makeSD {CX : CXT} {k : Nat} {f C : Addr} {fd : FuncData} {ps : List Str} {sp : Sp} {E : L2.St → XK} {pins : List (Addr × Obj)} {σ : L2.St} {H : Hp} {s : Shared} {Q : VK} {us : List Value} {vs : List V} (M : Mk X.K C f) (F : FnOk X.prog X.w X.K X.mg X.base CX k f fd ps sp) (hr : Room (k + 1) X.A) (hb : Binds X.K fd ps [])
    (hx : PassesAt CX X σ (E σ)) (I : Inv X pins σ H s) (r : Vals vs us)
    (h : ∀ x dx, H x = none → H dx = none → dx ≠ x → sp (.ref x :: vs) (upd (upd H dx (.own x)) x (.ins C dx [])) (fun v H2 => v = .non ∧ Q (.ref x) H2) (E σ)) :
    wpAny (model X.prog X.w) X.A (call (.ref C) us) (EP X pins σ Q) X.xe s := by
  have hq := h (s.heap.objs.size + 1) s.heap.objs.size (I.hok.fresh (Nat.le_succ _)) (I.hok.fresh (Nat.le_refl _)) (Nat.ne_of_lt (Nat.lt_succ_self _))
  have I2 := Inv.made (C := C) I
  have r2 : Vals (V.ref (s.heap.objs.size + 1) :: vs) (Value.ref (s.heap.objs.size + 1) :: us) := .cons rfl r
  have hl : (Value.ref (s.heap.objs.size + 1) :: us ++ []).length = ps.length := by
    have e := r2.length
    rw [F.len _ _ _ _ hq] at e
    rw [List.append_nil]
    exact e.symm
  have hb' := hb _ (Value.ref (s.heap.objs.size + 1) :: us) I2.kIn hl
  rw [List.append_nil] at hb'
  refine wpAny_call (make_map (f := f) I.kIn M.makes M.init (beq_iff_eq.mp M.fn) (codeAny_mono (F.run _ X.stack _ _ ⟨Value.ref (s.heap.objs.size + 1) :: us, []⟩ (Value.ref (s.heap.objs.size + 1) :: us) _ _ (E σ) (hr.make C us [])
    (I2.env0.make C us []) hb' r2 hq) fun r s' hq' => ?_))
  cases r with
  | error e => exact hx pins _ _ e s' I2 hq'
  | ok fl =>
    cases fl with
    | ret u =>
      obtain ⟨v, H', I3, rv, ev, q3⟩ := I2.after hq'
      subst ev
      exact ⟨rv, ⟨V.ref (s.heap.objs.size + 1), H', I3, rfl, q3⟩⟩
    | next => exact False.elim hq'
    | brk => exact False.elim hq'
    | cont => exact False.elim hq'
theorem le_make {Γ : Gam} {k n c m : Nat} {fz : Bool} {es : Es} {e : Expr} {l : List Expr} {x : Str} {p pos : Pos} (hK : X.K = T.K) (g : GoodI X.prog X.w T X.mg X.base k n c (Γ.fn n)) (hr : Room (k + 1) X.A) (hg : Gl X x) (hm : X.mg x = some (.ref (T.cA c)))
    (tk : Takes X (WR T X RR)) (hs : (e :: l).all noStar = true) (hd : (x == ("__debug__" : Str)) = false) (ha : PA X (e :: l) (LA T X RR m (wpEs Γ es))) : PE X (.Call (.Name x p) (e :: l) [] pos) (LE T X RR (wpE Γ (.make n c es fz))) := by
  obtain ⟨⟨fd, ps, F, b⟩, mk, cl⟩ := g
  have F : FnOk X.prog X.w X.K X.mg X.base (L2.CX X.prog X.w) k (T.fA n) fd ps (prom T (Γ.fn n)) := hK ▸ F
  have b : Binds X.K fd ps [] := hK ▸ b
  have mk : Mk X.K (T.cA c) (T.fA n) := hK ▸ mk
  have hs' : noStar e = true ∧ l.all noStar = true := by rw [List.all_cons, Bool.and_eq_true] at hs; exact hs
  refine ⟨fun pins s τ H Q I ⟨F0, G, σ, h, Qd, sr, w, kk⟩ => ?_⟩
  refine wpAny_Call_Name_kw (ld_glob I hg hm ?_ hd)
  refine PySem.W.callWith_K (h₀ := X.base) I.ok.mod.kin mk.kp (thn (ha.run pos pins s τ H (fun vs H1 => ∀ x dx, H1 x = none → H1 dx = none → dx ≠ x → prom T (Γ.fn n) (.ref x :: vs) (upd (upd H1 dx (.own x)) x (.ins (T.cA c) dx [])) (fun v H2 => v = .non ∧ Q (.ref x) H2) (WE (WR T X RR) τ)) I ?_) fun us s1 ⟨vs, H1, I1, r, q⟩ => ⟨I1.kIn, ?_⟩) (star_cons hs'.1) (star_any hs'.2)
  · refine ⟨F0, G, σ, h, _, sr, w, fun ds h1 vs F1 H1 _ s1 sr1 r1 w1 x dx nx ndx ne => ?_⟩
    have w1 := w1 x (hfree sr1.sh nx)
    have g1 := Grow.beside (o := .own x) sr1.sh.sF ndx
    have sr2 := sr1.grow g1
    have nx2 : upd H1 dx (.own x) x = none := by rw [upd_ne (Ne.symm ne)]; exact nx
    have sr3 := sr2.newcell (o := .ins (T.cA c) dx []) (c := .obj c []) nx2 ⟨dx, [], upd_same, cl, .nil⟩
    refine prom_of sr3 (.cons .ref r1) w1 fun d h' v F' H' s sr' rv q => ?_
    cases rv with
    | non =>
      refine ⟨rfl, ?_⟩
      cases fz with
      | true =>
        obtain ⟨fs, e1, q⟩ := q
        obtain ⟨_, _, dx', fvs, e2, cl', rf⟩ := sr'.sh.cell x _ e1
        have s2 : Same F' (upd F' x (.ins (T.cA c) dx' fvs)) := fun b u e => by rw [upd_ne (ne_of_none e (sr'.sh.cell x _ e1).1)]; exact e
        exact kk _ _ _ _ _ (s1.trans (s.trans s2)) (sr'.freeze e1 e2) (.obj upd_same cl' (rf.mono s2)) q
      | false => exact kk _ _ _ _ _ (s1.trans s) sr' .ref q
    | _ => exact False.elim q
  · exact run_makeSD (E := WE (WR T X RR)) mk F hr b (passAt tk τ) I1 r q
/-! ### built-ins -/
theorem le_bi {Γ : Gam} {m : Nat} {b : Bi} {es : Es} {e : Expr} {l : List Expr} {id : String} {x : Str} {p pos : Pos} (hc : CallR X (.builtin id) (rBi T X b)) (hg : Gl X x) (hm : X.mg x = none) (hv : bootBuiltins x = some (.builtin id))
    (hn : x ≠ "__name__") (hd : (x == ("__debug__" : Str)) = false) (hs : (e :: l).all noStar = true) (ha : PA X (e :: l) (LA T X RR m (wpEs Γ es))) : PE X (.Call (.Name x p) (e :: l) [] pos) (LE T X RR (wpE Γ (.bi b es))) := by
  have hs' : noStar e = true ∧ l.all noStar = true := by rw [List.all_cons, Bool.and_eq_true] at hs; exact hs
  exact PE.imp (pe_callB hc hg hm hv ha hn hd (star_cons hs'.1) (star_any hs'.2)) fun τ H Q ⟨F, G, σ, h, Qd, sr, w, k⟩ => ⟨F, G, σ, h, _, sr, w, fun ds h1 vs F1 H1 _ s1 sr1 r1 w1 =>
    ⟨F1, G, σ, h1, τ, ds, Qd, sr1.s, r1, w1, fun z h' v F' H' s sr' => k z h' v F' H' (s1.trans s) ⟨sr', sr1.lF.trans s, sr1.lG⟩⟩⟩
theorem le_biT {Γ : Gam} {m : Nat} {b : Bi} {es : Es} {e : Expr} {l : List Expr} {id : String} {x : Str} {p pos : Pos} (hc : CallR X (.type id) (rBi T X b)) (hg : Gl X x) (hm : X.mg x = none) (hv : bootBuiltins x = some (.type id))
    (hn : x ≠ "__name__") (hd : (x == ("__debug__" : Str)) = false) (hs : (e :: l).all noStar = true) (ha : PA X (e :: l) (LA T X RR m (wpEs Γ es))) : PE X (.Call (.Name x p) (e :: l) [] pos) (LE T X RR (wpE Γ (.bi b es))) := by
  have hs' : noStar e = true ∧ l.all noStar = true := by rw [List.all_cons, Bool.and_eq_true] at hs; exact hs
  exact PE.imp (pe_callTy hc hg hm hv ha hn hd (star_cons hs'.1) (star_any hs'.2)) fun τ H Q ⟨F, G, σ, h, Qd, sr, w, k⟩ => ⟨F, G, σ, h, _, sr, w, fun ds h1 vs F1 H1 _ s1 sr1 r1 w1 =>
    ⟨F1, G, σ, h1, τ, ds, Qd, sr1.s, r1, w1, fun z h' v F' H' s sr' => k z h' v F' H' (s1.trans s) ⟨sr', sr1.lF.trans s, sr1.lG⟩⟩⟩
/-! ### subscripts -/
def rIdx (T : Tb) (X : Cx) : R2 := L2op T X fun x y h Q => match y with
    | .int k => match asLT h x with
      | some l => match ixP l.length k with
        | some j => match l[j]? with
          | some d => Q d h
          | none => False
        | none => False
      | none => False
    | _ => False
theorem ix_idx (hK : X.K = T.K) : IxR X (rIdx T X) := by
  intro value slice pins s τ0 H x y v u Q I rx ry h hs
  obtain ⟨F, G, σ, h, τ, dx, dy, Qd, sr, r1, r2, w, k⟩ := h
  cases r2 with
  | int =>
    rename_i i
    have w : (match asLT h dx with
      | some l => (match ixP l.length i with
        | some j => (match l[j]? with
          | some d => Qd d h
          | none => False)
        | none => False)
      | none => False) := w
    cases e1 : asLT h dx with
    | none => rw [e1] at w; exact False.elim w
    | some l =>
      rw [e1] at w
      obtain ⟨a, vs, rfl, sq, rl⟩ := asLT_rep sr.sh r1 e1
      cases e2 : ixP l.length i with
      | none => simp only [e2] at w
      | some j =>
        simp only [e2] at w
        cases e3 : l[j]? with
        | none => simp only [e3] at w
        | some d =>
          simp only [e3] at w
          obtain ⟨z, e4, rz⟩ := rl.get e3
          have e5 : atI vs i = some z := by
            unfold atI
            have : ixN vs.length i = some j := by rw [← rl.length]; exact e2
            rw [this]
            exact e4
          have fin : Q z H := k d h z F H (Same.refl _) sr rz w
          rcases sq with sq | sq
          · exact ix_list value slice pins s τ0 H _ _ v u Q I rx ry ⟨a, vs, i, z, rfl, rfl, hK ▸ sq, e5, fin⟩ hs
          · exact ix_tup value slice pins s τ0 H _ _ v u Q I rx ry ⟨a, vs, i, z, rfl, rfl, hK ▸ sq, e5, fin⟩ hs
  | _ => exact False.elim w
theorem le_idx {Γ : Gam} {a b : E} {ea eb : Expr} {pos : Pos} (hK : X.K = T.K) (hb' : noSlice eb = true) (ha : PE X ea (LE T X RR (wpE Γ a))) (hb : PE X eb (LE T X RR (wpE Γ b))) : PE X (.Subscript ea eb pos) (LE T X RR (wpE Γ (.idx a b))) :=
  PE.imp (pe_ix (ix_idx (T := T) hK) ha hb (ix_ok hb')) fun τ H Q h => le_op (f := fun x y h Q => match y with
    | .int k => match asLT h x with
      | some l => match ixP l.length k with
        | some j => match l[j]? with
          | some d => Q d h
          | none => False
        | none => False
      | none => False
    | _ => False) h
theorem slP_eq (n d : Nat) (i : Int) : HT.sIx n d (some i) = slP n i := by
  show (if i < 0 then (i + (n : Int)).toNat else min i.toNat n) = _
  unfold slP
  by_cases h : 0 ≤ i
  · rw [if_pos h, if_neg (by omega)]
  · rw [if_neg h, if_pos (by omega)]
theorem slP_le (n : Nat) (i : Int) : slP n i ≤ n := by
  unfold slP
  split <;> omega
theorem cut_to (xs : List V) (i : Int) : cutV xs none (some i) = xs.take (slP xs.length i) := by
  unfold cutV
  rw [slP_eq]
  show (xs.drop 0).take (slP xs.length i - 0) = _
  simp
theorem cut_from (xs : List V) (i : Int) : cutV xs (some i) none = xs.drop (slP xs.length i) := by
  unfold cutV
  rw [slP_eq]
  show (xs.drop (slP xs.length i)).take (xs.length - slP xs.length i) = _
  rw [List.take_of_length_le]
  rw [List.length_drop]
  omega
theorem cut_of (xs : List V) (i j : Int) : cutV xs (some i) (some j) = (xs.take (slP xs.length j)).drop (slP xs.length i) := by
  unfold cutV
  rw [slP_eq, slP_eq, List.drop_take]
theorem asL_of {h : AH} {F G : Hp} {σ : Env} {τ : L2.St} {H : Hp} {d : D} {v : V} {P : List D → Prop} (hK : X.K = T.K) {lk : Lk} (sr : SR T lk F G σ h τ H) (r : Rep T F d v) (w : match asL h d with | some l => P l | none => False) : ∃ a vs l, v = .ref a ∧ SqL X.K H a vs ∧ Reps T F l vs ∧ P l := by
  cases e : asL h d with
  | none => rw [e] at w; exact False.elim w
  | some l =>
    rw [e] at w
    obtain ⟨a, vs, e1, e2, e3⟩ := asL_rep sr.sh r e
    exact ⟨a, vs, l, e1, hK ▸ e2, e3, w⟩
/-- what is cut: a list, or a tuple that is not cut whole -/
theorem cut_of2 {h : AH} {F G : Hp} {σ : Env} {τ : L2.St} {H : Hp} {d : D} {v : V} {P : List D → Prop} {Pt : List D → Prop} (hK : X.K = T.K) {lk : Lk} (w : match asL h d with | some l => P l | none => match d with | .tup l => Pt l | _ => False) (sr : SR T lk F G σ h τ H) (r : Rep T F d v) :
    ∃ a vs l, v = .ref a ∧ Reps T F l vs ∧ ((SqL X.K H a vs ∧ P l) ∨ (SqT X.K H a vs ∧ Pt l)) := by
  cases e : asL h d with
  | some l =>
    rw [e] at w
    obtain ⟨a, vs, e1, e2, e3⟩ := asL_rep sr.sh r e
    exact ⟨a, vs, l, e1, e3, .inl ⟨hK ▸ e2, w⟩⟩
  | none =>
    rw [e] at w
    cases r with
    | tup sq rl => exact ⟨_, _, _, rfl, rl, .inr ⟨hK ▸ Same.sqt sr.sh.sF sq, w⟩⟩
    | _ => exact False.elim w
theorem slP_none (n : Nat) : HT.sIx n 0 none = 0 ∧ HT.sIx n n none = n := ⟨rfl, rfl⟩
theorem le_slTo {Γ : Gam} {a b : E} {ea eb : Expr} {pos p2 : Pos} (hK : X.K = T.K) (ha : PE X ea (LE T X RR (wpE Γ a))) (hb : PE X eb (LE T X RR (wpE Γ b))) : PE X (.Subscript ea (.Slice none (some eb) none p2) pos) (LE T X RR (wpE Γ (.slTo a b))) := by
  refine PE.imp (pe_slice (SlR.or sl_list sl_tup) ha po_none (po_some hb)) fun τ H Q ⟨F, G, σ, h, Qd, sr, w, k⟩ => ⟨F, G, σ, h, _, sr, w, fun dx h1 vx F1 H1 s1 sr1 r1 w1 => ⟨F1, G, σ, h1, _, sr1, w1, fun dy h2 vy F2 H2 s2 sr2 r2 w2 => ?_⟩⟩
  cases r2 with
  | int =>
    rename_i i
    obtain ⟨c, vs, l, rfl, rl, ⟨sq, w2⟩ | ⟨sq, w2, w3⟩⟩ := cut_of2 (P := fun l => Qd (.lst (l.take (slP l.length i))) h2) (Pt := fun l => slP l.length i ≠ l.length ∧ Qd (.tup (l.take (slP l.length i))) h2) hK w2 sr2 (r1.mono s2)
    · refine ⟨i, rfl, .inl ⟨c, vs, rfl, sq, fun p hp => ?_⟩⟩
      have g := Grow.new (o := .lst (cutV vs none (some i))) sr2.sh.sF hp
      have rc : Reps T F2 (l.take (slP l.length i)) (cutV vs none (some i)) := by
        rw [cut_to, ← rl.length]
        exact rl.take _
      exact k _ h2 _ _ _ (s1.trans (s2.trans g.f)) (sr2.grow g) (.lst (SqL.of upd_same) (rc.mono g.f)) w2
    · refine ⟨i, rfl, .inr ⟨c, vs, rfl, sq, fun z => ?_, fun p hp => ?_⟩⟩
      · refine w2 ?_
        rw [slP_eq] at z
        rw [rl.length]; exact z.2
      · have g := Grow.new (o := .tup (cutV vs none (some i))) sr2.sh.sF hp
        have rc : Reps T F2 (l.take (slP l.length i)) (cutV vs none (some i)) := by
          rw [cut_to, ← rl.length]
          exact rl.take _
        exact k _ h2 _ _ _ (s1.trans (s2.trans g.f)) (sr2.grow g) (.tup (SqT.of upd_same) (rc.mono g.f)) w3
  | _ => exact False.elim w2
theorem le_slFrom {Γ : Gam} {a b : E} {ea eb : Expr} {pos p2 : Pos} (hK : X.K = T.K) (ha : PE X ea (LE T X RR (wpE Γ a))) (hb : PE X eb (LE T X RR (wpE Γ b))) : PE X (.Subscript ea (.Slice (some eb) none none p2) pos) (LE T X RR (wpE Γ (.slFrom a b))) := by
  refine PE.imp (pe_slice (SlR.or sl_list sl_tup) ha (po_some hb) po_none) fun τ H Q ⟨F, G, σ, h, Qd, sr, w, k⟩ => ⟨F, G, σ, h, _, sr, w, fun dx h1 vx F1 H1 s1 sr1 r1 w1 => ⟨F1, G, σ, h1, _, sr1, w1, fun dy h2 vy F2 H2 s2 sr2 r2 w2 => ?_⟩⟩
  cases r2 with
  | int =>
    rename_i i
    obtain ⟨c, vs, l, rfl, rl, ⟨sq, w2⟩ | ⟨sq, w2, w3⟩⟩ := cut_of2 (P := fun l => Qd (.lst (l.drop (slP l.length i))) h2) (Pt := fun l => slP l.length i ≠ 0 ∧ Qd (.tup (l.drop (slP l.length i))) h2) hK w2 sr2 (r1.mono s2)
    · refine ⟨i, rfl, .inl ⟨c, vs, rfl, sq, fun p hp => ?_⟩⟩
      have g := Grow.new (o := .lst (cutV vs (some i) none)) sr2.sh.sF hp
      have rc : Reps T F2 (l.drop (slP l.length i)) (cutV vs (some i) none) := by
        rw [cut_from, ← rl.length]
        exact rl.drop _
      exact k _ h2 _ _ _ (s1.trans (s2.trans g.f)) (sr2.grow g) (.lst (SqL.of upd_same) (rc.mono g.f)) w2
    · refine ⟨i, rfl, .inr ⟨c, vs, rfl, sq, fun z => ?_, fun p hp => ?_⟩⟩
      · refine w2 ?_
        rw [slP_eq] at z
        rw [rl.length]; exact z.1
      · have g := Grow.new (o := .tup (cutV vs (some i) none)) sr2.sh.sF hp
        have rc : Reps T F2 (l.drop (slP l.length i)) (cutV vs (some i) none) := by
          rw [cut_from, ← rl.length]
          exact rl.drop _
        exact k _ h2 _ _ _ (s1.trans (s2.trans g.f)) (sr2.grow g) (.tup (SqT.of upd_same) (rc.mono g.f)) w3
  | _ => exact False.elim w2
/-- an own list is read while it grows -/
theorem le_oidx {Γ : Gam} {i : Nat} {b : E} {x : Str} {eb : Expr} {px pos : Pos} (hK : X.K = T.K) (hN : X.N[i]? = some x) (hv : Vis X.env.scope x) (hd : (x == ("__debug__" : Str)) = false) (hcd : (x == ("__classdict__" : Str)) = false) (hb' : noSlice eb = true)
    (hb : PE X eb (LE T X RR (wpE Γ b))) : PE X (.Subscript (.Name x px) eb pos) (LE T X RR (wpE Γ (.oidx i b))) := by
  refine PE.imp (pe_ix ix_list (pe_var hN hv hd hcd) hb (ix_ok hb')) fun τ H Q ⟨F, G, σ, h, Qd, sr, w, k⟩ => ?_
  have w : (match σ.at i with
    | .own l => wpE Γ b σ h (fun y h => match y with
      | .int k => (match ixP l.length k with
        | some j => (match l[j]? with
          | some d => Qd d h
          | none => False)
        | none => False)
      | _ => False) (fun x h' => RR.R x σ h')
    | _ => False) := w
  cases e0 : σ.at i with
  | own l =>
    simp only [e0] at w
    have q0 := sr.slot i
    rw [e0] at q0
    obtain ⟨ad, vs, p1, p2, p3, p4, p5, rl⟩ := q0
    refine ⟨_, p1, F, G, σ, h, _, sr, w, fun d h1 v F1 H1 s1 sr1 r1 w1 => ?_⟩
    have q1 := sr1.slot i
    rw [e0] at q1
    obtain ⟨ad', us, p1', p2', p3', p4', p5', rl'⟩ := q1
    have : ad = ad' := by rw [p1] at p1'; exact V.ref.inj (Option.some.inj (Option.some.inj p1'))
    subst this
    cases r1 with
    | int =>
      rename_i j
      have w1 : (match ixP l.length j with
        | some j => (match l[j]? with
          | some d => Qd d h1
          | none => False)
        | none => False) := w1
      cases e2 : ixP l.length j with
      | none => simp only [e2] at w1
      | some n =>
        simp only [e2] at w1
        cases e3 : l[n]? with
        | none => simp only [e3] at w1
        | some d =>
          simp only [e3] at w1
          obtain ⟨z, e4, rz⟩ := rl'.get e3
          have e5 : atI us j = some z := by
            unfold atI
            have : ixN us.length j = some n := by rw [← rl'.length]; exact e2
            rw [this]
            exact e4
          exact ⟨ad, us, j, z, rfl, rfl, SqL.of p2', e5, k d h1 z F1 H1 s1 sr1 rz w1⟩
    | _ => exact False.elim w1
  | _ => rw [e0] at w; exact w.elim
/-- .. and its length -/
theorem le_olen {Γ : Gam} {i : Nat} {x : Str} {p px pos : Pos} (hK : X.K = T.K) (hg : Gl X "len") (hm : X.mg "len" = none) (hN : X.N[i]? = some x) (hv : Vis X.env.scope x) (hd : (x == ("__debug__" : Str)) = false) (hcd : (x == ("__classdict__" : Str)) = false) :
    PE X (.Call (.Name "len" p) [.Name x px] [] pos) (LE T X RR (wpE Γ (.olen i))) := by
  refine PE.imp (pe_callB call_len hg hm boot_len (pa_cons (pe_var (pos := px) hN hv hd hcd) pa_nil (star_cons (e := .Name x px) rfl)) (by decide) (by decide) (star_cons (e := .Name x px) rfl) rfl) fun τ H Q ⟨F, G, σ, h, Qd, sr, w, k⟩ => ?_
  have w : (match σ.at i with
    | .own l => Qd (.int l.length) h
    | _ => False) := w
  cases e0 : σ.at i with
  | own l =>
    rw [e0] at w
    have q0 := sr.slot i
    rw [e0] at q0
    obtain ⟨ad, vs, p1, p2, p3, p4, p5, rl⟩ := q0
    exact ⟨_, p1, _, _, rfl, .inl ⟨vs, SqL.of p2, rl.length⟩, k _ h _ F H (Same.refl _) sr .int w⟩
  | _ => rw [e0] at w; exact w.elim
theorem le_slOf {Γ : Gam} {a b c : E} {ea eb ec : Expr} {pos p2 : Pos} (hK : X.K = T.K) (ha : PE X ea (LE T X RR (wpE Γ a))) (hb : PE X eb (LE T X RR (wpE Γ b))) (hc : PE X ec (LE T X RR (wpE Γ c))) : PE X (.Subscript ea (.Slice (some eb) (some ec) none p2) pos) (LE T X RR (wpE Γ (.slOf a b c))) := by
  refine PE.imp (pe_slice sl_list ha (po_some hb) (po_some hc)) fun τ H Q ⟨F, G, σ, h, Qd, sr, w, k⟩ => ⟨F, G, σ, h, _, sr, w, fun dx h1 vx F1 H1 s1 sr1 r1 w1 => ⟨F1, G, σ, h1, _, sr1, w1, fun dy h2 vy F2 H2 s2 sr2 r2 w2 => ?_⟩⟩
  cases r2 with
  | int =>
    rename_i i
    refine ⟨i, rfl, F2, G, σ, h2, _, sr2, w2, fun dz h3 vz F3 H3 s3 sr3 r3 w3 => ?_⟩
    cases r3 with
    | int =>
      rename_i j
      obtain ⟨c, vs, l, rfl, sq, rl, w3⟩ := asL_of (P := fun l => Qd (.lst ((l.take (slP l.length j)).drop (slP l.length i))) h3) hK sr3 ((r1.mono s2).mono s3) w3
      refine ⟨j, rfl, c, vs, rfl, sq, fun p hp => ?_⟩
      have g := Grow.new (o := .lst (cutV vs (some i) (some j))) sr3.sh.sF hp
      have rc : Reps T F3 ((l.take (slP l.length j)).drop (slP l.length i)) (cutV vs (some i) (some j)) := by
        rw [cut_of, ← rl.length]
        exact (rl.take _).drop _
      exact k _ h3 _ _ _ (s1.trans (s2.trans (s3.trans g.f))) (sr3.grow g) (.lst (SqL.of upd_same) (rc.mono g.f)) w3
    | _ => exact False.elim w3
  | _ => exact False.elim w2
end
end FF

namespace FF
open PySem PySem.Spec PyProof.Rows L2

/-! ### what is walked -/
structure Gives (T : Tb) (F : Hp) (J : L2.It) (ds : List D) : Prop where
  go : ∀ i H, i < ds.length → Same F H → J.go i H
  yld : ∀ i H F1 x H' d, ds[i]? = some d → Same F F1 → Same F1 H → J.yld i H x H' → ∃ F', Grow F1 H F' H' ∧ Rep T F' d x
  stop : ∀ H, Same F H → J.stop ds.length H
theorem gives_list {T : Tb} {F : Hp} {a : Addr} {l : List D} {vs : List V} (s : SqL T.K F a vs) (r : Reps T F l vs) : Gives T F (Itl T.K a) l where
  go := fun i H hi sF => ⟨vs, vs[i]'(by rw [← r.length]; exact hi), sF.seq s, by simp⟩
  yld := fun i H F1 x H' d e s1 sF ⟨e1, e2⟩ => by
    subst e1
    obtain ⟨u, e3, ru⟩ := r.get e
    have := e2 vs ((s1.trans sF).seq s)
    rw [e3] at this
    cases this
    exact ⟨F1, Grow.refl sF, ru.mono s1⟩
  stop := fun H sF => ⟨vs, sF.seq s, by rw [r.length]; exact Nat.le_refl _⟩
theorem gives_tup {T : Tb} {F : Hp} {a : Addr} {l : List D} {vs : List V} (s : SqT T.K F a vs) (r : Reps T F l vs) : Gives T F (Itt T.K a) l where
  go := fun i H hi sF => ⟨vs, vs[i]'(by rw [← r.length]; exact hi), Same.sqt sF s, by simp⟩
  yld := fun i H F1 x H' d e s1 sF ⟨e1, e2⟩ => by
    subst e1
    obtain ⟨u, e3, ru⟩ := r.get e
    have := e2 vs (Same.sqt (s1.trans sF) s)
    rw [e3] at this
    cases this
    exact ⟨F1, Grow.refl sF, ru.mono s1⟩
  stop := fun H sF => ⟨vs, Same.sqt sF s, by rw [r.length]; exact Nat.le_refl _⟩
theorem gives_rng {T : Tb} {F : Hp} {lo : Int} {n : Nat} : Gives T F (Itr lo n) (rangeL lo n) where
  go := fun i H hi sF => by
    have : (rangeL lo n).length = n := by simp [rangeL]
    rw [this] at hi; exact hi
  yld := fun i H F1 x H' d e s1 sF ⟨e1, e2⟩ => by
    subst e1 e2
    have : d = .int (lo + i) := by
      unfold rangeL at e
      rw [List.getElem?_map] at e
      cases q : (List.range n)[i]? with
      | none => rw [q] at e; cases e
      | some j =>
        rw [q] at e
        have : j = i := by
          obtain ⟨h1, h2⟩ := List.getElem?_eq_some_iff.mp q
          rw [List.getElem_range] at h2; exact h2.symm
        subst this
        exact (Option.some.inj e).symm
    subst this
    exact ⟨F1, Grow.refl sF, .int⟩
  stop := fun H sF => by
    have : (rangeL lo n).length = n := by simp [rangeL]
    rw [this]; exact Nat.le_refl _
theorem gives_enum {T : Tb} {F : Hp} {a : Addr} {l : List D} {vs : List V} (s : SqL T.K F a vs) (r : Reps T F l vs) : Gives T F (Ite T.K a) (enumD l) where
  go := fun i H hi sF => by
    have e : (enumD l).length = l.length := by simp [enumD, List.length_zipWith]
    rw [e, r.length] at hi
    exact ⟨vs, vs[i], sF.seq s, by simp⟩
  yld := fun i H F1 x H' d e s1 sF ⟨p, y, e1, n, e2, e3⟩ => by
    subst e1 e2
    unfold enumD at e
    rw [List.getElem?_zipWith] at e
    cases q : l[i]? with
    | none => rw [q] at e; cases q2 : (List.range l.length)[i]? <;> (rw [q2] at e; cases e)
    | some z =>
      obtain ⟨h1, _⟩ := List.getElem?_eq_some_iff.mp q
      have q2 : (List.range l.length)[i]? = some i := by rw [List.getElem?_range h1]
      rw [q, q2] at e
      cases e
      obtain ⟨u, e4, ru⟩ := r.get q
      have := e3 vs ((s1.trans sF).seq s)
      rw [e4] at this
      cases this
      have g := Grow.new (o := .tup [.int (i : Nat), y]) sF n
      exact ⟨_, g, .tup (SqT.of upd_same) (.cons .int (.cons ((ru.mono s1).mono g.f) .nil))⟩
  stop := fun H sF => by
    have e : (enumD l).length = l.length := by simp [enumD, List.length_zipWith]
    rw [e, r.length]
    exact ⟨vs, sF.seq s, Nat.le_refl _⟩
theorem gives_zip {T : Tb} {F : Hp} {a b : Addr} {l m : List D} {vs us : List V} (s : SqL T.K F a vs) (r : Reps T F l vs) (s' : SqL T.K F b us) (r' : Reps T F m us) : Gives T F (Itz T.K a b) (zipD l m) where
  go := fun i H hi sF => by
    have e : (zipD l m).length = min l.length m.length := by simp [zipD, List.length_zipWith]
    rw [e, r.length, r'.length] at hi
    exact ⟨vs, us, vs[i]'(by omega), us[i]'(by omega), sF.seq s, sF.seq s', by simp, by simp⟩
  yld := fun i H F1 x H' d e s1 sF ⟨p, y, y', e1, n, e2, e3, e3'⟩ => by
    subst e1 e2
    unfold zipD at e
    rw [List.getElem?_zipWith] at e
    cases q : l[i]? with
    | none => rw [q] at e; cases e
    | some z =>
      cases q' : m[i]? with
      | none => rw [q, q'] at e; cases e
      | some z' =>
        rw [q, q'] at e
        cases e
        obtain ⟨u, e4, ru⟩ := r.get q
        obtain ⟨u', e4', ru'⟩ := r'.get q'
        have := e3 vs ((s1.trans sF).seq s)
        rw [e4] at this
        cases this
        have := e3' us ((s1.trans sF).seq s')
        rw [e4'] at this
        cases this
        have g := Grow.new (o := .tup [y, y']) sF n
        exact ⟨_, g, .tup (SqT.of upd_same) (.cons ((ru.mono s1).mono g.f) (.cons ((ru'.mono s1).mono g.f) .nil))⟩
  stop := fun H sF => by
    have e : (zipD l m).length = min l.length m.length := by simp [zipD, List.length_zipWith]
    rw [e, r.length, r'.length]
    refine ⟨vs, us, sF.seq s, sF.seq s', ?_⟩
    omega
def LI (T : Tb) (X : Cx) (RR : RRt) (w : Env → AH → (List D → AH → Prop) → RE → Prop) : TI := fun τ H R =>
  ∃ F G σ h Kd, SR T (RR.lk X) F G σ h τ H ∧ w σ h Kd (fun x h' => RR.R x σ h') ∧ ∀ ds h' J F' H', Same F F' → SR T (RR.lk X) F' G σ h' τ H' → Gives T F' J ds → Kd ds h' → R J H'
section
variable {X : Cx} {T : Tb} {RR : RRt} {tg : Expr}
def iSeq (K : PySem.W.Frag) (tl : TE) : TI := fun σ H R => tl σ H fun x H1 => ∃ a, x = .ref a ∧ (((∃ xs, SqL K H1 a xs) ∧ R (Itl K a) H1) ∨ ((∃ xs, SqT K H1 a xs) ∧ R (Itt K a) H1))
theorem pi_seq {l : Expr} {tl : TE} (hl : PE X l tl) : PI X tg l (iSeq X.K tl) := by
  refine ⟨fun pins s σ H R I h => ?_⟩
  refine thn (hl.run pins s σ H _ I h) fun v s1 ⟨x, H1, I1, r1, q1⟩ => ?_
  obtain ⟨a, e, q⟩ := q1
  subst e
  cases r1
  rcases q with ⟨⟨xs, hq⟩, q⟩ | ⟨⟨xs, hq⟩, q⟩
  · obtain ⟨its, rv, p, hz⟩ := I1.list hq
    refine wpAny_pyIter_list p.isList ?_
    refine ⟨s1.heap.objs.size, [s1.heap.objs.size], _, _, H1, rfl, I1.kept (t' := s1.toks) fun b o e => Heap.get?_push_of_some _ e, turn_list a _, ⟨_, Heap.get?_push_size _ rfl, rfl, rfl⟩, fun b hb => ?_, q⟩
    have e : b = s1.heap.objs.size := by simpa using hb
    subst e
    exact I1.fpOk (Nat.le_refl _) (I1.hok.fresh (Nat.le_refl _))
  · obtain ⟨its, rv, p, hz⟩ := I1.tuple hq
    refine wpAny_pyIter_tuple (show s1.heap.IsTuple a its.toArray from p) ?_
    refine ⟨s1.heap.objs.size, [s1.heap.objs.size], _, _, H1, rfl, I1.kept (t' := s1.toks) fun b o e => Heap.get?_push_of_some _ e, turn_tuple a _, ⟨_, Heap.get?_push_size _ rfl, rfl, rfl⟩, fun b hb => ?_, q⟩
    have e : b = s1.heap.objs.size := by simpa using hb
    subst e
    exact I1.fpOk (Nat.le_refl _) (I1.hok.fresh (Nat.le_refl _))
theorem PI.imp {e : Expr} {t t' : TI} (p : PI X tg e t) (h : ∀ τ H Q, t' τ H Q → t τ H Q) : PI X tg e t' := ⟨fun pins s τ H Q I q => p.run pins s τ H Q I (h τ H Q q)⟩
theorem li_seq {Γ : Gam} {a : E} {e : Expr} (hK : X.K = T.K) (ha : PE X e (LE T X RR (wpE Γ a))) : PI X tg e (LI T X RR (wpI Γ (.seq a))) := by
  refine PI.imp (pi_seq ha) fun τ H Q ⟨F, G, σ, h, Kd, sr, w, k⟩ => ⟨F, G, σ, h, _, sr, w, fun d h1 v F1 H1 s1 sr1 r1 w1 => ?_⟩
  cases r1 with
  | lst sq rl => exact ⟨_, rfl, .inl ⟨⟨_, hK ▸ sr1.sh.sF.seq sq⟩, k _ h1 _ F1 H1 s1 sr1 (hK ▸ gives_list sq rl) w1⟩⟩
  | tup sq rl => exact ⟨_, rfl, .inr ⟨⟨_, hK ▸ Same.sqt sr1.sh.sF sq⟩, k _ h1 _ F1 H1 s1 sr1 (hK ▸ gives_tup sq rl) w1⟩⟩
  | _ => exact False.elim w1
theorem star1 {e : Expr} {env : PySem.Env} (h : noStar e = true) : starEach [e] env = [(false, eval e env)] := by rw [star_cons h]; rfl
theorem li_rng1 {Γ : Gam} {a : E} {e : Expr} {p pos : Pos} (hg : Gl X "range") (hm : X.mg "range" = none) (hs : noStar e = true) (ha : PE X e (LE T X RR (wpE Γ a))) : PI X tg (.Call (.Name "range" p) [e] [] pos) (LI T X RR (wpI Γ (.rng1 a))) := by
  refine PI.imp (pi_range1A hg hm (la_cons hs ha (la_nil (Γ := Γ))) (star1 hs)) fun τ H Q ⟨F, G, σ, h, Kd, sr, w, k⟩ => ?_
  refine ⟨F, G, σ, h, (fun ds h => match ds with | [.int j] => okR j ∧ Kd (rangeL 0 j.toNat) h | _ => False), sr, ?_, fun ds h1 vs F1 H1 _ s1 sr1 r1 w1 => ?_⟩
  · have w : wpE Γ a σ h (fun x h => match x with
      | .int j => okR j ∧ Kd (rangeL 0 j.toNat) h
      | _ => False) (fun x h' => RR.R x σ h') := w
    have e : (fun (x : D) (h : AH) => wpEs Γ .nil σ h (fun xs h => (match x :: xs with | [.int j] => okR j ∧ Kd (rangeL 0 j.toNat) h | _ => False)) (fun x h' => RR.R x σ h')) = (fun x h => match x with
      | .int j => okR j ∧ Kd (rangeL 0 j.toNat) h
      | _ => False) := by
      funext x h
      cases x <;> rfl
    show wpE Γ a σ h (fun x h => wpEs Γ .nil σ h (fun xs h => (match x :: xs with | [.int j] => okR j ∧ Kd (rangeL 0 j.toNat) h | _ => False)) (fun x h' => RR.R x σ h')) (fun x h' => RR.R x σ h')
    rw [e]; exact w
  · dsimp only at w1
    split at w1
    · cases r1 with
      | cons r r' =>
        cases r'
        cases r
        exact ⟨_, rfl, k _ h1 _ F1 H1 s1 sr1 gives_rng w1.2⟩
    · exact w1.elim
theorem li_rng2 {Γ : Gam} {a b : E} {e e2 : Expr} {p pos : Pos} (hg : Gl X "range") (hm : X.mg "range" = none) (hs : noStar e = true) (hs2 : noStar e2 = true) (ha : PE X e (LE T X RR (wpE Γ a))) (hb : PE X e2 (LE T X RR (wpE Γ b))) : PI X tg (.Call (.Name "range" p) [e, e2] [] pos) (LI T X RR (wpI Γ (.rng2 a b))) := by
  refine PI.imp (pi_range2A hg hm (la_cons hs ha (la_cons hs2 hb (la_nil (Γ := Γ)))) (by rw [star_cons hs, star1 hs2]) (star1 hs2)) fun τ H Q ⟨F, G, σ, h, Kd, sr, w, k⟩ => ?_
  refine ⟨F, G, σ, h, (fun ds h => match ds with | [.int i, .int j] => okR i ∧ okR j ∧ Kd (rangeL i (j - i).toNat) h | _ => False), sr, ?_, fun ds h1 vs F1 H1 _ s1 sr1 r1 w1 => ?_⟩
  · have w : wpE Γ a σ h (fun x h => wpE Γ b σ h (fun y h => match x, y with
      | .int i, .int j => okR i ∧ okR j ∧ Kd (rangeL i (j - i).toNat) h
      | _, _ => False) (fun x h' => RR.R x σ h')) (fun x h' => RR.R x σ h') := w
    have e : ∀ x : D, (fun (y : D) (h : AH) => wpEs Γ .nil σ h (fun xs h => (match x :: y :: xs with | [.int i, .int j] => okR i ∧ okR j ∧ Kd (rangeL i (j - i).toNat) h | _ => False)) (fun x h' => RR.R x σ h')) = (fun y h => match x, y with
      | .int i, .int j => okR i ∧ okR j ∧ Kd (rangeL i (j - i).toNat) h
      | _, _ => False) := by
      intro x
      funext y h
      cases x <;> cases y <;> rfl
    show wpE Γ a σ h (fun x h => wpE Γ b σ h (fun y h => wpEs Γ .nil σ h (fun xs h => (match x :: y :: xs with | [.int i, .int j] => okR i ∧ okR j ∧ Kd (rangeL i (j - i).toNat) h | _ => False)) (fun x h' => RR.R x σ h')) (fun x h' => RR.R x σ h')) (fun x h' => RR.R x σ h')
    simp only [e]
    exact w
  · dsimp only at w1
    split at w1
    · cases r1 with
      | cons r r' =>
        cases r' with
        | cons r'' r' =>
          cases r'
          cases r
          cases r''
          exact ⟨_, _, rfl, k _ h1 _ F1 H1 s1 sr1 gives_rng w1.2.2⟩
    · exact w1.elim
theorem li_enum {Γ : Gam} {a : E} {e : Expr} {p pos tpos : Pos} {elts : List Expr} {kk : Nat} (hK : X.K = T.K) (hg : Gl X "enumerate") (hm : X.mg "enumerate" = none) (hs : noStar e = true) (ha : PE X e (LE T X RR (wpE Γ a))) : PI X (.Tuple elts kk tpos) (.Call (.Name "enumerate" p) [e] [] pos) (LI T X RR (wpI Γ (.enum a))) := by
  refine PI.imp (pi_enum hg hm (la_cons hs ha (la_nil (Γ := Γ))) (star1 hs)) fun τ H Q ⟨F, G, σ, h, Kd, sr, w, k⟩ => ?_
  refine ⟨F, G, σ, h, (fun ds h => match ds with | [.lst l] => Kd (enumD l) h | _ => False), sr, ?_, fun ds h1 vs F1 H1 _ s1 sr1 r1 w1 => ?_⟩
  · have w : wpE Γ a σ h (fun x h => match x with
      | .lst l => Kd (enumD l) h
      | _ => False) (fun x h' => RR.R x σ h') := w
    have e : (fun (x : D) (h : AH) => wpEs Γ .nil σ h (fun xs h => (match x :: xs with | [.lst l] => Kd (enumD l) h | _ => False)) (fun x h' => RR.R x σ h')) = (fun x h => match x with
      | .lst l => Kd (enumD l) h
      | _ => False) := by
      funext x h
      cases x <;> rfl
    show wpE Γ a σ h (fun x h => wpEs Γ .nil σ h (fun xs h => (match x :: xs with | [.lst l] => Kd (enumD l) h | _ => False)) (fun x h' => RR.R x σ h')) (fun x h' => RR.R x σ h')
    rw [e]; exact w
  · dsimp only at w1
    split at w1
    · cases r1 with
      | cons r r' =>
        cases r'
        cases r with
        | lst sq rl => exact ⟨_, _, rfl, hK ▸ sr1.sh.sF.seq sq, k _ h1 _ F1 H1 s1 sr1 (hK ▸ gives_enum sq rl) w1⟩
    · exact w1.elim
theorem li_zip {Γ : Gam} {a b : E} {e e2 : Expr} {p pos tpos : Pos} {elts : List Expr} {kk : Nat} (hK : X.K = T.K) (hg : Gl X "zip") (hm : X.mg "zip" = none) (hs : noStar e = true) (hs2 : noStar e2 = true) (ha : PE X e (LE T X RR (wpE Γ a))) (hb : PE X e2 (LE T X RR (wpE Γ b))) : PI X (.Tuple elts kk tpos) (.Call (.Name "zip" p) [e, e2] [] pos) (LI T X RR (wpI Γ (.zip a b))) := by
  refine PI.imp (pi_zip hg hm (la_cons hs ha (la_cons hs2 hb (la_nil (Γ := Γ)))) (star_cons hs) (star_any (es := [e2]) (by simp [hs2]))) fun τ H Q ⟨F, G, σ, h, Kd, sr, w, k⟩ => ?_
  refine ⟨F, G, σ, h, (fun ds h => match ds with | [.lst l, .lst m] => Kd (zipD l m) h | _ => False), sr, ?_, fun ds h1 vs F1 H1 _ s1 sr1 r1 w1 => ?_⟩
  · have w : wpE Γ a σ h (fun x h => wpE Γ b σ h (fun y h => match x, y with
      | .lst l, .lst m => Kd (zipD l m) h
      | _, _ => False) (fun x h' => RR.R x σ h')) (fun x h' => RR.R x σ h') := w
    have e : ∀ x : D, (fun (y : D) (h : AH) => wpEs Γ .nil σ h (fun xs h => (match x :: y :: xs with | [.lst l, .lst m] => Kd (zipD l m) h | _ => False)) (fun x h' => RR.R x σ h')) = (fun y h => match x, y with
      | .lst l, .lst m => Kd (zipD l m) h
      | _, _ => False) := by
      intro x
      funext y h
      cases x <;> cases y <;> rfl
    show wpE Γ a σ h (fun x h => wpE Γ b σ h (fun y h => wpEs Γ .nil σ h (fun xs h => (match x :: y :: xs with | [.lst l, .lst m] => Kd (zipD l m) h | _ => False)) (fun x h' => RR.R x σ h')) (fun x h' => RR.R x σ h')) (fun x h' => RR.R x σ h')
    simp only [e]
    exact w
  · dsimp only at w1
    split at w1
    · cases r1 with
      | cons r r' =>
        cases r' with
        | cons r'' r' =>
          cases r'
          cases r with
          | lst sq rl =>
            cases r'' with
            | lst sq' rl' => exact ⟨_, _, _, _, rfl, hK ▸ sr1.sh.sF.seq sq, hK ▸ sr1.sh.sF.seq sq', k _ h1 _ F1 H1 s1 sr1 (hK ▸ gives_zip sq rl sq' rl') w1⟩
    · exact w1.elim
end
/-! ### targets -/
def LG (T : Tb) (pn : List (Addr × Obj)) (vs : List Nat) (w : D → Env → (Env → Prop) → Prop) : TG := fun v τ H Q => ∃ F0 G0 F G σ h d Kd, SR T ⟨pn, F0, G0⟩ F G σ h τ H ∧ Rep T F d v ∧ w d σ Kd ∧
  ∀ σ' τ', SR T ⟨pn, F0, G0⟩ F G σ' h τ' H → τ'.length = τ.length → (∀ i, i ∉ vs → τ'[i]? = τ[i]?) → Kd σ' → Q τ' H
def LGs (T : Tb) (pn : List (Addr × Obj)) (vs : List Nat) (w : List D → Env → (Env → Prop) → Prop) : TGs := fun us τ H Q => ∃ F0 G0 F G σ h ds Kd, SR T ⟨pn, F0, G0⟩ F G σ h τ H ∧ Reps T F ds us ∧ w ds σ Kd ∧
  ∀ σ' τ', SR T ⟨pn, F0, G0⟩ F G σ' h τ' H → τ'.length = τ.length → (∀ i, i ∉ vs → τ'[i]? = τ[i]?) → Kd σ' → Q τ' H
def Tgs.len : Tgs → Nat
  | .nil => 0
  | .cons _ ts => Tgs.len ts + 1
mutual
theorem bindT_mono : ∀ (t : Tg) (d : D) (σ : Env) (K K' : Env → Prop), (∀ σ', K σ' → K' σ') → bindT t d σ K → bindT t d σ K'
  | .name _, _, _, _, _, hk, h => hk _ h
  | .tup ts, d, σ, K, K', hk, h => by
    cases d with
    | tup l => exact bindTs_mono ts l σ K K' hk h
    | lst l => exact bindTs_mono ts l σ K K' hk h
    | _ => exact h.elim
theorem bindTs_mono : ∀ (ts : Tgs) (l : List D) (σ : Env) (K K' : Env → Prop), (∀ σ', K σ' → K' σ') → bindTs ts l σ K → bindTs ts l σ K'
  | .nil, l, σ, K, K', hk, h => by
    cases l with
    | nil => exact hk _ h
    | cons _ _ => exact h.elim
  | .cons t ts, l, σ, K, K', hk, h => by
    cases l with
    | nil => exact h.elim
    | cons d r => exact bindT_mono t d σ _ _ (fun σ' h' => bindTs_mono ts r σ' K K' hk h') h
end
mutual
theorem bindT_dead : ∀ (t : Tg) (d : D) (σ : Env), ¬ bindT t d σ (fun _ => False)
  | .name _, _, _, h => h
  | .tup ts, d, σ, h => by
    cases d with
    | tup l => exact bindTs_dead ts l σ h
    | lst l => exact bindTs_dead ts l σ h
    | _ => exact h.elim
theorem bindTs_dead : ∀ (ts : Tgs) (l : List D) (σ : Env), ¬ bindTs ts l σ (fun _ => False)
  | .nil, l, σ, h => by
    cases l with
    | nil => exact h
    | cons _ _ => exact h.elim
  | .cons t ts, l, σ, h => by
    cases l with
    | nil => exact h.elim
    | cons d r => exact bindT_dead t d σ (bindT_mono t d σ _ _ (fun σ' h' => bindTs_dead ts r σ' h') h)
end
theorem bindTs_len : ∀ {l : List D} {ts : Tgs} {σ : Env} {K : Env → Prop}, bindTs ts l σ K → l.length = ts.len
  | [], .nil, _, _, _ => rfl
  | [], .cons _ _, _, _, h => h.elim
  | _ :: _, .nil, _, _, h => h.elim
  | d :: r, .cons t ts, σ, K, h => by
    refine congrArg (· + 1) ?_
    apply Classical.byContradiction
    intro hne
    exact bindT_dead t d σ (bindT_mono t d σ _ _ (fun σ' h' => hne (bindTs_len h')) h)
theorem each_none : ∀ {es : List Expr} {env : PySem.Env}, es.all noStar = true → (assignEach es env).length = es.length ∧ (assignEach es env).findIdx? (·.1) = none
  | [], _, _ => ⟨rfl, rfl⟩
  | e :: es, env, h => by
    rw [List.all_cons, Bool.and_eq_true] at h
    have e1 : assignEach (e :: es) env = (false, assign e env) :: assignEach es env := by
      have h1 := h.1
      cases e <;> first | rfl | cases h1
    obtain ⟨h1, h2⟩ := each_none (es := es) (env := env) h.2
    rw [e1]
    refine ⟨by rw [List.length_cons, h1]; rfl, ?_⟩
    rw [List.findIdx?_cons, h2]
    rfl
section
variable {X : Cx} {T : Tb} {vs : List Nat}
theorem PG.imp {e : Expr} {t t' : TG} (p : PG X e t) (h : ∀ v τ H Q, t' v τ H Q → t v τ H Q) : PG X e t' := ⟨fun pins s τ H v u Q I r q => p.run pins s τ H v u Q I r (h v τ H Q q)⟩
theorem PG.or {e : Expr} {t t' : TG} (p : PG X e t) (p' : PG X e t') : PG X e (fun v τ H Q => t v τ H Q ∨ t' v τ H Q) := ⟨fun pins s τ H v u Q I r q => q.elim (p.run pins s τ H v u Q I r) (p'.run pins s τ H v u Q I r)⟩
theorem PGs.imp {e : List Expr} {t t' : TGs} (p : PGs X e t) (h : ∀ v τ H Q, t' v τ H Q → t v τ H Q) : PGs X e t' := ⟨fun pins s τ H v u Q I r q => p.run pins s τ H v u Q I r (h v τ H Q q)⟩
theorem lg_name {i : Nat} {x : Str} {pos : Pos} (hN : X.N.Nodup) (hi : X.N[i]? = some x) (hx : Loc X.env.scope x) (hf : X.fn x = true ∨ X.env.scope.names.lookup x = some .local) (hv : i ∈ vs) : PG X (.Name x pos) (LG T X.pn vs (bindT (.name i))) :=
  PG.imp (pg_name hN hi hx hf) fun v τ H Q ⟨F0, G0, F, G, σ, h, d, Kd, sr, r, w, k⟩ => k _ _ (sr.store r) (by rw [List.length_set]) (fun j hj => by
    rw [List.getElem?_set_ne (fun e => by subst e; exact hj hv)]) w
theorem lgs_nil : PGs X [] (LGs T X.pn vs (bindTs .nil)) :=
  PGs.imp pgs_nil fun us τ H Q ⟨F0, G0, F, G, σ, h, ds, Kd, sr, r, w, k⟩ => by
    cases r with
    | nil => exact ⟨rfl, k σ τ sr rfl (fun _ _ => rfl) w⟩
    | cons _ _ => exact w.elim
theorem lgs_cons {t : Tg} {ts : Tgs} {e : Expr} {es : List Expr} (hs : noStar e = true) (h1 : PG X e (LG T X.pn vs (bindT t))) (h2 : PGs X es (LGs T X.pn vs (bindTs ts))) : PGs X (e :: es) (LGs T X.pn vs (bindTs (.cons t ts))) := by
  refine PGs.imp (pgs_cons h1 h2 (by cases e <;> first | rfl | cases hs)) fun us τ H Q ⟨F0, G0, F, G, σ, h, ds, Kd, sr, r, w, k⟩ => ?_
  cases r with
  | nil => exact w.elim
  | cons r rr =>
    exact ⟨_, _, rfl, F0, G0, F, G, σ, h, _, _, sr, r, w, fun σ1 τ1 sr1 l1 a1 w1 => ⟨F0, G0, F, G, σ1, h, _, Kd, sr1, rr, w1, fun σ2 τ2 sr2 l2 a2 w2 => k σ2 τ2 sr2 (l2.trans l1) (fun i hi => (a2 i hi).trans (a1 i hi)) w2⟩⟩
theorem lg_tup {ts : Tgs} {es : List Expr} {kk : Nat} {pos : Pos} (hK : X.K = T.K) (hc : X.calm = true) (hs : es.all noStar = true) (hl : es.length = ts.len) (h : PGs X es (LGs T X.pn vs (bindTs ts))) : PG X (.Tuple es kk pos) (LG T X.pn vs (bindT (.tup ts))) := by
  refine PG.imp (PG.or (pg_tup (n := ts.len) hc h ((each_none hs).1.trans hl) (each_none hs).2) (pg_unl (n := ts.len) hc h ((each_none hs).1.trans hl) (each_none hs).2)) fun v τ H Q ⟨F0, G0, F, G, σ, h, d, Kd, sr, r, w, k⟩ => ?_
  cases r with
  | tup sq rl => exact .inl ⟨_, _, rfl, hK ▸ Same.sqt sr.sh.sF sq, by rw [← rl.length]; exact bindTs_len w, F0, G0, F, G, σ, h, _, Kd, sr, rl, w, k⟩
  | lst sq rl => exact .inr ⟨_, _, rfl, hK ▸ sr.sh.sF.seq sq, by rw [← rl.length]; exact bindTs_len w, F0, G0, F, G, σ, h, _, Kd, sr, rl, w, k⟩
  | _ => exact w.elim
end
/-! ### comprehensions -/
theorem wipe_in {σ : L2.St} {i : Nat} (hi : i < σ.length) : ∀ {vs : List Nat}, i ∈ vs → (L2.wipe σ vs)[i]? = some none
  | [], h => by cases h
  | v :: vs, h => by
    unfold L2.wipe
    by_cases e : v = i
    · subst e
      rw [List.getElem?_set_self (by rw [L2.wipe_length]; exact hi)]
    · rw [List.getElem?_set_ne e]
      exact wipe_in hi ((List.mem_cons.mp h).resolve_left (fun z => e z.symm))
theorem wipe_ext {σ τ : L2.St} {vs : List Nat} (hl : τ.length = σ.length) (h : ∀ i, i ∉ vs → τ[i]? = (L2.wipe σ vs)[i]?) : L2.wipe τ vs = L2.wipe σ vs := by
  apply List.ext_getElem?
  intro i
  by_cases hi : i ∈ vs
  · by_cases hl' : i < σ.length
    · rw [wipe_in hl' hi, wipe_in (hl ▸ hl') hi]
    · rw [List.getElem?_eq_none (by rw [L2.wipe_length]; omega), List.getElem?_eq_none (by rw [L2.wipe_length]; omega)]
  · rw [L2.wipe_out hi]; exact h i hi
/-- the tests' reading -/
def LTs (T : Tb) (pn : List (Addr × Obj)) (w : Env → AH → (Bool → AH → Prop) → Prop) : TT := fun τ H Q => ∃ F0 G0 F G σ h Kd, SR T ⟨pn, F0, G0⟩ F G σ h τ H ∧ w σ h Kd ∧ ∀ k h' F' H', Same F F' → SR T ⟨pn, F0, G0⟩ F' G σ h' τ H' → Kd k h' → Q k H'
section
variable {X : Cx} {T : Tb} {RR : RRt} {tg : Expr}
theorem PTs.imp {e : List Expr} {t t' : TT} (p : PTs X e t) (h : ∀ τ H Q, t' τ H Q → t τ H Q) : PTs X e t' := ⟨fun pins s τ H Q I q => p.run pins s τ H Q I (h τ H Q q)⟩
theorem lts_nil {Γ : Gam} : PTs X [] (LTs T X.pn (wpT Γ .nil)) :=
  PTs.imp pts_nil fun τ H Q ⟨F0, G0, F, G, σ, h, Kd, sr, w, k⟩ => k true h F H (Same.refl _) sr w
theorem PT.ex {α : Type} {e : Expr} {t : α → TT} (h : ∀ a, PT X e (t a)) : PT X e (fun τ H Q => ∃ a, t a τ H Q) := ⟨fun pins s τ H Q I ⟨a, q⟩ => (h a).run pins s τ H Q I q⟩
theorem PE.ex {α : Type} {e : Expr} {t : α → TE} (h : ∀ a, PE X e (t a)) : PE X e (fun τ H Q => ∃ a, t a τ H Q) := ⟨fun pins s τ H Q I ⟨a, q⟩ => (h a).run pins s τ H Q I q⟩
theorem lts_one {Γ : Gam} {c : E} {e : Expr} (h : ∀ F0 G0, PT X e (LT T X ⟨F0, G0, fun _ _ _ => False⟩ (wpE Γ c))) : PTs X [e] (LTs T X.pn (wpT Γ (.cons c .nil))) :=
  PTs.imp (pts_one (PT.ex (α := Hp × Hp) fun a => h a.1 a.2)) fun τ H Q ⟨F0, G0, F, G, σ, h, Kd, sr, w, k⟩ => ⟨(F0, G0), F, G, σ, h, Kd, sr, w, k⟩
/-- what a comprehension's rule asks, from ours -/
def LE0 (T : Tb) (w : Env → AH → QE → RE → Prop) : TE := fun τ H Q =>
  ∃ a : Hp × Hp, ∃ F G σ h Qd, SR T ⟨[], a.1, a.2⟩ F G σ h τ H ∧ w σ h Qd (fun _ _ => False) ∧ ∀ d h' v F' H', Same F F' → SR T ⟨[], a.1, a.2⟩ F' G σ h' τ H' → Rep T F' d v → Qd d h' → Q v H'
abbrev cStep (Γ : Gam) (t : Tg) (c : Es) (e : E) (own : List Nat) (σ : Env) : D → AH → (Option D → AH → Prop) → Prop :=
  fun d h K => bindT t d (σ.nox.wipe own) fun σ' => wpT Γ c σ' h (fun k h => if k = true then wpE Γ e σ' h (fun y h => K (some y) h) (fun _ _ => False) else K none h)
theorem lc_go {Γ : Gam} {t : Tg} {it : FF.It} {c : Es} {e : E} {own : List Nat} {τ : L2.St} {H : Hp} {Q : VK} (h : LE T X RR (wpE Γ (.comp t it c e own)) τ H Q) :
    tLc (LI T X RR (wpI Γ it)) (LG T [] own (bindT t)) (LTs T [] (wpT Γ c)) (LE0 T (wpE Γ e)) own τ H Q := by
  obtain ⟨F, G, σ, h, Qd, sr, w, k⟩ := h
  have w : wpI Γ it σ h (fun ds h => loopC (cStep Γ t c e own σ) ds [] h fun l h => Qd (.lst l) h) (fun x h' => RR.R x σ h') := w
  refine ⟨F, G, σ, h, _, sr, w, fun ds h1 J F1 H1 s1 sr1 gv w1 L hL => ?_⟩
  obtain ⟨G0, sh0, back⟩ := sr1.call
  have nG : G0 L = none := sh0.sG.free hL
  refine ⟨fun i m H2 => ∃ F2 h2 acc av, m = ds.length - i ∧ i ≤ ds.length ∧ Same F1 F2 ∧ SH T F2 (upd G0 L (.lst av)) h2 H2 ∧ Reps T F2 acc av ∧ loopC (cStep Γ t c e own σ) (ds.drop i) acc h2 fun l h => Qd (.lst l) h, ⟨ds.length, F1, h1, [], [], by simp, Nat.zero_le _, Same.refl _, sh0.hide hL, .nil, w1⟩, ?_⟩
  rintro i m H2 ⟨F2, h2, acc, av, rfl, hi, s2, sh2, ra, w2⟩
  have hD : H2 L = some (.lst av) := sh2.sG _ _ upd_same
  by_cases hlt : i < ds.length
  · refine .inr ⟨gv.go i H2 hlt (s2.trans sh2.sF), fun H3 => ∃ F2 h2 acc av, i + 1 ≤ ds.length ∧ Same F1 F2 ∧ SH T F2 (upd G0 L (.lst av)) h2 H3 ∧ Reps T F2 acc av ∧ loopC (cStep Γ t c e own σ) (ds.drop (i + 1)) acc h2 fun l h => Qd (.lst l) h,
      fun H' ⟨F3, h3, acc3, av3, q1, q2, q3, q4, q5⟩ => ⟨ds.length - (i + 1), by omega, F3, h3, acc3, av3, rfl, q1, q2, q3, q4, q5⟩, fun x H' y => ?_⟩
    obtain ⟨F3, g3, rx⟩ := gv.yld i H2 F2 x H' ds[i] (by simp [hlt]) s2 sh2.sF y
    have sh3 := sh2.grow g3
    have e1 : ds.drop i = ds[i] :: ds.drop (i + 1) := by rw [List.drop_eq_getElem_cons hlt]
    rw [e1] at w2
    have sr3 : SR T ⟨[], F3, upd G0 L (.lst av)⟩ F3 (upd G0 L (.lst av)) (σ.nox.wipe own) h2 (L2.wipe τ own) H' := (sr1.nox (s2.trans g3.f) sh3).wipe own
    have w3 : bindT t ds[i] (σ.nox.wipe own) (fun σ' => wpT Γ c σ' h2 (fun k h => if k = true then wpE Γ e σ' h (fun y h => acc.length < SL ∧ loopC (cStep Γ t c e own σ) (ds.drop (i + 1)) (acc ++ [y]) h fun l h => Qd (.lst l) h) (fun _ _ => False) else loopC (cStep Γ t c e own σ) (ds.drop (i + 1)) acc h fun l h => Qd (.lst l) h)) := w2
    refine ⟨_, _, F3, _, _, h2, ds[i], _, sr3, rx, w3, fun σ4 τ4 sr4 l4 a4 w4 => ⟨?_, _, _, F3, _, σ4, h2, _, sr4, w4, fun b h5 F5 H5 s5 sr5 w5 => ?_⟩⟩
    · exact wipe_ext (by rw [l4, L2.wipe_length]) a4
    · cases b with
      | false =>
        exact ⟨F5, h5, acc, av, hlt, (s2.trans g3.f).trans s5, sr5.sh, (ra.mono g3.f).mono s5, w5⟩
      | true =>
        refine ⟨(_, _), F5, _, σ4, h5, _, sr5, w5, fun d h6 v F6 H6 s6 sr6 r6 w6 => ?_⟩
        have hD6 : H6 L = some (.lst av) := sr6.sh.sG _ _ upd_same
        refine ⟨av, hD6, by rw [← ra.length, ← SL_eq]; exact w6.1, F6, h6, acc ++ [d], av ++ [v], hlt, ((s2.trans g3.f).trans s5).trans s6, sr6.sh.hidw, (((ra.mono g3.f).mono s5).mono s6).append (.one r6), w6.2⟩
  · have ei : i = ds.length := by omega
    subst ei
    refine .inl ⟨gv.stop H2 (s2.trans sh2.sF), ?_⟩
    rw [List.drop_length] at w2
    obtain ⟨sh4, fk⟩ := sh2.unhide nG
    exact k _ h2 _ _ H2 ((s1.trans s2).trans fk) (back _ h2 H2 (s2.trans fk) sh4) (.lst (SqL.of upd_same) (ra.mono fk)) w2
theorem le_comp {Γ : Gam} {t : Tg} {it : FF.It} {c : Es} {e : E} {elt iter : Expr} {ifs : List Expr} {scope : Scope} {own : List (Str × Nat)} {pos : Pos} (hc : X.calm = true) (hN : X.N.Nodup) (hi : PI X tg iter (LI T X RR (wpI Γ it))) (ok : BlkOk X.N X.env.scope scope own)
    (hg : ∀ (s : Shared) (H : Hp) (C : Addr) (cl : List (Str × Addr)) (fp : List Addr), PG (X.blk s H scope (compEnvC scope cl C X.env) fp) tg (LG T [] (own.map (·.2)) (bindT t))) (ht : ∀ (s : Shared) (H : Hp) (C : Addr) (cl : List (Str × Addr)) (fp : List Addr), PTs (X.blk s H scope (compEnvC scope cl C X.env) fp) ifs (LTs T [] (wpT Γ c)))
    (he : ∀ (s : Shared) (H : Hp) (C : Addr) (cl : List (Str × Addr)) (fp : List Addr), PE (X.blk s H scope (compEnvC scope cl C X.env) fp) elt (LE0 T (wpE Γ e))) (hs : ∀ x, foldedSetIterable iter X.env x = pure x) :
    PE X (.ListComp elt [⟨tg, iter, ifs, 0⟩] scope pos) (LE T X RR (wpE Γ (.comp t it c e (own.map (·.2))))) :=
  PE.imp (pe_lc hc hN hi ok hg ht he hs) fun τ H Q h => lc_go h
end
/-! ### the rest of the expressions -/
section
variable {X : Cx} {T : Tb} {RR : RRt}
theorem le_bits {Γ : Gam} {a : E} {e : Expr} {apos pos : Pos} (hsup : noSuper e = true) (hl : (apos.endLine == pos.line) = true) (ha : PE X e (LE T X RR (wpE Γ a))) : PE X (.Call (.Attribute e "bit_length" apos) [] [] pos) (LE T X RR (wpE Γ (.bits a))) :=
  PE.imp (pe_bits ha (base_ok hsup) hl) fun τ H Q ⟨F, G, σ, h, Qd, sr, w, k⟩ => ⟨F, G, σ, h, _, sr, w, fun d h1 v F1 H1 s1 sr1 r1 w1 => by
    cases r1 with
    | int => exact ⟨_, rfl, k _ h1 _ F1 H1 s1 sr1 (by rw [bits_eq]; exact .int) w1⟩
    | _ => exact False.elim w1⟩
theorem le_slRev {Γ : Gam} {a : E} {e : Expr} {k : Nat} {p1 p2 p3 pos : Pos} (hK : X.K = T.K) (ha : PE X e (LE T X RR (wpE Γ a))) : PE X (.Subscript e (.Slice none none (some (.UnaryOp .USub (.Constant (.int 1) k p1) p2)) p3) pos) (LE T X RR (wpE Γ (.slRev a))) := by
  refine PE.imp (pe_revL ha) fun τ H Q ⟨F, G, σ, h, Qd, sr, w, kk⟩ => ⟨F, G, σ, h, _, sr, w, fun d h1 v F1 H1 s1 sr1 r1 w1 => ?_⟩
  obtain ⟨c, vs, l, rfl, sq, rl, w2⟩ := asL_of (P := fun l => Qd (.lst l.reverse) h1) hK sr1 r1 w1
  refine ⟨c, vs, rfl, sq, fun p hp => ?_⟩
  have g := Grow.new (o := .lst vs.reverse) sr1.sh.sF hp
  exact kk _ h1 _ _ _ (s1.trans g.f) (sr1.grow g) (.lst (SqL.of upd_same) (rl.reverse.mono g.f)) w2
end
end FF

namespace FF
open PySem PySem.Spec PyProof.Rows L2

/-! ### isinstance -/
def Ty.nm : Ty → String
  | .int => "int" | .bool => "bool" | .str => "str" | .tup => "tuple" | .lst => "list" | .dict => "dict" | .obj _ => ""
def D.ty : D → String
  | .non => "NoneType" | .bl _ => "bool" | .int _ => "int" | .str _ => "str" | .tup _ => "tuple" | .lst _ => "list" | .odd _ => "dict" | _ => ""
def Ty.on : Ty → Bool
  | .int => true | .bool => true | .str => true | .tup => true | .lst => true | _ => false
theorem isTy_kit {K : PySem.W.Frag} {t : Ty} {d : D} {b : Bool} (ht : t.on = true) (h : isTy t d = some b) : PySem.W.kitOne K (.type d.ty) (.type t.nm) = some b := by
  have k1 : kitB "int" "int" = some true := by decide +kernel
  have k2 : kitB "bool" "int" = some true := by decide +kernel
  have k3 : kitB "NoneType" "int" = some false := by decide +kernel
  have k4 : kitB "str" "int" = some false := by decide +kernel
  have k5 : kitB "tuple" "int" = some false := by decide +kernel
  have k6 : kitB "list" "int" = some false := by decide +kernel
  have b1 : kitB "int" "bool" = some false := by decide +kernel
  have b2 : kitB "bool" "bool" = some true := by decide +kernel
  have b3 : kitB "NoneType" "bool" = some false := by decide +kernel
  have b4 : kitB "str" "bool" = some false := by decide +kernel
  have b5 : kitB "tuple" "bool" = some false := by decide +kernel
  have b6 : kitB "list" "bool" = some false := by decide +kernel
  have t1 : kitB "int" "tuple" = some false := by decide +kernel
  have t2 : kitB "bool" "tuple" = some false := by decide +kernel
  have t3 : kitB "NoneType" "tuple" = some false := by decide +kernel
  have t4 : kitB "str" "tuple" = some false := by decide +kernel
  have t5 : kitB "tuple" "tuple" = some true := by decide +kernel
  have t6 : kitB "list" "tuple" = some false := by decide +kernel
  have l1 : kitB "int" "list" = some false := by decide +kernel
  have l2 : kitB "bool" "list" = some false := by decide +kernel
  have l3 : kitB "NoneType" "list" = some false := by decide +kernel
  have l4 : kitB "str" "list" = some false := by decide +kernel
  have l5 : kitB "tuple" "list" = some false := by decide +kernel
  have l6 : kitB "list" "list" = some true := by decide +kernel
  have d0 : kitB "dict" "int" = some false := by decide +kernel
  have d1 : kitB "dict" "bool" = some false := by decide +kernel
  have d2 : kitB "dict" "tuple" = some false := by decide +kernel
  have d3 : kitB "dict" "list" = some false := by decide +kernel
  have d4 : kitB "dict" "str" = some false := by decide +kernel
  have s1 : kitB "int" "str" = some false := by decide +kernel
  have s2 : kitB "bool" "str" = some false := by decide +kernel
  have s3 : kitB "NoneType" "str" = some false := by decide +kernel
  have s4 : kitB "str" "str" = some true := by decide +kernel
  have s5 : kitB "tuple" "str" = some false := by decide +kernel
  have s6 : kitB "list" "str" = some false := by decide +kernel
  cases t <;> cases d <;> first
    | (cases (show false = true from ht); done)
    | (have h' : (none : Option Bool) = some b := h; cases h')
    | (have h' := Option.some.inj h; subst h'; exact kit_ty (by assumption))
theorem tyX_of {T : Tb} {F H : Hp} {d : D} {v : V} {t : Ty} {b : Bool} (s : Same F H) (r : Rep T F d v) (h : isTy t d = some b) (hd : ∀ c fs, d ≠ .obj c fs) : TyX T.K H v (.type d.ty) := by
  cases r with
  | non => exact .base .non
  | bl => exact .base (.bl _)
  | int => exact .base (.int _)
  | str => exact .base (.str _)
  | tup sq rl =>
    rcases Same.sqt s sq with (z | ⟨o, z⟩) | ⟨o, _, _, h1, h2, _⟩
    · exact .base (.tup z)
    · exact .fTuple z
    · exact .kTuple h1 h2
  | lst sq rl =>
    rcases s.seq sq with (z | ⟨o, z⟩) | ⟨o, _, _, h1, h2, _⟩
    · exact .base (.lst z)
    · exact .base (.frz z)
    · exact .kList h1 h2
  | obj _ _ _ => exact absurd rfl (hd _ _)
  | dct e => exact .base (.dK (s _ _ e))
  | _ => cases t <;> cases h
section
variable {X : Cx} {T : Tb} {RR : RRt}
theorem le_isin {Γ : Gam} {a : E} {t : Ty} {e : Expr} {y : Str} {p p2 pos : Pos} (hK : X.K = T.K) (hg : Gl X "isinstance") (hm : X.mg "isinstance" = none) (hy : Gl X y) (hmy : X.mg y = none) (hv : bootBuiltins y = some (.type t.nm)) (hn : y ≠ "__name__") (hd : (y == ("__debug__" : Str)) = false)
    (hs : noStar e = true) (ht : t.on = true) (ha : PE X e (LE T X RR (wpE Γ a))) : PE X (.Call (.Name "isinstance" p) [e, .Name y p2] [] pos) (LE T X RR (wpE Γ (.isin a t))) := by
  have hty : PE X (.Name y p2) (tC (.ty t.nm)) := pe_bltn hy hmy hv rfl hn hd
  refine PE.imp (pe_callB call_isi hg hm boot_isinstance (pa_cons ha (pa_cons hty pa_nil (star_cons (e := .Name y p2) rfl)) (star_cons hs)) (by decide) (by decide) (star_cons hs) rfl) fun τ H Q ⟨F, G, σ, h, Qd, sr, w, k⟩ => ⟨F, G, σ, h, _, sr, w, fun d h1 v F1 H1 s1 sr1 r1 w1 => ?_⟩
  cases e1 : isTy t d with
  | none => rw [e1] at w1; exact False.elim w1
  | some b =>
    rw [e1] at w1
    have hd : ∀ c fs, d ≠ .obj c fs := fun c fs z => by subst z; cases t <;> first | (cases ht; done) | cases e1
    exact ⟨v, .ty t.nm, .type d.ty, .type t.nm, b, rfl, .ty _, hK ▸ tyX_of sr1.sh.sF r1 e1 hd, isTy_kit ht e1, k _ h1 _ F1 H1 s1 sr1 .bl w1⟩
/-- what is asked of a class for isinstance -/
structure IsoC (K : PySem.W.Frag) (C : Addr) : Prop where
  ins : C8.InsC K C
  oth : ∀ n ∈ ["NoneType", "bool", "int", "str", "tuple", "list", "dict"], PySem.W.kitOne K (.type n) (.ref C) = some false
def isoB (K : PySem.W.Frag) (C : Addr) : Bool := PySem.W.plainGet K C Str.empty && (PySem.W.hasDictIn K C && (PySem.W.plainOver K C && (decide (PySem.W.findIn K (.ref C) "__setattr__" = some (some (.builtin "object.__setattr__"))) &&
  (decide (PySem.W.findIn K (.ref C) "__class__" = some (some (.builtin "object.__class__"))) && (decide (PySem.W.specialIn K (.builtin "object.__class__") "__get__" = some (some (.builtin "getset_descriptor.__get__"))) &&
  (decide (PySem.W.takesIn K (.builtin "object.__class__") = some true) && (decide (PySem.W.mroIn K C (.type "object") = some true) && (decide (PySem.W.kitOne K (.ref C) (.ref C) = some true) &&
  (["NoneType", "bool", "int", "str", "tuple", "list", "dict"].all fun n => decide (PySem.W.kitOne K (.type n) (.ref C) = some false))))))))))
theorem isoB_ok {K : PySem.W.Frag} {C : Addr} (h : isoB K C = true) : IsoC K C := by
  obtain ⟨h1, h⟩ := Bool.and_eq_true_iff.mp h
  obtain ⟨h2, h⟩ := Bool.and_eq_true_iff.mp h
  obtain ⟨h3, h⟩ := Bool.and_eq_true_iff.mp h
  obtain ⟨h4, h⟩ := Bool.and_eq_true_iff.mp h
  obtain ⟨h5, h⟩ := Bool.and_eq_true_iff.mp h
  obtain ⟨h6, h⟩ := Bool.and_eq_true_iff.mp h
  obtain ⟨h7, h⟩ := Bool.and_eq_true_iff.mp h
  obtain ⟨h8, h⟩ := Bool.and_eq_true_iff.mp h
  obtain ⟨h9, h⟩ := Bool.and_eq_true_iff.mp h
  exact ⟨⟨⟨h1, h2, h3, of_decide_eq_true h4⟩, of_decide_eq_true h5, of_decide_eq_true h6, of_decide_eq_true h7, of_decide_eq_true h8, of_decide_eq_true h9⟩, fun n hn => of_decide_eq_true (List.all_eq_true.mp h n hn)⟩
theorem le_isinO {Γ : Gam} {a : E} {c : Nat} {e : Expr} {y : Str} {p p2 pos : Pos} (hK : X.K = T.K) (hg : Gl X "isinstance") (hm : X.mg "isinstance" = none) (hy : Gl X y) (hmy : X.mg y = some (.ref (T.cA c))) (io : IsoC T.K (T.cA c)) (hd : (y == ("__debug__" : Str)) = false)
    (hs : noStar e = true) (ha : PE X e (LE T X RR (wpE Γ a))) : PE X (.Call (.Name "isinstance" p) [e, .Name y p2] [] pos) (LE T X RR (wpE Γ (.isin a (.obj c)))) := by
  have hcl : PE X (.Name y p2) (tC (.ref (T.cA c))) := pe_glob hy hmy rfl hd
  refine PE.imp (pe_callB call_isi hg hm boot_isinstance (pa_cons ha (pa_cons hcl pa_nil (star_cons (e := .Name y p2) rfl)) (star_cons hs)) (by decide) (by decide) (star_cons hs) rfl) fun τ H Q ⟨F, G, σ, h, Qd, sr, w, k⟩ => ⟨F, G, σ, h, _, sr, w, fun d h1 v F1 H1 s1 sr1 r1 w1 => ?_⟩
  cases e1 : isTy (.obj c) d with
  | none => rw [e1] at w1; exact False.elim w1
  | some b =>
    rw [e1] at w1
    have fin := k _ h1 _ F1 H1 s1 sr1 (.bl (b := b)) w1
    by_cases hd : ∃ c' fs, d = .obj c' fs
    · obtain ⟨c', fs, rfl⟩ := hd
      have e2 : (if c' = c then some true else none) = some b := e1
      by_cases ec : c' = c
      · rw [if_pos ec] at e2
        cases e2
        subst ec
        obtain ⟨ad, dx, fvs, rfl, ea, cl, rf⟩ := asObj_rep sr1.sh r1 (show (D.obj c' fs).asObj h1 = some (c', fs) from rfl)
        exact ⟨_, .ref (T.cA c'), .ref (T.cA c'), .ref (T.cA c'), true, rfl, .own _, .base (.ins ea (hK ▸ cl) (hK ▸ io.ins.ha) (hK ▸ io.ins.hn) (hK ▸ io.ins.htk) (hK ▸ io.ins.hm)), hK ▸ io.ins.me, fin⟩
      · rw [if_neg ec] at e2; cases e2
    · have hd' : ∀ c fs, d ≠ .obj c fs := fun c fs z => hd ⟨c, fs, z⟩
      refine ⟨v, .ref (T.cA c), .type d.ty, .ref (T.cA c), b, rfl, .own _, hK ▸ tyX_of sr1.sh.sF r1 e1 hd', ?_, fin⟩
      have eb : b = false ∧ d.ty ∈ ["NoneType", "bool", "int", "str", "tuple", "list", "dict"] := by
        cases d <;> first
          | (cases (show (none : Option Bool) = some b from e1); done)
          | exact absurd rfl (hd' _ _)
          | (cases (show some false = some b from e1); exact ⟨rfl, by unfold D.ty; simp⟩)
      rw [eb.1, hK]
      exact io.oth _ eb.2
end
/-! ### statements -/
def LS (T : Tb) (X : Cx) (RR : RRt) (w : Env → AH → Post → Prop) : TS := fun D τ H => ∃ F G σ h nx rt ct, SR T (RR.lk X) F G σ h τ H ∧ w σ h ⟨nx, rt, ct, RR.R⟩ ∧
  (∀ σ' h' τ' F' H', Same F F' → SR T (RR.lk X) F' G σ' h' τ' H' → nx σ' h' → D.nx τ' H') ∧
  (∀ d h' v σ' τ' F' H', Same F F' → SR T (RR.lk X) F' G σ' h' τ' H' → Rep T F' d v → rt d h' → D.rt v H') ∧
  (∀ σ' h' τ' F' H', Same F F' → SR T (RR.lk X) F' G σ' h' τ' H' → ct σ' h' → D.ct τ' H')
section
variable {X : Cx} {T : Tb} {RR : RRt} {Γ : Gam} {pos : Pos}
theorem lss_nil : PSs X [] (LS T X RR (wpSs Γ .nil)) :=
  PSs.imp pss_nil fun D τ H ⟨F, G, σ, h, nx, rt, ct, sr, w, k, _, _⟩ => k σ h τ F H (Same.refl _) sr w
theorem lss_cons {s : S} {r : Ss} {st : Stmt} {rest : List Stmt} (h1 : PS X st (LS T X RR (wpS Γ s))) (h2 : PSs X rest (LS T X RR (wpSs Γ r))) : PSs X (st :: rest) (LS T X RR (wpSs Γ (.cons s r))) :=
  PSs.imp (pss_cons h1 h2) fun D τ H ⟨F, G, σ, h, nx, rt, ct, sr, w, k1, k2, k3⟩ => ⟨F, G, σ, h, _, rt, ct, sr, w, fun σ1 h1 τ1 F1 H1 s1 sr1 w1 =>
    ⟨F1, G, σ1, h1, nx, rt, ct, sr1, w1, fun σ' h' τ' F' H' s => k1 σ' h' τ' F' H' (s1.trans s), fun d h' v σ' τ' F' H' s => k2 d h' v σ' τ' F' H' (s1.trans s), fun σ' h' τ' F' H' s => k3 σ' h' τ' F' H' (s1.trans s)⟩, k2, k3⟩
theorem lss_frz {i : Nat} {r : Ss} {rest : List Stmt} (h2 : PSs X rest (LS T X RR (wpSs Γ r))) : PSs X rest (LS T X RR (wpSs Γ (.cons (.frz i) r))) :=
  PSs.imp h2 fun D τ H ⟨F, G, σ, h, nx, rt, ct, sr, w, k1, k2, k3⟩ => by
    have w : (match σ.at i with
      | .own l => wpSs Γ r (σ.put i (.val (.lst l))) h ⟨nx, rt, ct, RR.R⟩
      | _ => False) := w
    cases e : σ.at i with
    | own l =>
      rw [e] at w
      obtain ⟨F1, s1, sr1⟩ := sr.frz e
      exact ⟨F1, G, _, h, nx, rt, ct, sr1, w, fun σ' h' τ' F' H' s => k1 σ' h' τ' F' H' (s1.trans s), fun d h' v σ' τ' F' H' s => k2 d h' v σ' τ' F' H' (s1.trans s), fun σ' h' τ' F' H' s => k3 σ' h' τ' F' H' (s1.trans s)⟩
    | _ => rw [e] at w; exact w.elim
theorem lss_never {r : Ss} {rest : List Stmt} : PSs X rest (LS T X RR (wpSs Γ (.cons .never r))) :=
  PSs.imp pss_never fun D τ H ⟨F, G, σ, h, nx, rt, ct, sr, w, _⟩ => w
theorem ls_pass : PS X (.Pass pos) (LS T X RR (wpS Γ .pass)) :=
  PS.imp ps_pass fun D τ H ⟨F, G, σ, h, nx, rt, ct, sr, w, k, _, _⟩ => k σ h τ F H (Same.refl _) sr w
theorem ls_cont : PS X (.Continue pos) (LS T X RR (wpS Γ .cont)) :=
  PS.imp ps_continue fun D τ H ⟨F, G, σ, h, nx, rt, ct, sr, w, _, _, k⟩ => k σ h τ F H (Same.refl _) sr w
theorem ls_retN : PS X (.Return none pos) (LS T X RR (wpS Γ .retN)) :=
  PS.imp ps_retN fun D τ H ⟨F, G, σ, h, nx, rt, ct, sr, w, _, k, _⟩ => k .non h _ σ τ F H (Same.refl _) sr .non w
theorem ls_ret {a : E} {e : Expr} (ha : PE X e (LE T X RR (wpE Γ a))) : PS X (.Return (some e) pos) (LS T X RR (wpS Γ (.ret a))) :=
  PS.imp (ps_ret ha) fun D τ H ⟨F, G, σ, h, nx, rt, ct, sr, w, _, k, _⟩ => ⟨F, G, σ, h, _, sr, w, fun d h' v F' H' s sr' r q => k d h' v σ τ F' H' s sr' r q⟩
theorem ls_expr {a : E} {e : Expr} (hs : swapsWith e none pos.line X.env = pure false) (ha : PE X e (LE T X RR (wpE Γ a))) : PS X (.Expr e pos) (LS T X RR (wpS Γ (.expr a))) :=
  PS.imp (ps_expr ha hs) fun D τ H ⟨F, G, σ, h, nx, rt, ct, sr, w, k, _, _⟩ => ⟨F, G, σ, h, _, sr, w, fun d h' v F' H' s sr' r q => k σ h' τ F' H' s sr' q⟩
theorem ls_doc {r : Ss} {x j p p'} {rest : List Stmt} (h2 : PSs X rest (LS T X RR (wpSs Γ r))) : PSs X (.Expr (.Constant (.str x) j p) p' :: rest) (LS T X RR (wpSs Γ r)) :=
  PSs.imp (pss_cons ps_doc h2) fun D τ H q => q
theorem ls_set {i : Nat} {a : E} {x : Str} {e : Expr} {p : Pos} (hN : X.N.Nodup) (hi : X.N[i]? = some x) (hx : Loc X.env.scope x) (hf : X.fn x = true ∨ X.env.scope.names.lookup x = some .local) (hs : swapsWith e (some (.Name x p)) pos.line X.env = pure false)
    (ha : PE X e (LE T X RR (wpE Γ a))) : PS X (.Assign [.Name x p] e pos) (LS T X RR (wpS Γ (.set i a))) :=
  PS.imp (ps_set hN hi hx ha hs hf) fun D τ H ⟨F, G, σ, h, nx, rt, ct, sr, w, k, _, _⟩ => ⟨F, G, σ, h, _, sr, w, fun d h' v F' H' s sr' r q => k _ h' _ F' H' s (sr'.store r) q⟩
theorem ls_set2 {i j : Nat} {a : E} {x y : Str} {ef : Expr} {el : List Expr} {ek : List Keyword} {ep p q : Pos} (hN : X.N.Nodup) (hi : X.N[i]? = some x) (hx : Loc X.env.scope x) (hf : X.fn x = true ∨ X.env.scope.names.lookup x = some .local)
    (hj : X.N[j]? = some y) (hy : Loc X.env.scope y) (hg : X.fn y = true ∨ X.env.scope.names.lookup y = some .local)
    (ha : PE X (.Call ef el ek ep) (LE T X RR (wpE Γ a))) : PS X (.Assign [.Name x p, .Name y q] (.Call ef el ek ep) pos) (LS T X RR (wpS Γ (.set2 i j a))) :=
  PS.imp (ps_asg2 ha (pg_name hN hi hx hf) (pg_name hN hj hy hg)) fun D τ H ⟨F, G, σ, h, nx, rt, ct, sr, w, k, _, _⟩ => ⟨F, G, σ, h, _, sr, w, fun d h' v F' H' s sr' r q => k _ h' _ F' H' s ((sr'.store r).store r) q⟩
theorem ls_setC {i : Nat} {t : Tg} {it : FF.It} {c : Es} {e : E} {y : Str} {tg elt iter : Expr} {ifs : List Expr} {scope : Scope} {own : List (Str × Nat)} {py lp : Pos} (hc : X.calm = true) (hN : X.N.Nodup) (hy : X.N[i]? = some y) (hyl : X.env.scope.names.lookup y = some .local)
    (hsw : swapsWith (.ListComp elt [⟨tg, iter, ifs, 0⟩] scope lp) (some (.Name y py)) pos.line X.env = pure true)
    (hi : PI X tg iter (LI T X RR (wpI Γ it))) (ok : BlkOk X.N X.env.scope scope own)
    (hg : ∀ (s : Shared) (H : Hp) (C : Addr) (cl : List (Str × Addr)) (fp : List Addr), PG (X.blk s H scope (compEnvC scope cl C X.env) fp) tg (LG T [] (own.map (·.2)) (bindT t))) (ht : ∀ (s : Shared) (H : Hp) (C : Addr) (cl : List (Str × Addr)) (fp : List Addr), PTs (X.blk s H scope (compEnvC scope cl C X.env) fp) ifs (LTs T [] (wpT Γ c)))
    (he : ∀ (s : Shared) (H : Hp) (C : Addr) (cl : List (Str × Addr)) (fp : List Addr), PE (X.blk s H scope (compEnvC scope cl C X.env) fp) elt (LE0 T (wpE Γ e))) (hs : ∀ x, foldedSetIterable iter X.env x = pure x) :
    PS X (.Assign [.Name y py] (.ListComp elt [⟨tg, iter, ifs, 0⟩] scope lp) pos) (LS T X RR (wpS Γ (.setC i (.comp t it c e (own.map (·.2)))))) :=
  PS.imp (ps_setLc hc hN hy hyl hsw hi ok hg ht he hs) fun D τ H ⟨F, G, σ, h, nx, rt, ct, sr, w, k, _, _⟩ =>
    lc_go (RR := RR) (X := X) ⟨F, G, σ, h, (fun d h => nx (σ.put i (.val d)) h), sr, w, fun d h' v F' H' s sr' r q => k _ h' _ F' H' s (sr'.store r) q⟩
theorem ls_ite {c : E} {a b : Ss} {ec : Expr} {ea eb : List Stmt} (hc : PT X ec (LT T X RR (wpE Γ c))) (ha : PSs X ea (LS T X RR (wpSs Γ a))) (hb : PSs X eb (LS T X RR (wpSs Γ b))) : PS X (.If ec ea eb pos) (LS T X RR (wpS Γ (.ite c a b))) := by
  refine PS.imp (ps_if hc ha hb) fun D τ H ⟨F, G, σ, h, nx, rt, ct, sr, w, k1, k2, k3⟩ => ?_
  refine ⟨F, G, σ, h, fun b0 h' => if b0 = true then wpSs Γ a σ h' ⟨nx, rt, ct, RR.R⟩ else wpSs Γ b σ h' ⟨nx, rt, ct, RR.R⟩, sr, w, fun b0 h1 F1 H1 s1 sr1 w1 => ?_⟩
  cases b0 with
  | true => exact ⟨F1, G, σ, h1, nx, rt, ct, sr1, w1, fun σ' h' τ' F' H' s => k1 σ' h' τ' F' H' (s1.trans s), fun d h' v σ' τ' F' H' s => k2 d h' v σ' τ' F' H' (s1.trans s), fun σ' h' τ' F' H' s => k3 σ' h' τ' F' H' (s1.trans s)⟩
  | false => exact ⟨F1, G, σ, h1, nx, rt, ct, sr1, w1, fun σ' h' τ' F' H' s => k1 σ' h' τ' F' H' (s1.trans s), fun d h' v σ' τ' F' H' s => k2 d h' v σ' τ' F' H' (s1.trans s), fun σ' h' τ' F' H' s => k3 σ' h' τ' F' H' (s1.trans s)⟩
theorem ls_setT {ts : Tgs} {a : E} {es : List Expr} {kk : Nat} {e : Expr} {p : Pos} {vs : List Nat} (hg : PG X (.Tuple es kk p) (LG T X.pn vs (bindT (.tup ts)))) (hs : swapsWithSole [.Tuple es kk p] e pos.line X.env = pure false) (hw : swappedStores [.Tuple es kk p] e X.env = pure none)
    (ha : PE X e (LE T X RR (wpE Γ a))) : PS X (.Assign [.Tuple es kk p] e pos) (LS T X RR (wpS Γ (.setT ts a))) :=
  PS.imp (ps_asg ha hg hs hw rfl) fun D τ H ⟨F, G, σ, h, nx, rt, ct, sr, w, k, _, _⟩ => ⟨F, G, σ, h, _, sr, w, fun d h1 v F1 H1 s1 sr1 r1 w1 => by
    have w2 : bindT (.tup ts) d σ (fun σ' => nx σ' h1) := w1
    exact ⟨_, _, F1, G, σ, h1, d, _, sr1, r1, w2, fun σ' τ' sr' _ _ q => k σ' h1 τ' F1 H1 s1 sr' q⟩⟩
theorem ls_setP {i j : Nat} {a b : E} {x y : Str} {ea eb : Expr} {px py pt : Pos} {kt k2 : Nat} {pt2 : Pos} (hc : X.calm = true) (hN : X.N.Nodup) (hi : X.N[i]? = some x) (hj : X.N[j]? = some y) (hij : i ≠ j)
    (hx : X.env.scope.names.lookup x = some .local) (hy : X.env.scope.names.lookup y = some .local) (hsa : noStar ea = true) (hsb : noStar eb = true)
    (hw : swappedStores [.Tuple [.Name x px, .Name y py] kt pt] (.Tuple [ea, eb] k2 pt2) X.env = pure (some [x, y]))
    (hs : swapsWithSole [.Tuple [.Name x px, .Name y py] kt pt] (.Tuple [ea, eb] k2 pt2) pos.line X.env = pure false)
    (ha : PE X ea (LE T X RR (wpE Γ a))) (hb : PE X eb (LE T X RR (wpE Γ b))) : PS X (.Assign [.Tuple [.Name x px, .Name y py] kt pt] (.Tuple [ea, eb] k2 pt2) pos) (LS T X RR (wpS Γ (.setP i j a b))) := by
  refine PS.imp (ps_par hc hN hi hj hij hx hy (pa_cons ha (pa_cons hb pa_nil (star_cons hsb)) (star_cons hsa)) hw hs) fun D τ H ⟨F, G, σ, h, nx, rt, ct, sr, w, k, _, _⟩ => ?_
  exact ⟨F, G, σ, h, _, sr, w, fun d1 h1 v1 F1 H1 s1 sr1 r1 w1 => ⟨F1, G, σ, h1, _, sr1, w1, fun d2 h2 v2 F2 H2 s2 sr2 r2 w2 => ⟨_, _, rfl, k _ h2 _ F2 H2 (s1.trans s2) ((sr2.store (r1.mono s2)).store r2) w2⟩⟩⟩
theorem ls_setP3 {i j l : Nat} {a b c : E} {x y z : Str} {ea eb ec : Expr} {px py pz pt : Pos} {kt k2 : Nat} {pt2 : Pos} (hc : X.calm = true) (hN : X.N.Nodup) (hi : X.N[i]? = some x) (hj : X.N[j]? = some y) (hl : X.N[l]? = some z) (hij : i ≠ j) (hil : i ≠ l) (hjl : j ≠ l)
    (hx : X.env.scope.names.lookup x = some .local) (hy : X.env.scope.names.lookup y = some .local) (hz : X.env.scope.names.lookup z = some .local) (hsa : noStar ea = true) (hsb : noStar eb = true) (hsc : noStar ec = true)
    (hw : swappedStores [.Tuple [.Name x px, .Name y py, .Name z pz] kt pt] (.Tuple [ea, eb, ec] k2 pt2) X.env = pure (some [x, y, z]))
    (hs : swapsWithSole [.Tuple [.Name x px, .Name y py, .Name z pz] kt pt] (.Tuple [ea, eb, ec] k2 pt2) pos.line X.env = pure false)
    (ha : PE X ea (LE T X RR (wpE Γ a))) (hb : PE X eb (LE T X RR (wpE Γ b))) (hc3 : PE X ec (LE T X RR (wpE Γ c))) : PS X (.Assign [.Tuple [.Name x px, .Name y py, .Name z pz] kt pt] (.Tuple [ea, eb, ec] k2 pt2) pos) (LS T X RR (wpS Γ (.setP3 i j l a b c))) := by
  refine PS.imp (ps_par3 hc hN hi hj hl hij hil hjl hx hy hz (pa_cons ha (pa_cons hb (pa_cons hc3 pa_nil (star_cons hsc)) (star_cons hsb)) (star_cons hsa)) hw hs) fun D τ H ⟨F, G, σ, h, nx, rt, ct, sr, w, k, _, _⟩ => ?_
  exact ⟨F, G, σ, h, _, sr, w, fun d1 h1 v1 F1 H1 s1 sr1 r1 w1 => ⟨F1, G, σ, h1, _, sr1, w1, fun d2 h2 v2 F2 H2 s2 sr2 r2 w2 => ⟨F2, G, σ, h2, _, sr2, w2, fun d3 h3 v3 F3 H3 s3 sr3 r3 w3 => ⟨_, _, _, rfl, k _ h3 _ F3 H3 (s1.trans (s2.trans s3)) (((sr3.store ((r1.mono s2).mono s3)).store (r2.mono s3)).store r3) w3⟩⟩⟩⟩
theorem ls_setFld {c f : Nat} {o a : E} {eo e : Expr} {x : Str} {p : Pos} (hK : X.K = T.K) (hx : T.tbl[f]? = some x) (na : NoAttr T.K (T.cA c) x) (hs : swapsWith e (some (.Attribute eo x p)) pos.line X.env = pure false)
    (ho : PE X eo (LE T X RR (wpE Γ o))) (ha : PE X e (LE T X RR (wpE Γ a))) : PS X (.Assign [.Attribute eo x p] e pos) (LS T X RR (wpS Γ (.setFld c o f a))) := by
  refine PS.imp (ps_fld ho ha hs) fun D τ H ⟨F, G, σ, h, nx, rt, ct, sr, w, k, _, _⟩ => ⟨F, G, σ, h, _, sr, w, fun d h1 v F1 H1 s1 sr1 r1 w1 => ⟨F1, G, σ, h1, _, sr1, w1, fun y h2 u F2 H2 s2 sr2 r2 w2 => ?_⟩⟩
  cases r2 with
  | ref =>
    rename_i ad
    have w2 : (match h2 ad with
      | some (.obj c' fs) => (c' = c ∧ fs.length < 1000) ∧ nx σ (h2.put ad (.obj c (FF.putF f d fs)))
      | _ => False) := w2
    cases e1 : h2 ad with
    | none => rw [e1] at w2; exact w2.elim
    | some cc =>
      rw [e1] at w2
      cases cc with
      | lst l => exact w2.elim
      | obj c' fs =>
        obtain ⟨⟨ec, hl⟩, w2⟩ := w2
        subst ec
        obtain ⟨_, _, dx, fvs, e2, cl, rf⟩ := sr2.sh.cell ad _ e1
        refine ⟨ad, T.cA c', dx, fvs, rfl, e2, hK ▸ cl, hK ▸ na, by rw [← rf.length]; exact hl, ?_⟩
        exact k _ _ _ F2 _ (s1.trans s2) (sr2.write (c := .obj c' (FF.putF f d fs)) e1 ⟨dx, _, upd_same, cl, rf.put ⟨hx, na⟩ (r1.mono s2)⟩) w2
  | _ => exact False.elim w2
theorem ls_setIdx {o i a : E} {eo ei e : Expr} {p : Pos} (ha0 : ∀ v, assign (.Subscript eo ei p) X.env v = (do
      let ov ← holding [v] (eval eo X.env)
      let iv ← holding [v, ov] (eval ei X.env)
      standAt p
      holding [v, ov, iv] (setItem ov iv v)
      release [v, ov, iv] [])) (hs : swapsWithSole [.Subscript eo ei p] e pos.line X.env = pure false) (hw : swappedStores [.Subscript eo ei p] e X.env = pure none)
    (ho : PE X eo (LE T X RR (wpE Γ o))) (hi : PE X ei (LE T X RR (wpE Γ i))) (ha : PE X e (LE T X RR (wpE Γ a))) : PS X (.Assign [.Subscript eo ei p] e pos) (LS T X RR (wpS Γ (.setIdx o i a))) := by
  refine PS.imp (ps_asg ha (pg_sub ho hi set_list ha0) hs hw rfl) fun D τ H ⟨F, G, σ, h, nx, rt, ct, sr, w, k, _, _⟩ => ⟨F, G, σ, h, _, sr, w, fun d h1 v F1 H1 s1 sr1 r1 w1 => ⟨F1, G, σ, h1, _, sr1, w1, fun x h2 u F2 H2 s2 sr2 r2 w2 => ⟨F2, G, σ, h2, _, sr2, w2, fun y h3 u3 F3 H3 s3 sr3 r3 w3 => ?_⟩⟩⟩
  cases r3 with
  | int =>
    rename_i kk
    cases r2 with
    | ref =>
      rename_i ad
      have w3 : (match h3 ad with
        | some (.lst l) => (match ixP l.length kk with
          | some j => nx σ (h3.put ad (.lst (l.set j d)))
          | none => False)
        | _ => False) := w3
      cases e1 : h3 ad with
      | none => rw [e1] at w3; exact w3.elim
      | some cc =>
        rw [e1] at w3
        cases cc with
        | obj c' fs => exact w3.elim
        | lst l =>
          cases e2 : ixP l.length kk with
          | none => simp only [e2] at w3
          | some j =>
            simp only [e2] at w3
            obtain ⟨_, _, vs, e3, rl⟩ := sr3.sh.cell ad _ e1
            refine ⟨ad, vs, kk, j, rfl, rfl, e3, by rw [← rl.length]; exact e2, ?_⟩
            exact k _ _ _ F3 _ (s1.trans (s2.trans s3)) (sr3.write (c := .lst (l.set j d)) e1 ⟨_, upd_same, Reps.set ((r1.mono s2).mono s3) j rl⟩) w3
    | _ => exact False.elim w3
  | _ => cases r2 <;> exact False.elim w3
/-! ### loops -/
theorem ls_whl {c : E} {b : Ss} {ec : Expr} {eb : List Stmt} (hp : PassesOwn (model X.prog X.w) X.A X.env X.xe) (hc : PT X ec (LT T X RR (wpE Γ c))) (hb : PSs X eb (LS T X RR (wpSs Γ b))) : PS X (.While ec eb [] pos) (LS T X RR (wpS Γ (.whl c b))) := by
  refine PS.imp (ps_while hp hc hb) fun D τ H ⟨F, G, σ, h, nx, rt, ct, sr, ⟨W, ⟨m0, w0⟩, st⟩, k1, k2, k3⟩ => ?_
  refine ⟨fun m τ H => ∃ F1 σ h, Same F F1 ∧ SR T (RR.lk X) F1 G σ h τ H ∧ W m σ h, ⟨m0, F, σ, h, Same.refl _, sr, w0⟩, ?_⟩
  rintro m τ1 H1 ⟨F1, σ1, h1, s1, sr1, w1⟩
  refine ⟨F1, G, σ1, h1, fun b0 h' => if b0 = true then wpSs Γ b σ1 h' ⟨fun σ h => ∃ m', m' < m ∧ W m' σ h, rt, fun σ h => ∃ m', m' < m ∧ W m' σ h, RR.R⟩ else nx σ1 h', sr1, st m σ1 h1 w1, fun b0 h2 F2 H2 s2 sr2 w2 => ?_⟩
  cases b0 with
  | true =>
    refine ⟨fun τ H => ∃ m', m' < m ∧ ∃ F1 σ h, Same F F1 ∧ SR T (RR.lk X) F1 G σ h τ H ∧ W m' σ h, fun σ' H' q => q, F2, G, σ1, h2, _, _, _, sr2, w2, fun σ' h' τ' F' H' s sr' ⟨m', hm, w'⟩ => ⟨m', hm, F', σ', h', s1.trans (s2.trans s), sr', w'⟩, fun d h' v σ' τ' F' H' s => k2 d h' v σ' τ' F' H' (s1.trans (s2.trans s)), fun σ' h' τ' F' H' s sr' ⟨m', hm, w'⟩ => ⟨m', hm, F', σ', h', s1.trans (s2.trans s), sr', w'⟩⟩
  | false => exact k1 σ1 h2 τ1 F2 H2 (s1.trans s2) sr2 w2
theorem ls_for {t : Tg} {it : FF.It} {b : Ss} {tg iter : Expr} {eb : List Stmt} {vs : List Nat} (hp : PassesOwn (model X.prog X.w) X.A X.env X.xe) (hc : X.calm = true) (hi : PI X tg iter (LI T X RR (wpI Γ it))) (hg : PG X tg (LG T X.pn vs (bindT t))) (hb : PSs X eb (LS T X RR (wpSs Γ b)))
    (hs : ∀ x, foldedSetIterable iter X.env x = pure x) : PS X (.For tg iter eb [] pos) (LS T X RR (wpS Γ (.for_ t it b))) := by
  refine PS.imp (ps_for hp hc hi hg hb hs) fun D τ H ⟨F, G, σ, h, nx, rt, ct, sr, w, k1, k2, k3⟩ => ⟨F, G, σ, h, _, sr, w, fun ds h1 J F1 H1 s1 sr1 gv w1 => ?_⟩
  refine ⟨fun i m τ H => ∃ F2 σ h, m = ds.length - i ∧ i ≤ ds.length ∧ Same F1 F2 ∧ SR T (RR.lk X) F2 G σ h τ H ∧ forL (fun σ h P => wpSs Γ b σ h P) (bindT t) (ds.drop i) σ h ⟨nx, rt, ct, RR.R⟩, ⟨ds.length, F1, σ, h1, by simp, Nat.zero_le _, Same.refl _, sr1, w1⟩, ?_⟩
  rintro i m τ2 H2 ⟨F2, σ2, h2, rfl, hi, s2, sr2, w2⟩
  by_cases hlt : i < ds.length
  · refine .inr ⟨gv.go i H2 hlt (s2.trans sr2.sh.sF), fun τ3 H3 => ∃ F3 σ h, i + 1 ≤ ds.length ∧ Same F1 F3 ∧ SR T (RR.lk X) F3 G σ h τ3 H3 ∧ forL (fun σ h P => wpSs Γ b σ h P) (bindT t) (ds.drop (i + 1)) σ h ⟨nx, rt, ct, RR.R⟩, fun σ' H' ⟨F3, σ3, h3, q1, q2, q3, q4⟩ => ⟨ds.length - (i + 1), by omega, F3, σ3, h3, rfl, q1, q2, q3, q4⟩, fun x H' y => ?_⟩
    obtain ⟨F3, g3, rx⟩ := gv.yld i H2 F2 x H' ds[i] (by simp [hlt]) s2 sr2.sh.sF y
    have sr3 := sr2.grow g3
    rw [List.drop_eq_getElem_cons hlt] at w2
    refine ⟨_, _, F3, G, σ2, h2, ds[i], _, sr3, rx, w2, fun σ4 τ4 sr4 _ _ w4 => ⟨F3, G, σ4, h2, _, _, _, sr4, w4, ?_, ?_, ?_⟩⟩
    · exact fun σ' h' τ' F' H' s sr' w' => ⟨F', σ', h', hlt, s2.trans (g3.f.trans s), sr', w'⟩
    · exact fun d h' v σ' τ' F' H' s => k2 d h' v σ' τ' F' H' (s1.trans (s2.trans (g3.f.trans s)))
    · exact fun σ' h' τ' F' H' s sr' w' => ⟨F', σ', h', hlt, s2.trans (g3.f.trans s), sr', w'⟩
  · have ei : i = ds.length := by omega
    subst ei
    rw [List.drop_length] at w2
    exact .inl ⟨gv.stop H2 (s2.trans sr2.sh.sF), k1 σ2 h2 τ2 F2 H2 (s1.trans s2) sr2 w2⟩
/-! ### own lists -/
def LF (T : Tb) (X : Cx) (RR : RRt) (w : Env → AH → (List D → AH → Prop) → RE → Prop) : TE := fun τ H Q =>
  ∃ F G σ h Kd, SR T (RR.lk X) F G σ h τ H ∧ w σ h Kd (fun x h' => RR.R x σ h') ∧ ∀ ds h' vs F' H' p, Same F F' → SR T (RR.lk X) F' G σ h' τ H' → Reps T F' ds vs → H' p = none → Kd ds h' → Q (.ref p) (upd H' p (.lst vs))
theorem lf_lst {n : Nat} {es : Es} {l : List Expr} (h : PA X l (LA T X RR n (wpEs Γ es))) : PE X (.List l pos) (LF T X RR (wpF Γ (.lst es))) :=
  PE.imp (pe_lst h) fun τ H Q ⟨F, G, σ, h, Kd, sr, w, k⟩ => ⟨F, G, σ, h, _, sr, w, fun ds h1 vs F1 H1 _ s1 sr1 r1 ⟨w1, w2⟩ => ⟨by rw [← r1.length, ← SL_eq]; exact w1, fun p hp => k ds h1 vs F1 H1 p s1 sr1 r1 hp w2⟩⟩
theorem lf_add {a b : E} {ea eb : Expr} (hK : X.K = T.K) (ha : PE X ea (LE T X RR (wpE Γ a))) (hb : PE X eb (LE T X RR (wpE Γ b))) : PE X (.BinOp ea .Add eb pos) (LF T X RR (wpF Γ (.bin .add a b))) := by
  refine PE.imp (pe_op op_catS ha hb) fun τ H Q ⟨F, G, σ, h, Kd, sr, w, k⟩ => ⟨F, G, σ, h, _, sr, w, fun x h1 v1 F1 H1 s1 sr1 r1 w1 => ⟨F1, G, σ, h1, _, sr1, w1, fun y h2 v2 F2 H2 s2 sr2 r2 w2 => ?_⟩⟩
  cases r1 with
  | lst q1 l1 =>
    cases r2 with
    | lst q2 l2 =>
      obtain ⟨w2, w3⟩ := w2
      refine ⟨_, _, _, _, rfl, rfl, hK ▸ sr2.sh.sF.seq (s2.seq q1), hK ▸ sr2.sh.sF.seq q2, by rw [← l1.length, ← l2.length, ← SL_eq]; exact w2, fun p hp => ?_⟩
      exact k _ h2 _ F2 H2 p (s1.trans s2) sr2 ((l1.mono s2).append l2) hp w3
    | _ => exact False.elim w2
  | _ => cases r2 <;> exact False.elim w2
theorem ls_setOwn {i : Nat} {a : E} {x : Str} {e : Expr} {p : Pos} (hN : X.N.Nodup) (hi : X.N[i]? = some x) (hx : Loc X.env.scope x) (hf : X.fn x = true ∨ X.env.scope.names.lookup x = some .local) (hs : swapsWith e (some (.Name x p)) pos.line X.env = pure false)
    (ha : PE X e (LF T X RR (wpF Γ a))) : PS X (.Assign [.Name x p] e pos) (LS T X RR (wpS Γ (.setOwn i a))) :=
  PS.imp (ps_set hN hi hx ha hs hf) fun D τ H ⟨F, G, σ, h, nx, rt, ct, sr, w, k, _, _⟩ => ⟨F, G, σ, h, _, sr, w, fun ds h' vs F' H' p s sr' r hp q => k _ h' _ F' _ s (sr'.newown hp r) q⟩
theorem ls_setPO {i j : Nat} {a : E} {es : Es} {x y : Str} {ea eb : Expr} {px py pt : Pos} {kt k2 : Nat} {pt2 : Pos} (hc : X.calm = true) (hN : X.N.Nodup) (hi : X.N[i]? = some x) (hj : X.N[j]? = some y) (hij : i ≠ j)
    (hx : X.env.scope.names.lookup x = some .local) (hy : X.env.scope.names.lookup y = some .local) (hsa : noStar ea = true) (hsb : noStar eb = true)
    (hw : swappedStores [.Tuple [.Name x px, .Name y py] kt pt] (.Tuple [ea, eb] k2 pt2) X.env = pure (some [x, y]))
    (hs : swapsWithSole [.Tuple [.Name x px, .Name y py] kt pt] (.Tuple [ea, eb] k2 pt2) pos.line X.env = pure false)
    (ha : PE X ea (LE T X RR (wpE Γ a))) (hb : PE X eb (LF T X RR (wpF Γ (.lst es)))) : PS X (.Assign [.Tuple [.Name x px, .Name y py] kt pt] (.Tuple [ea, eb] k2 pt2) pos) (LS T X RR (wpS Γ (.setPO i j a es))) := by
  refine PS.imp (ps_par hc hN hi hj hij hx hy (pa_cons ha (pa_cons hb pa_nil (star_cons hsb)) (star_cons hsa)) hw hs) fun D τ H ⟨F, G, σ, h, nx, rt, ct, sr, w, k, _, _⟩ => ?_
  exact ⟨F, G, σ, h, _, sr, w, fun d1 h1 v1 F1 H1 s1 sr1 r1 w1 => ⟨F1, G, σ, h1, _, sr1, w1, fun ds h2 vs F2 H2 p s2 sr2 r2 hp w2 => ⟨_, _, rfl, k _ h2 _ F2 _ (s1.trans s2) ((sr2.store (r1.mono s2)).newown hp r2) w2⟩⟩⟩
theorem ls_app {i : Nat} {a : E} {x : Str} {e : Expr} {px apos cpos : Pos} (hK : X.K = T.K) (hN : X.N[i]? = some x) (hv : Vis X.env.scope x) (hd : (x == ("__debug__" : Str)) = false) (hcd : (x == ("__classdict__" : Str)) = false) (hl : (apos.endLine == cpos.line) = true) (hs : noStar e = true)
    (hsup : noSuper (.Name x px) = true) (ha : PE X e (LE T X RR (wpE Γ a))) : PS X (.Expr (.Call (.Attribute (.Name x px) "append" apos) [e] [] cpos) pos) (LS T X RR (wpS Γ (.app i a))) := by
  have hA := pa_cons ha pa_nil (star_cons hs)
  have few : ((backTo cpos (starEach [e] X.env)).all (fun x => !x.1) && (backToKw cpos (keywordEach [] X.env)).all (fun x => x.1.isSome)
      && decide (([e] : List Expr).length + ([] : List Keyword).length + (if ([] : List Keyword).isEmpty then 0 else 1) < 30)) = true := by
    rw [star_all (es := [e]) (by simp [hs])]
    rfl
  refine PS.imp (ps_expr (pe_bm PySem.F.plainAttrs_list PySem.F.slot_list_append PySem.F.type_list_append mt_append (pe_var hN hv hd hcd) hA (base_ok hsup) few hl (star_cons hs) rfl) rfl) fun D τ H ⟨F, G, σ, h, nx, rt, ct, sr, w, k, _, _⟩ => ?_
  have w : (match σ.at i with
    | .own l => wpE Γ a σ h (fun d h => l.length < SL ∧ nx (σ.put i (.own (l ++ [d]))) h) (fun x h => RR.R x σ h)
    | _ => False) := w
  cases e0 : σ.at i with
  | own l =>
    rw [e0] at w
    have q0 := sr.slot i
    rw [e0] at q0
    obtain ⟨ad, vs, p1, p2, p3, p4, p5, rl⟩ := q0
    refine ⟨.ref ad, p1, .inl ⟨rfl, vs, SqL.of p2⟩, F, G, σ, h, _, sr, w, fun d h1 v F1 H1 s1 sr1 r1 w1 => ?_⟩
    have q1 := sr1.slot i
    rw [e0] at q1
    obtain ⟨ad', vs', p1', p2', p3', p4', p5', rl'⟩ := q1
    have : ad = ad' := by rw [p1] at p1'; exact V.ref.inj (Option.some.inj (Option.some.inj p1'))
    subst this
    refine ⟨ad, vs', v, rfl, rfl, p2', by rw [← rl'.length, ← SL_eq]; exact w1.1, ?_⟩
    exact k _ h1 _ F1 _ s1 (sr1.setown e0 p1 (rl'.append (.one r1))) w1.2
  | _ => rw [e0] at w; exact w.elim
/-- a list is lengthened by one of any standing -/
theorem grow_meets (p : Addr) (us : Array Value) (k : Nat) (q : Addr) (ws : Array Value) (j : Nat) (dd : Option Addr) (sl : Array (Option Value)) (h0 : ¬(!us.isEmpty && Builtin.List.listTooLong (us.size + ws.size)) = true) (h1 : us.size ≤ sizeLine) (h2 : us.size + ws.size ≤ sizeLine + 1) :
    Meets (Builtin.«list.extend» ⟨[.ref p, .ref q], []⟩) (fun _ R s => s.heap.get? p = some { cls := .type "list", data := .seq us k } ∧ s.heap.get? q = some { cls := .type "list", dict := dd, data := .seq ws j, slots := sl } ∧
      R (.ok (.ret Value.none)) { s with heap := s.heap.update p (Obj.mapSeq fun x => x ++ ws), toks := s.toks }) :=
  .of_wp fun prog w A R s h => by
    obtain ⟨hp, g, d, tk, os⟩ := s
    obtain ⟨e1, e2, e3⟩ := h
    have f1 := AutoSeq1.idx_int
    have f2 := AutoSeq1.sub_tuple_tuple
    have f3 := AutoSeq1.sub_list_list
    have f4 := AutoSeq1.sub_tuple_list
    have f5 := AutoSeq1.sub_list_tuple
    have h3 : (us ++ ws).size ≤ sizeLine + 1 := by rw [Array.size_append]; exact h2
    wp_walk using (wpAny_updateSeq e1 rfl (hz := h1) (_hz' := h3)), wpAny_loadPart' e1, wpAny_loadPart' e2
    exact ⟨_, rfl, e3⟩
theorem mt_grow : MtM X "list.extend" (fun x vs H Q => ∃ p q us ws, x = .ref p ∧ vs = [.ref q] ∧ H p = some (.lst us) ∧ SqL X.K H q ws ∧ us.length + ws.length ≤ sizeLine ∧ Q .non (upd H p (.lst (us ++ ws)))) := by
  intro pins s σ H x vs v us Q I rx rv h
  obtain ⟨p, q, xs, zs, rfl, rfl, e1, e2, hz, q0⟩ := h
  cases rx
  obtain ⟨u, rfl, ru⟩ := rv.one
  cases ru
  obtain ⟨z1, its, k, r1, l1, g1⟩ := I.lstM e1
  obtain ⟨itz, r2, p2, l2⟩ := I.list e2
  obtain ⟨⟨cls2, dd2, data2, sl2⟩, j, ho2, hc2, hdd2, hd2⟩ := p2
  simp only at hc2 hd2
  subst hc2 hd2
  have n2 := r2.length
  have hs : its.toArray.size + itz.toArray.size ≤ sizeLine := by rw [List.size_toArray, List.size_toArray]; omega
  have hl : ¬ (!its.toArray.isEmpty && Builtin.List.listTooLong (its.toArray.size + itz.toArray.size)) = true := by
    rw [notLongL hs, Bool.and_false]
    exact Bool.false_ne_true
  refine call_meets F.slot_list_extend ⟨_, g1, rfl⟩ F.entry_list_extend (F.args_list_extend_2 _ _) (grow_meets p its.toArray k q itz.toArray j dd2 sl2 hl (by rw [List.size_toArray]; omega) (by omega)) ⟨g1, ho2, ?_⟩
  refine ⟨.non, _, I.lset (its' := its ++ itz) e1 g1 (by simp) (r1.append r2) ?_, rfl, q0⟩
  rw [List.length_append]
  exact hz
theorem ls_ext {i : Nat} {a : E} {x : Str} {e : Expr} {px apos cpos : Pos} (hK : X.K = T.K) (hN : X.N[i]? = some x) (hv : Vis X.env.scope x) (hd : (x == ("__debug__" : Str)) = false) (hcd : (x == ("__classdict__" : Str)) = false) (hl : (apos.endLine == cpos.line) = true) (hs : noStar e = true)
    (hsup : noSuper (.Name x px) = true) (ha : PE X e (LE T X RR (wpE Γ a))) : PS X (.Expr (.Call (.Attribute (.Name x px) "extend" apos) [e] [] cpos) pos) (LS T X RR (wpS Γ (.ext i a))) := by
  have hA := pa_cons ha pa_nil (star_cons hs)
  have few : ((backTo cpos (starEach [e] X.env)).all (fun x => !x.1) && (backToKw cpos (keywordEach [] X.env)).all (fun x => x.1.isSome)
      && decide (([e] : List Expr).length + ([] : List Keyword).length + (if ([] : List Keyword).isEmpty then 0 else 1) < 30)) = true := by
    rw [star_all (es := [e]) (by simp [hs])]
    rfl
  refine PS.imp (ps_expr (pe_bm PySem.F.plainAttrs_list PySem.F.slot_list_extend PySem.F.type_list_extend mt_grow (pe_var hN hv hd hcd) hA (base_ok hsup) few hl (star_cons hs) rfl) rfl) fun D τ H ⟨F, G, σ, h, nx, rt, ct, sr, w, k, _, _⟩ => ?_
  have w : (match σ.at i with
    | .own l => wpE Γ a σ h (fun d h => match d with
      | .lst m => l.length + m.length ≤ SL ∧ nx (σ.put i (.own (l ++ m))) h
      | _ => False) (fun x h => RR.R x σ h)
    | _ => False) := w
  cases e0 : σ.at i with
  | own l =>
    rw [e0] at w
    have q0 := sr.slot i
    rw [e0] at q0
    obtain ⟨ad, vs, p1, p2, p3, p4, p5, rl⟩ := q0
    refine ⟨.ref ad, p1, .inl ⟨rfl, vs, SqL.of p2⟩, F, G, σ, h, _, sr, w, fun d h1 v F1 H1 s1 sr1 r1 w1 => ?_⟩
    have q1 := sr1.slot i
    rw [e0] at q1
    obtain ⟨ad', vs', p1', p2', p3', p4', p5', rl'⟩ := q1
    have : ad = ad' := by rw [p1] at p1'; exact V.ref.inj (Option.some.inj (Option.some.inj p1'))
    subst this
    cases r1 with
    | lst sq rm =>
      refine ⟨ad, _, vs', _, rfl, rfl, p2', hK ▸ sr1.sh.sF.seq sq, by rw [← rl'.length, ← rm.length, ← SL_eq]; exact w1.1, ?_⟩
      exact k _ h1 _ F1 _ s1 (sr1.setown e0 p1 (rl'.append rm)) w1.2
    | _ => exact w1.elim
  | _ => rw [e0] at w; exact w.elim
end
end FF

namespace FF
open PySem PySem.Spec PyProof.Rows L2
/-! ### own exceptions over ArithmeticError -/
abbrev aeTail : List Value := [.type "ArithmeticError", .type "Exception", .type "BaseException", .type "object"]
def isRf : Value → Bool
  | .ref _ => true
  | _ => false
/-- own classes, then those of ArithmeticError -/
def OverA (bm : List Value) : Prop := ∃ cs : List Addr, bm = cs.map Value.ref ++ aeTail
def overA (bm : List Value) : Bool := bm.dropWhile isRf == aeTail
theorem overA_ok : ∀ {bm : List Value}, overA bm = true → OverA bm
  | [], h => absurd h (by decide)
  | v :: r, h => by
    cases v with
    | ref a =>
      obtain ⟨cs, e⟩ := overA_ok (bm := r) h
      exact ⟨a :: cs, by rw [e]; rfl⟩
    | _ => exact ⟨[], beq_iff_eq.mp h⟩
theorem OverA.pass {self : Value} {bm : List Value} (h : OverA bm) : PySem.refuseLoop self "__setattr__" bm = pure () := by
  obtain ⟨cs, rfl⟩ := h
  induction cs with
  | nil => exact PySem.F.store_ArithmeticError.passes self
  | cons c cs ih =>
    rw [List.map_cons, List.cons_append, PySem.refuseLoop_ref]
    exact ih
theorem OverA.has {bm : List Value} (h : OverA bm) (x : String) : bm.contains (.type x) = aeTail.contains (.type x) := by
  obtain ⟨cs, rfl⟩ := h
  induction cs with
  | nil => rfl
  | cons c cs ih =>
    rw [List.map_cons, List.cons_append, List.contains_cons, ih]; rfl
theorem OverA.some {bm : List Value} (h : OverA bm) : bm.isEmpty = false := by
  obtain ⟨cs, rfl⟩ := h
  cases cs <;> rfl
/-- what the written part tells of such a class -/
structure OexA (K : PySem.W.Frag) (C : Addr) : Prop where
  obj : ∃ nm q N bs bm sn sub ab col dd k0 k1 k2 k3 k5, K.lookup C = some (excClassObj nm q C N bs bm true sn sub ab col dd k0 k1 k2 k3 k5 "ArithmeticError.__new__") ∧ OverA bm
  sa : PySem.W.findIn K (.ref C) "__setattr__" = some (some (.builtin "object.__setattr__"))
  exC : PySem.W.subIn K (.ref C) (.type "BaseException") = some true
  tyC : PySem.W.typeIn K (.ref C) = some (.type "type")
  kC : PySem.W.keepIn K (.ref C) = true
def objA (K : PySem.W.Frag) (C : Addr) : Bool := match K.lookup C with
  | some ⟨.type "type", _, .cls ⟨_, _, .ref c :: bm, _, _, true, _, _, _, _, false⟩, ⟨[_, _, _, _, some (.builtin n), _]⟩⟩ => decide (c = C) && (decide (n = "ArithmeticError.__new__") && overA bm)
  | _ => false
theorem objA_ok {K : PySem.W.Frag} {C : Addr} (h : objA K C = true) : ∃ nm q N bs bm sn sub ab col dd k0 k1 k2 k3 k5, K.lookup C = some (excClassObj nm q C N bs bm true sn sub ab col dd k0 k1 k2 k3 k5 "ArithmeticError.__new__") ∧ OverA bm := by
  unfold objA at h
  split at h
  · rename_i e
    obtain ⟨h1, h⟩ := Bool.and_eq_true_iff.mp h
    obtain ⟨h2, h3⟩ := Bool.and_eq_true_iff.mp h
    have e1 := of_decide_eq_true h1
    have e2 := of_decide_eq_true h2
    subst e1 e2
    exact ⟨_, _, _, _, _, _, _, _, _, _, _, _, _, _, _, e, overA_ok h3⟩
  · cases h
def oexB (K : PySem.W.Frag) (C : Addr) : Bool := objA K C && (decide (PySem.W.findIn K (.ref C) "__setattr__" = some (some (.builtin "object.__setattr__"))) && (decide (PySem.W.subIn K (.ref C) (.type "BaseException") = some true) &&
  (decide (PySem.W.typeIn K (.ref C) = some (.type "type")) && PySem.W.keepIn K (.ref C))))
theorem oexB_ok {K : PySem.W.Frag} {C : Addr} (h : oexB K C = true) : OexA K C := by
  obtain ⟨h1, h⟩ := Bool.and_eq_true_iff.mp h
  obtain ⟨h2, h⟩ := Bool.and_eq_true_iff.mp h
  obtain ⟨h3, h⟩ := Bool.and_eq_true_iff.mp h
  obtain ⟨h4, h5⟩ := Bool.and_eq_true_iff.mp h
  exact ⟨objA_ok h1, of_decide_eq_true h2, of_decide_eq_true h3, of_decide_eq_true h4, h5⟩
section
open Builtin Builtin.ObjectAttr
variable {prog : Program} {w : World} {A : Around} {E : Value → Shared → Prop} {R : Result → Shared → Prop} {hp : Heap} {g : Array GenState} {d : Drawn} {t : Nat} {os : OsState}
/-- the first field of such an exception -/
theorem osa_first {K : PySem.W.Frag} {f : Str} {tk : Tok} {v : Value} {x C : Addr} {fv : Array Value} {cd : ClassData} (kin : K.In hp) (gx : hp.get? x = some { cls := .ref C, data := .fields fv }) (hcl : PySem.W.clsIn K C = some cd) (om : OverA cd.mro) (od : cd.hasDict = true)
    (na : PySem.W.findIn K (.ref C) f = some none)
    (go : ∀ h2 tk2 dx, (∀ b o, b ≠ x → hp.get? b = some o → h2.get? b = some o) → hp.objs.size ≤ dx → dx ≠ x → h2.get? x = some { cls := .ref C, dict := some dx, data := .fields fv } → h2.Ns1 dx (fun y => if y = f then some v else none) → R (.ok (.ret .none)) ⟨h2, g, d, tk2, os⟩) :
    codeAny (model prog w) A (.call (.builtin "object.__setattr__") ⟨[.ref x, .str f tk, v], []⟩) R ⟨hp, g, d, t, os⟩ := by
  have inst : PySem.W.InstAt hp x { cls := .ref C, data := .fields fv } C none := ⟨gx, rfl, rfl, trivial⟩
  have st := PySem.F.store_object
  have e0 := om.some
  have e1 : cd.mro.contains (.type "object") = true := (om.has "object").trans (by decide +kernel)
  have xs : x ≠ hp.objs.size := Nat.ne_of_lt (Heap.lt_size gx)
  have isO : PySem.W.Looks (model prog w) hp (isInstance (.ref x) (.type "object")) true := inst.type.andThen (PySem.W.looks_mroIn kin (by unfold PySem.W.mroIn; rw [hcl, Option.bind_some, if_neg (by rw [e0]; decide), e1]))
  refine codeAny_call_builtin st.slot.plain st.entry (@PySem.W.check_slot (model prog w) _ _ ⟨hp, g, d, t, os⟩ "object.__setattr__" "object" "__setattr__" (.ref x) [.str f tk, v] [] _ st.kind st.split isO (st.args (.ref x) (.str f tk) v) ?_)
  have lm : PySem.W.Looks (model prog w) hp (mroOf (.ref C)) cd.mro := (PySem.W.looks_clsIn kin hcl).andThen .now
  have lt : PySem.W.Looks (model prog w) hp (storeTaker? none) none := .now
  have lc : PySem.W.Looks (model prog w) hp (classData C) cd := PySem.W.looks_clsIn kin hcl
  rw [PySem.W.osa_eq, refuse_eq]
  refine wpAny_bind (wpAny_bind (inst.type.at (wpAny_bind (lm.at ?_))))
  rw [om.pass]
  refine wpAny_pure (wpAny_bind (inst.type.at (wpAny_bind ((PySem.W.looks_findIn kin na).at (wpAny_bind (lt.at ?_))))))
  show wpAny _ _ (storeInOwnDict (.ref x) (.ref C) (.str f tk) f v false) _ _ _
  obtain ⟨c1, c2, c3, c4, c5, c6, c7, c8, c9, c10, c11⟩ := cd
  dsimp only at od
  subst od
  unfold storeInOwnDict ownDictForStores
  repeat (first | with_reducible refine PySem.HandSPX.store_in_new ?_ ?_ | with_reducible refine wpAny_loadPart_at gx ?_ | with_reducible refine lc.at ?_ | wp_step)
  · exact ⟨_, #[], _, (Heap.get?_update_ne _ _ _ _ xs.symm).trans (Heap.get?_push_at rfl rfl), rfl, fun e he => absurd he (by simp), fun _ => rfl⟩
  · intro h2 tk2 hn hs
    have gx2 : (hp.push { cls := .type "dict", data := .dict #[] }).get? x = some { cls := .ref C, data := .fields fv } := Heap.get?_push_of_some _ gx
    refine go h2 tk2 hp.objs.size (fun b o hb ho => ?_) (Nat.le_refl _) xs.symm ?_ hn
    · exact (hs.2 b (Nat.ne_of_lt (Heap.lt_size ho))).trans ((Heap.get?_update_ne _ _ _ _ hb).trans (Heap.get?_push_of_some _ ho))
    · exact (hs.2 x xs).trans (Heap.get?_update_self _ gx2 rfl)
end

section
variable {X : Cx} {pins : List (Addr × Obj)} {σ : L2.St} {H : Hp} {s : Shared} {x C : Addr} {f : Str} {y : V} {u : Value} {Q : Unit → Shared → Prop} {E : Value → Shared → Prop} {A : Around}
theorem OexA.cls {K : PySem.W.Frag} {C : Addr} (T : OexA K C) : ∃ cd, PySem.W.clsIn K C = some cd ∧ OverA cd.mro ∧ cd.hasDict = true := by
  obtain ⟨nm, q, N, bs, bm, sn, sub, ab, col, dd, k0, k1, k2, k3, k5, lk, cs, e⟩ := T.obj
  refine ⟨{ name := nm, bases := bs, mro := .ref C :: bm, ns := N, qualname := q, hasDict := true, slotNames := sn, subclasses := sub, abstract := ab, collection := col, hasDel := false }, ?_, ⟨C :: cs, by rw [e]; rfl⟩, rfl⟩
  unfold PySem.W.clsIn
  rw [lk]
/-- self.f = y in the making of such an exception -/
theorem ost_first (T : OexA X.K C) (I : Inv X pins σ H s) (hx : H x = some (exo x C none)) (na : PySem.W.findIn X.K (.ref C) f = some none) (ry : RelV y u)
    (go : ∀ dx s2, H dx = none → dx ≠ x → Inv X pins σ (upd (upd H dx (exd dx [(f, y)])) x (exo x C (some dx))) s2 → Q () s2) : wpAny (model X.prog X.w) A (setAttr (.ref x) f u) Q E s := by
  obtain ⟨cd, hcl, om, od⟩ := T.cls
  obtain ⟨t1, gx⟩ := exo_at I.hok hx
  obtain ⟨hp, gs, dr, tk, os⟩ := s
  refine PySem.W.set_plain I.kIn (ox := { cls := .ref C, dict := none, data := .fields #[.ref t1, .none, .none, .none, .bool false, .none] }) (od := none) ⟨gx, rfl, rfl, trivial⟩ T.sa ?_
  refine osa_first I.kIn gx hcl om od na fun h2 tk2 dx kp ge ne gx2 ns => ?_
  have fd : H dx = none := I.hok.fresh ge
  have old : ∀ {b : Addr} {o : Obj}, hp.get? b = some o → b ≠ dx := fun {b o} z => Nat.ne_of_lt (Nat.lt_of_lt_of_le (Heap.lt_size z) ge)
  have nox : ∀ {b : Addr}, H b = none → b ≠ x := fun {b} n z => by
    rw [z, hx] at n
    cases n
  have un : Un X.fs [] H (upd (upd H dx (exd dx [(f, y)])) x (exo x C (some dx))) hp h2 := by
    refine { keep := ?_, slot := ?_, free := ?_, there := ?_, tups := ?_, frzs := ?_, tbls := ?_ }
    · exact fun b o z n _ _ => kp b o (nox n) z
    · exact fun b o z n _ _ => ⟨o.slots, kp b o (nox n) z⟩
    · exact fun b o z n _ => by rw [upd_ne (nox n), upd_ne (old z)]; exact n
    · intro b o z _
      by_cases hb : b = x
      · exact ⟨_, by rw [hb]; exact gx2⟩
      · exact ⟨o, kp b o hb z⟩
    · exact fun b us z => by rw [upd_ne (at_ne hx z exo_tup), upd_ne (ne_of_none z fd)]; exact z
    · exact fun b o v z => by rw [upd_ne (at_ne hx z exo_frz), upd_ne (ne_of_none z fd)]; exact z
    · exact fun b us z => ⟨#[], by rw [upd_ne (at_ne hx z exo_tbl), upd_ne (ne_of_none z fd), z]; simp⟩
  refine go dx _ fd ne (I.un (t' := tk2) un fun b o z => ?_)
  by_cases hb : b = x
  · subst hb
    rw [upd_same] at z
    cases z
    exact exo_ok gx2
  rw [upd_ne hb] at z
  by_cases hd : b = dx
  · subst hd
    rw [upd_same] at z
    cases z
    exact exd_ok ns (relO_put (fs := []) ry fun _ => True.intro)
  rw [upd_ne hd] at z
  refine (I.hok b o z).stay (fun c v hc w => kp c v ?_ w) (fun c hc => ?_) fun c us hc => ?_
  · rcases hc with hc | hc
    · rw [hc]; exact hb
    · exact at_ne hx hc exo_own
  · rw [upd_ne (at_ne hx hc exo_own), upd_ne (ne_of_none hc fd)]; exact hc
  · rw [upd_ne (at_ne hx hc exo_tup), upd_ne (ne_of_none hc fd)]; exact hc
/-- the base's __init__ on it -/
theorem base_ok2 {us : List Value} {Q : Value → Shared → Prop} (T : OexA X.K C) (I : Inv X pins σ H s) (hx : H x = some (exo x C none)) (hl : us.length ≤ sizeLine) (go : ∀ s2, Inv X pins σ H s2 → Q .none s2) :
    wpAny (model X.prog X.w) A (call (.builtin "ArithmeticError.__init__") (.ref x :: us)) Q E s := by
  obtain ⟨nm, q, N, bs, bm, sn, sub, ab, col, dd, k0, k1, k2, k3, k5, lk, om⟩ := T.obj
  obtain ⟨t1, gx⟩ := exo_at I.hok hx
  obtain ⟨hp, gs, dr, tk, os⟩ := s
  refine wpAny_call (PySem.HandSPX.init_base PySem.F.excBase_ArithmeticError (fun z => om.has z) (I.kIn _ _ lk) gx hl fun h2 t2 kp gx2 => ?_)
  have J := I.write (t' := tk) (x := x) (e := x) (o := exo x C none) (by rw [hx]; exact True.intro) (.inl rfl) kp ⟨_, gx2⟩ (exo_ok gx2)
  have same : upd H x (exo x C none) = H := by
    funext b
    by_cases hb : b = x
    · rw [hb, upd_same, hx]
    · rw [upd_ne hb]
  rw [same] at J
  exact go _ J
end
/-- what the written part tells of the errors' base class -/
structure BaseE (K : PySem.W.Frag) (B : Addr) : Prop where
  ga : PySem.W.specialIn K (.ref B) "__getattribute__" = some (some (.builtin "type.__getattribute__"))
  rd : PySem.W.readsIn K B (.type "type") = true
  at_ : PySem.W.findCls K (.ref B) (.type "type") "__init__" = some (.val (.builtin "ArithmeticError.__init__"))
/-- B.__init__(self, ..) -/
def tAeI (K : PySem.W.Frag) (ta : TA) : TE := fun σ H Q => ta σ H fun vs H1 => ∃ (x C : Addr) (ws : List V), vs = .ref x :: ws ∧ ws.length ≤ 1000 ∧ OexA K C ∧ H1 x = some (exo x C none) ∧ Q .non H1
/-- self.f = e -/
def tAst (K : PySem.W.Frag) (f : Str) (to te : TE) : TS := fun D σ H => te σ H fun y H1 => to σ H1 fun v H2 => ∃ x C : Addr, v = .ref x ∧ OexA K C ∧ PySem.W.findIn K (.ref C) f = some none ∧ H2 x = some (exo x C none) ∧
  ∀ dx, H2 dx = none → dx ≠ x → D.nx σ (upd (upd H2 dx (exd dx [(f, y)])) x (exo x C (some dx)))
section
variable {X : Cx} {o e : Expr} {es : List Expr} {to te : TE} {ta : TA} {f b : Str} {B : Addr} {p p2 p3 pos : Pos}
theorem pe_aeinit {pl : Sem Bool} (hg : Gl X b) (hm : X.mg b = some (.ref B)) (T : BaseE X.K B) (ha : PA X (e :: es) ta) (hd : (b == ("__debug__" : Str)) = false)
    (hc : eval (.Call (.Attribute (.Name b p2) "__init__" p3) (e :: es) [] pos) X.env = (do
      let v ← eval (.Name b p2) X.env
      standAt p3.atName
      let (fn, first) ← holding [v] (getMethod v "__init__" pl)
      callWith pos fn first (backTo pos (starEach (e :: es) X.env)) (backToKw pos (keywordEach [] X.env))))
    (he : starEach (e :: es) X.env = (false, eval e X.env) :: starEach es X.env) (hpl : (backTo pos (starEach es X.env)).any (·.1) = false) :
    PE X (.Call (.Attribute (.Name b p2) "__init__" p3) (e :: es) [] pos) (tAeI X.K ta) := by
  refine ⟨fun pins s σ H Q I h => ?_⟩
  refine PySem.W.methodCall_KW (ld_glob I hg hm ?_ hd) hc
  refine PySem.W.method_cls I.kIn T.ga (PySem.W.cls_value I.kIn T.rd T.at_ (by decide +kernel) ?_)
  show wpAny _ _ (callWith pos (Value.builtin "ArithmeticError.__init__") [] (backTo pos (starEach (e :: es) X.env)) []) _ _ _
  refine PyProof.Rows.callWith_method1 (thn (ha.run pos pins _ σ H _ (I.tok _) h) fun us s1 ⟨vs, H1, I1, r1, x, C, ws, ev, hl, T1, hx, q⟩ => ?_) he hpl
  subst ev
  cases r1 with
  | @cons _ u0 _ ur ra rw' =>
    obtain rfl : u0 = Value.ref x := ra
    have len : ur.length ≤ sizeLine := by
      rw [← Paired.length rw', sizeLine_eq]
      omega
    exact base_ok2 T1 I1 hx len fun s2 J => ⟨.non, H1, J, rfl, q⟩
theorem ps_ast (ho : PE X o to) (he : PE X e te) (hs : swapsWith e (some (.Attribute o f p)) pos.line X.env = pure false) : PS X (.Assign [.Attribute o f p] e pos) (tAst X.K f to te) := by
  refine ⟨fun pins s σ H D I h => ?_⟩
  refine plainObj_wpAny_Assign_Attribute (thn (he.run pins s σ H _ I h) fun v s1 ⟨y, H1, I1, r1, q1⟩ => thn (ho.run pins s1 σ H1 _ I1 q1) fun u s2 ⟨w, H2, I2, r2, x, C, ex, T, na, hx, q⟩ => ?_) hs
  subst ex
  obtain rfl : u = Value.ref x := r2
  exact ost_first T I2 hx na r1 fun dx s2 n ne J => ⟨σ, _, J, q dx n ne⟩
/-- C(e, ..), by C's own __init__ -/
theorem pmk_aex {CX : CXT} {x : Str} {C fI : Addr} {k : Nat} {fd : FuncData} {ps : List Str} {sp : Sp} (T : OexA X.K C) (iC : PySem.W.findIn X.K (.ref C) "__init__" = some (some (.ref fI))) (tI : PySem.W.typeIn X.K (.ref fI) = some (.type "function"))
    (F1 : FnOk X.prog X.w X.K X.mg X.base CX k fI fd ps sp) (hr : Room (k + 1) X.A) (hb : Binds X.K fd ps []) (hx : Passes CX X (fun _ _ _ => False)) (hg : Gl X x) (hm : X.mg x = some (.ref C)) (ha : PA X (e :: es) ta)
    (hdb : (x == ("__debug__" : Str)) = false) (he : starEach (e :: es) X.env = (false, eval e X.env) :: starEach es X.env) (hpl : (backTo pos (starEach es X.env)).any (·.1) = false) :
    PMk X (.Call (.Name x p) (e :: es) [] pos) (tMkO C sp [] ta) := by
  intro pins s σ H Q I h
  obtain ⟨nm, q, N, bs, bm, sn, sub, ab, col, dd, k0, k1, k2, k3, k5, lk, om⟩ := T.obj
  refine wpAny_Call_Name_kw (ld_glob I hg hm ?_ hdb)
  refine PySem.W.callWith_K (h₀ := X.base) I.ok.mod.kin T.kC (thn (ha.run pos pins s σ H _ I h) fun us s1 ⟨vs, H1, I1, r1, hz, q1⟩ => ⟨I1.kIn, ?_⟩) he hpl
  show wpAny _ _ (call (.ref C) us) _ _ _
  obtain ⟨hp, gs, dr, tk, os⟩ := s1
  have up1 : hp.objs.size ≤ hp.objs.size + 1 := Nat.le_succ _
  have fr : H1 (hp.objs.size + 1) = none := I1.hok.fresh up1
  have q2 := q1 (hp.objs.size + 1) fr
  have kp : ∀ b o, hp.get? b = some o → ((hp.push (PySem.W.kdv_tup us)).push (PySem.HandSPX.excO C hp.objs.size)).get? b = some o := fun b o z => Heap.get?_push_of_some _ (Heap.get?_push_of_some _ z)
  have gx : ((hp.push (PySem.W.kdv_tup us)).push (PySem.HandSPX.excO C hp.objs.size)).get? (hp.objs.size + 1) = some (PySem.HandSPX.excO C hp.objs.size) := by heap_get
  have I2 : Inv X pins σ (upd H1 (hp.objs.size + 1) (exo (hp.objs.size + 1) C none)) ⟨(hp.push (PySem.W.kdv_tup us)).push (PySem.HandSPX.excO C hp.objs.size), gs, dr, tk, os⟩ :=
    I1.laid (t' := tk) (a := hp.objs.size + 1) (o := exo (hp.objs.size + 1) C none) (h' := (hp.push (PySem.W.kdv_tup us)).push (PySem.HandSPX.excO C hp.objs.size)) kp up1 (exo_ok gx)
  have r2 : Vals (V.ref (hp.objs.size + 1) :: (vs ++ [])) (Value.ref (hp.objs.size + 1) :: us) := by
    rw [List.append_nil]
    exact .cons rfl r1
  have len : (Value.ref (hp.objs.size + 1) :: us ++ []).length = ps.length := by
    have z := r2.length
    rw [F1.len _ _ _ _ q2] at z
    rw [List.append_nil]
    exact z.symm
  have bnd := hb _ (Value.ref (hp.objs.size + 1) :: us) I2.kIn len
  rw [List.append_nil] at bnd
  have lus : us.length ≤ sizeLine := by
    rw [← Paired.length r1, sizeLine_eq]
    omega
  refine wpAny_call (PySem.HandSPX.call_own PySem.F.excBase_ArithmeticError (fun z => om.has z) (I1.kIn _ _ lk) (PySem.W.looks_findIn I1.kIn iC) (fun self => PySem.W.bind_fn I1.kIn self tI) lus
    (codeAny_mono (F1.run _ X.stack _ _ ⟨Value.ref (hp.objs.size + 1) :: us, []⟩ (Value.ref (hp.objs.size + 1) :: us) _ _ (fun _ _ _ => False) (hr.make C us []) (I2.env0.make C us []) bnd r2 q2) fun r s2 z => ?_))
  cases r with
  | error er => exact hx pins σ _ _ er s2 I2 z
  | ok fl =>
    cases fl with
    | ret u =>
      obtain ⟨v, H2, os2, bare2, un2, hok2, rv, ev, d, fs, ea, ed, hd1, q3⟩ := z
      subst ev
      obtain ⟨h2, g2, d2, t2, os3⟩ := s2
      exact ⟨rv, mk_end (raises_own T.exC T.tyC) I1 up1 kp un2 hok2 os2 bare2 ea ed hd1 q3⟩
    | _ => exact False.elim z
end
end FF

namespace FF
open PySem PySem.Spec PyProof.Rows L2
/-! ### several except clauses, with and without names -/
/-- behind a suite with a name: the name is gone -/
def gone (i : Option Nat) (σ : L2.St) : L2.St := match i with
  | some j => σ.set j none
  | none => σ
def Ends.gone (D : Ends) (i : Option Nat) : Ends := { nx := fun σ H => D.nx (FF.gone i σ) H, rt := D.rt, bk := fun σ H => D.bk (FF.gone i σ) H, ct := fun σ H => D.ct (FF.gone i σ) H }
def bound (i : Option Nat) (e : Addr) (σ : L2.St) : L2.St := match i with
  | some j => σ.set j (some (.ref e))
  | none => σ
abbrev HTS := Addr → Value → Option Addr → TS
/-- what is wished of an exception of the body -/
def wHds (K : PySem.W.Frag) (Wo : WX) (D : Ends) : List (Value × Option Nat × HTS) → WX
  | [] => Wo
  | (c, i, ts) :: r => fun cls d σ H => ∃ b, PySem.W.exmOne K cls c = some b ∧ (b = true → ∀ e, H e = none → ts e cls d (Ends.gone D i) (bound i e σ) H) ∧ (b = false → wHds K Wo D r cls d σ H)
inductive HdsN (X : Cx) : List ExceptHandler → List (Value × Option Nat × HTS) → Prop
  | nil : HdsN X [] []
  | only {x : Str} {c : Value} {ts : HTS} {st : Stmt} {rest : List Stmt} {p1 p2 : Pos} {hs : List ExceptHandler} {l : List (Value × Option Nat × HTS)} (nm : Names X x c)
      (su : ∀ (e : Addr) (oe : Obj) (cls : Value) (d : Option Addr) (pn : List (Addr × Obj)), Zc cls d oe → (∃ vs, oe.data = .fields vs) → PSs (X.suite e ((e, oe) :: pn)) (st :: rest) (ts e cls d)) (r : HdsN X hs l) :
      HdsN X (.ExceptHandler (some (.Name x p1)) none (st :: rest) p2 :: hs) ((c, none, ts) :: l)
  | as_ {x n : Str} {i : Nat} {c : Value} {ts : HTS} {st : Stmt} {rest : List Stmt} {p1 p2 : Pos} {hs : List ExceptHandler} {l : List (Value × Option Nat × HTS)} (nm : Names X x c) (ni : X.N[i]? = some n) (nl : X.env.kindOf n = some .local)
      (su : ∀ (e : Addr) (oe : Obj) (cls : Value) (d : Option Addr) (pn : List (Addr × Obj)), Zc cls d oe → (∃ vs, oe.data = .fields vs) → PSs (X.suite e ((e, oe) :: pn)) (st :: rest) (ts e cls d)) (r : HdsN X hs l) :
      HdsN X (.ExceptHandler (some (.Name x p1)) (some n) (st :: rest) p2 :: hs) ((c, some i, ts) :: l)
section
variable {X : Cx} {body : List Stmt} {h1 : ExceptHandler} {hs : List ExceptHandler} {l : List (Value × Option Nat × HTS)} {pos : Pos} {tb : WX → TS} {Wo : WX}
theorem ps_try_hds (stk : X.stack = X.env :: X.outer) (frm : X.env.frame = some X.env.locals) (nd : X.N.Nodup) (tk : Takes X Wo)
    (bd : ∀ (W : WX) (pn : List (Addr × Obj)) (xe : Value → Shared → Prop), Takes (X.tr pn xe) W → PassesOwn (model X.prog X.w) X.A X.env xe → PSs (X.tr pn xe) body (tb W))
    (hh : HdsN X (h1 :: hs) l) : PS X (.Try body (h1 :: hs) [] [] pos) (fun D σ H => tb (wHds X.K Wo D l) D σ H) := by
  refine ⟨fun pins s σ H D I h => ?_⟩
  have okX := I.ok
  have frs' : X.A.frames = some (X.env :: X.outer) := by rw [okX.frames, stk]
  refine wpAny_Try_except ?_
  refine wpAny_mono ((bd (wHds X.K Wo D l) (X.pn ++ pins) (fun v s1 => wpAny (model X.prog X.w) X.A (noteFrame v X.env) (fun _ s2 => wpAny (model X.prog X.w) X.A (setFlight v none) (fun _ s3 =>
    wpAny (model X.prog X.w) X.A (handleBy v X.env (h1 :: hs)) (SP X pins D) X.xe s3) X.xe s2) X.xe s1) (fun v s2 z => ?_) PassesOwn.looking).run [] s σ H D (I.toTry _) h) (fun f s1 z => ?_) (fun v s1 z => z)
  · obtain ⟨e, G, s0, pins2, σ2, H2, cls, d, rfl, J2, nb, up, sky, ne, os, ag, w⟩ := z
    have J : Inv X pins σ2 H2 s0 := J2.ofTry okX
    have sky2 : Sky G (X.env :: X.outer) e (Zc cls d) X.env.locals s2.heap := by rw [← stk]; exact sky
    show wpAny (model X.prog X.w) X.A (noteFrame (.ref e) X.env) _ _ _
    refine Sky.land Zc.steady frs' frm sky2 fun m3 fl3 up3 => ?_
    have J3 : Inv X pins σ2 H2 { s2 with heap := m3 } := J.landed nb fl3.1 (up.trans up3) os ag
    obtain ⟨o3, v3, g3, z3, d3⟩ := fl3.there
    have nof : e ∉ frs (X.env :: X.outer) := fun hm => by
      obtain ⟨_, o', e', nf⟩ := Heap.FunFrames.mem fl3.2.2.1 hm
      rw [g3] at e'
      cases e'
      exact nf _ d3
    have nL : e ≠ X.env.locals := fun q => nof (List.mem_filterMap.mpr ⟨X.env, List.mem_cons_self, by rw [frm, q]⟩)
    have nF : e ∉ X.fs := fun hm => by
      obtain ⟨v, hv, q⟩ := List.mem_filterMap.mp hm
      exact nof (List.mem_filterMap.mpr ⟨v, List.mem_cons_of_mem _ hv, q⟩)
    have S3 := J3.suite g3 d3 ne nL nF
    have LT : PySem.W.Looks (model X.prog X.w) m3 (typeOf (.ref e)) cls := fun A Q E s k q => wpAny_typeOf_ref (k _ _ g3) (by rw [z3.1]; exact q)
    have test : ∀ {x : Str} {c : Value} {np : Pos} {Q : Value → Shared → Prop} {E : Value → Shared → Prop}, Names X x c → Q c { s2 with heap := m3 } → wpAny (model X.prog X.w) (X.A.mark (some (.ref e))) (eval (.Name x np) X.env) Q E { s2 with heap := m3 } := fun {x c np Q E} nm q => by
      obtain ⟨hg, hdb, hm | ⟨hm, hv, hn⟩⟩ := nm
      · exact ld_glob (X := X.suite e ((e, o3) :: (X.pn ++ pins))) S3 hg hm q hdb
      · exact ld_blt (X := X.suite e ((e, o3) :: (X.pn ++ pins))) S3 hg hm hv q hn hdb
    have go : ∀ {ks : List ExceptHandler} {lk : List (Value × Option Nat × HTS)}, HdsN X ks lk → wHds X.K Wo D lk cls d σ2 H2 →
        wpAny (model X.prog X.w) X.A (handleBy (.ref e) X.env ks) (SP X pins D) X.xe { s2 with heap := m3 } := by
      intro ks lk hk
      induction hk with
      | nil =>
        intro w
        refine wpAny_handleBy_nil ?_
        obtain ⟨k1, k2, k3, o9, v9, T9, oT9, t9, g9, z9, d9, h9, r9⟩ := id fl3
        unfold PySem.passOn
        refine wpAny_bind (wpAny_field g9 d9 h9 ?_)
        rw [if_neg (show ¬ ((Value.ref T9 == Value.none) = true) from by simp)]
        have fin : wpAny (model X.prog X.w) X.A (setFlight (.ref e) X.env.frame) (fun _ s4 => wpAny (model X.prog X.w) X.A (throw (.ref e) : Sem Flow) (SP X pins D) X.xe s4) X.xe { s2 with heap := m3 } := by
          rw [frm]
          refine HandSPX.setFlight_upZ fl3 fun m4 k4 up4 => wpAny_throw (tk _ _ ?_)
          exact ⟨e, G, s0, pins, σ2, H2, cls, d, rfl, J, nb, (up.trans up3).trans up4, .inr (.inr (by rw [stk]; exact k4)), ne, os, ag, w⟩
        first
          | exact wpAny_bind (wpAny_pure (wpAny_bind fin))
          | exact wpAny_bind fin
      | @only x c ts st rest p1 p2 hs2 l2 nm su r ih =>
        intro w
        obtain ⟨b, b1, yes, no⟩ := w
        refine wpAny_handleBy_cons (codeAny_handlers_test ?_) (by intro q; cases q)
        have LM := PySem.W.exm_one (M := model X.prog X.w) (J3.kIn) LT b1
        refine test nm (LM.here ?_)
        cases b with
        | true =>
          refine codeAny_handlers_suite ?_
          refine HandSPX.lands_againZ fl3 fun m4 fl4 up4 => ?_
          have J4 : Inv X pins σ2 H2 { s2 with heap := m4 } := J.landed nb fl4.1 ((up.trans up3).trans up4) os ag
          obtain ⟨o4, v4, g4, z4, d4⟩ := fl4.there
          have S4 := J4.suite g4 d4 ne nL nF
          refine wpAny_mono ((su e o4 cls d (X.pn ++ pins) z4 ⟨_, d4⟩).run [] _ _ H2 _ S4 (yes rfl e ne)) (fun f s6 z => ?_) (fun _ _ z => False.elim z)
          cases f with
          | ret u =>
            obtain ⟨v6, σ6, H6, S6, r6, q6⟩ := z
            exact ⟨_, _, _, S6.unsuite okX, r6, q6⟩
          | next => obtain ⟨σ6, H6, S6, q6⟩ := z; exact ⟨_, _, S6.unsuite okX, q6⟩
          | brk => obtain ⟨σ6, H6, S6, q6⟩ := z; exact ⟨_, _, S6.unsuite okX, q6⟩
          | cont => obtain ⟨σ6, H6, S6, q6⟩ := z; exact ⟨_, _, S6.unsuite okX, q6⟩
        | false => exact ih (no rfl)
      | @as_ x n i c ts st rest p1 p2 hs2 l2 nm ni nl su r ih =>
        intro w
        obtain ⟨b, b1, yes, no⟩ := w
        refine wpAny_handleBy_cons (codeAny_handlers_test ?_) (by intro q; cases q)
        have LM := PySem.W.exm_one (M := model X.prog X.w) (J3.kIn) LT b1
        refine test nm (LM.here ?_)
        cases b with
        | true =>
          refine codeAny_handlers_suite_as ?_
          refine HandSPX.lands_againZ fl3 fun m4 fl4 up4 => ?_
          have J4 : Inv X pins σ2 H2 { s2 with heap := m4 } := J.landed nb fl4.1 ((up.trans up3).trans up4) os ag
          obtain ⟨o4, v4, g4, z4, d4⟩ := fl4.there
          have S4 := J4.suite g4 d4 ne nL nF
          refine store_ok (X := X.suite e ((e, o4) :: (X.pn ++ pins))) (v := .ref e) S4 nd ni (.inl nl) rfl (fun s5 S5 => ?_) (.inr nl)
          refine wpAny_mono ((su e o4 cls d (X.pn ++ pins) z4 ⟨_, d4⟩).run [] s5 _ H2 _ S5 (yes rfl e ne)) (fun f s6 z => ?_) (fun _ _ z => False.elim z)
          have last : ∀ {σ6 : L2.St} {H6 : Hp} {Q : Shared → Prop}, Inv (X.suite e ((e, o4) :: (X.pn ++ pins))) [] σ6 H6 s6 → (∀ s7, Inv X pins (σ6.set i none) H6 s7 → Q s7) →
              wpAny (model X.prog X.w) X.A (do bindName X.env n .none; unbindBehindTheSuite X.env n p2) (fun _ s7 => Q s7) X.xe s6 := fun {σ6 H6 Q} S6 q => gone_ok (S6.unsuite okX) nd ni nl q
          cases f with
          | ret u =>
            obtain ⟨v6, σ6, H6, S6, r6, q6⟩ := z
            exact last S6 fun s7 J7 => ⟨_, _, _, J7, r6, q6⟩
          | next => obtain ⟨σ6, H6, S6, q6⟩ := z; exact last S6 fun s7 J7 => ⟨_, _, J7, q6⟩
          | brk => obtain ⟨σ6, H6, S6, q6⟩ := z; exact last S6 fun s7 J7 => ⟨_, _, J7, q6⟩
          | cont => obtain ⟨σ6, H6, S6, q6⟩ := z; exact last S6 fun s7 J7 => ⟨_, _, J7, q6⟩
        | false => exact ih (no rfl)
    exact go hh w
  · cases f with
    | next => obtain ⟨σ2, H2, J2, q⟩ := z; exact wpAny_execs_nil ⟨σ2, H2, J2.ofTry okX, q⟩
    | brk => obtain ⟨σ2, H2, J2, q⟩ := z; exact ⟨σ2, H2, J2.ofTry okX, q⟩
    | cont => obtain ⟨σ2, H2, J2, q⟩ := z; exact ⟨σ2, H2, J2.ofTry okX, q⟩
    | ret u => obtain ⟨v, σ2, H2, J2, r, q⟩ := z; exact ⟨v, σ2, H2, J2.ofTry okX, r, q⟩
end
end FF

namespace FF
open PySem PySem.Spec PyProof.Rows L2
theorem Env.length_nex : ∀ {σ : Env}, σ.nex.length = σ.length
  | [] => rfl
  | _ :: r => congrArg (· + 1) (Env.length_nex (σ := r))
theorem Env.at_nex : ∀ {σ : Env} {i : Nat}, σ.nex.at i = (σ.at i).nex
  | [], _ => rfl
  | _ :: _, 0 => rfl
  | _ :: r, i + 1 => Env.at_nex (σ := r) (i := i)
theorem Slot.nex_own {s : Slot} {l : List D} (h : s.nex = .own l) : s = .own l := by
  cases s <;> first | exact h | cases h
section
variable {T : Tb} {pn pn' : List (Addr × Obj)} {F G F0 G0 : Hp} {σ : Env} {h : AH} {τ : L2.St} {H : Hp}
/-- exceptions forgotten: the pins are free -/
theorem SR0.nex (x : SR0 T pn F G σ h τ H) : SR0 T pn' F G σ.nex h τ H := by
  refine ⟨x.sh, Env.length_nex.trans x.len, fun i => ?_, fun i j l m a hn e1 e2 e3 => ?_⟩
  · have q := x.slot i
    rw [Env.at_nex]
    cases e : σ.at i with
    | exc c d => trivial
    | un => trivial
    | val d => rw [e] at q; exact q
    | own l => rw [e] at q; exact q
  · rw [Env.at_nex] at e1 e2
    exact x.sep i j l m a hn (Slot.nex_own e1) (Slot.nex_own e2) e3
theorem SR.nex (x : SR T ⟨pn, F0, G0⟩ F G σ h τ H) : SR T ⟨pn', F0, G0⟩ F G σ.nex h τ H := ⟨x.s.nex, x.lF, x.lG⟩
/-- a caught exception gets a name -/
theorem SR0.catch_ {i : Nat} {c : Nat} {d : D} {e dd : Addr} {oe : Obj} {v : V} (x : SR0 T pn F G σ h τ H) (hp : (e, oe) ∈ pn) (z : Zc (.ref (T.cA c)) (some dd) oe) (fv : ∃ fv, oe.data = .fields fv) (hd : F dd = some (.xd [(T.xf c, v)])) (r : Rep T F d v) :
    SR0 T pn F G (σ.put i (.exc c d)) h (τ.set i (some (.ref e))) H := by
  refine ⟨x.sh, by rw [Env.length_put, List.length_set]; exact x.len, fun j => ?_, fun j k l m a hn e1 e2 e3 e4 => ?_⟩
  · by_cases hi : i < σ.length
    · by_cases hj : j = i
      · subst hj
        rw [Env.at_put_self hi, List.getElem?_set_self (x.len ▸ hi)]
        exact ⟨e, oe, dd, v, rfl, hp, z, fv, hd, r⟩
      · rw [Env.at_put_ne hj, List.getElem?_set_ne (Ne.symm hj)]
        exact x.slot j
    · rw [Env.put_out (Nat.le_of_not_lt hi), List.set_eq_of_length_le (by rw [← x.len]; exact Nat.le_of_not_lt hi)]
      exact x.slot j
  · by_cases hi : i < σ.length
    · have n1 : j ≠ i := fun z => by subst z; rw [Env.at_put_self hi] at e1; cases e1
      have n2 : k ≠ i := fun z => by subst z; rw [Env.at_put_self hi] at e2; cases e2
      rw [Env.at_put_ne n1] at e1
      rw [Env.at_put_ne n2] at e2
      rw [List.getElem?_set_ne (Ne.symm n1)] at e3
      rw [List.getElem?_set_ne (Ne.symm n2)] at e4
      exact x.sep j k l m a hn e1 e2 e3 e4
    · rw [Env.put_out (Nat.le_of_not_lt hi)] at e1 e2
      rw [List.set_eq_of_length_le (by rw [← x.len]; exact Nat.le_of_not_lt hi)] at e3 e4
      exact x.sep j k l m a hn e1 e2 e3 e4
end
section
variable {X : Cx} {T : Tb} {RR : RRt} {Γ : Gam}
/-! ### a field of a caught exception -/
theorem le_xfld {i : Nat} {cs : List Nat} {x f : Str} {p pos : Pos} (hK : X.K = T.K) (hN : X.N[i]? = some x) (hv : Vis X.env.scope x) (hd : (x == ("__debug__" : Str)) = false) (hcd : (x == ("__classdict__" : Str)) = false) (hb : noSuper (.Name x p) = true)
    (hc : ∀ c ∈ cs, T.xf c = f ∧ XfC T.K (T.cA c) ∧ PySem.W.findIn T.K (.ref (T.cA c)) f = some none) : PE X (.Attribute (.Name x p) f pos) (LE T X RR (wpE Γ (.xfld i cs))) := by
  refine ⟨fun pins s τ H Q I ⟨F, G, σ, h, Qd, sr, w, k⟩ => ?_⟩
  have w : (match σ.at i with
    | .exc c d => c ∈ cs ∧ Qd d h
    | _ => False) := w
  cases e0 : σ.at i with
  | exc c d =>
    rw [e0] at w
    have q0 := sr.slot i
    rw [e0] at q0
    obtain ⟨e, oe, dd, v, p1, p2, z, fv, hF, r⟩ := q0
    obtain ⟨x1, x2, x3⟩ := hc c w.1
    refine attr_of (base_ok hb) (thn ((pe_var (pos := p) hN hv hd hcd).run pins s τ H (fun v H1 => v = .ref e ∧ H1 = H) I ⟨_, p1, rfl, rfl⟩) fun u s1 ⟨v1, H1, I1, r1, e1, e2⟩ => ?_)
    subst e1 e2
    obtain rfl : u = Value.ref e := r1
    obtain ⟨ha, _⟩ := I1.pin (e, oe) (List.mem_append_left _ p2)
    obtain ⟨vs, hd'⟩ := fv
    have hx : ObjOk X.prog X.w H1 s1.heap dd (.xd [(T.xf c, v)]) := I1.hok dd _ (sr.sh.sF _ _ hF)
    obtain ⟨mA, hns, hr⟩ := hx
    obtain ⟨od, ho, hl⟩ := lookIn_ns hns
    have lk : [(T.xf c, v)].lookup f = some v := by rw [x1]; simp [List.lookup]
    obtain ⟨u, hu, ru⟩ := RelO.some_of (v := v) (o := mA f) (by rw [← lk]; exact hr f)
    have J : PySem.W.InstAt s1.heap e oe (T.cA c) (some od) := ⟨ha, z.1, by unfold PySem.W.notCls; rw [hd'], by rw [z.2]; exact ho⟩
    have X2 : XfC X.K (T.cA c) := hK ▸ x2
    have X3 : PySem.W.findIn X.K (.ref (T.cA c)) f = some none := hK ▸ x3
    exact HandSPX.exc_get I1.kIn J X2.ga X2.gg X2.exC (PySem.W.findObj_own X2.hdC X3 rfl (by rw [hl, hu])) (handed_of ru) ⟨v, H1, I1.tok _, ru, k d h v F H1 (Same.refl _) sr r w.2⟩
  | _ => rw [e0] at w; exact w.elim
/-! ### raise -/
/-- what the making of an exception leans on -/
def spX (T : Tb) (c : Nat) : Sp := fun vs H Q _ => ∃ (e : Addr) (v : V), vs = [.ref e, v] ∧ H e = some (exo e (T.cA c) none) ∧ ∀ dx, H dx = none → dx ≠ e → Q .non (upd (upd H dx (exd dx [(T.xf c, v)])) e (exo e (T.cA c) (some dx)))
structure GoodX (P : Program) (w : World) (T : Tb) (mg : Str → Option Value) (base : Heap) (k : Nat) (c : Nat) : Prop where
  ox : OexA T.K (T.cA c)
  ex : ∃ (fI : Addr) (fd : FuncData) (ps : List Str), PySem.W.findIn T.K (.ref (T.cA c)) "__init__" = some (some (.ref fI)) ∧ PySem.W.typeIn T.K (.ref fI) = some (.type "function") ∧ FnOk P w T.K mg base (L2.CX P w) k fI fd ps (spX T c) ∧ Binds T.K fd ps []
theorem GoodX.mono {P : Program} {w : World} {mg : Str → Option Value} {base : Heap} {j k c : Nat} (g : GoodX P w T mg base j c) (h : j ≤ k) : GoodX P w T mg base k c := by
  obtain ⟨ox, fI, fd, ps, h1, h2, F, b⟩ := g
  exact ⟨ox, fI, fd, ps, h1, h2, F.mono h, b⟩
theorem ls_raise {k c : Nat} {a : E} {e : Expr} {y : Str} {p p2 pos : Pos} (hK : X.K = T.K) (hc : X.calm = true) (g : GoodX X.prog X.w T X.mg X.base k c) (hr : Room (k + 1) X.A) (hg : Gl X y) (hm : X.mg y = some (.ref (T.cA c))) (tk : Takes X (WR T X RR)) (hs : noStar e = true)
    (hd : (y == ("__debug__" : Str)) = false) (ha : PE X e (LE T X RR (wpE Γ a))) : PS X (.Raise (some (.Call (.Name y p) [e] [] p2)) none pos) (LS T X RR (wpS Γ (.raise c a))) := by
  obtain ⟨ox, fI, fd, ps, h1, h2, F, b⟩ := g
  have ox : OexA X.K (T.cA c) := hK ▸ ox
  have F : FnOk X.prog X.w X.K X.mg X.base (L2.CX X.prog X.w) k fI fd ps (spX T c) := hK ▸ F
  have b : Binds X.K fd ps [] := hK ▸ b
  refine PS.imp (ps_raise hc tk (pmk_aex (e := e) (es := []) ox (hK ▸ h1) (hK ▸ h2) F hr b (passes_call tk fun _ _ _ _ z => z.elim) hg hm (pa_cons ha pa_nil (star_cons hs)) hd (star_cons hs) rfl)) fun D τ H ⟨F0, G, σ, h, nx, rt, ct, sr, w, _⟩ => ?_
  refine ⟨F0, G, σ, h, _, sr, w, fun d h1 v F1 H1 s1 sr1 r1 w1 => ⟨(show 1 ≤ 1000 by decide), fun ea na => ⟨ea, v, rfl, upd_same, fun dx n ne => ⟨rfl, dx, [(T.xf c, v)], upd_same, ?_, ?_, ?_⟩⟩⟩⟩
  · rw [upd_ne ne, upd_same]
  · rw [upd_ne ne] at n; exact n
  · rw [upd_ne ne] at n
    have eH : upd (del (upd (upd (upd H1 ea (exo ea (T.cA c) none)) dx (exd dx [(T.xf c, v)])) ea (exo ea (T.cA c) (some dx))) ea) dx (.xd [(T.xf c, v)]) = upd H1 dx (.xd [(T.xf c, v)]) := by
      funext z
      by_cases z1 : z = dx
      · subst z1; rw [upd_same, upd_same]
      · rw [upd_ne z1, upd_ne z1]
        by_cases z2 : z = ea
        · subst z2; rw [del_same]; exact na.symm
        · rw [del_ne z2, upd_ne z2, upd_ne z1, upd_ne z2]
    rw [eH]
    have gw := Grow.new (o := .xd [(T.xf c, v)]) sr1.sh.sF n
    exact ⟨_, G, σ, h1, ⟨c, d⟩, dx, v, rfl, rfl, sr1.grow gw, upd_same, r1.mono gw.f, w1⟩
/-! ### try -/
def bindE (i : Option Nat) (c : Nat) (d : D) (σ : Env) : Env := match i with
  | some j => σ.put j (.exc c d)
  | none => σ
def wipeE (i : Option Nat) (σ : Env) : Env := match i with
  | some j => σ.put j .un
  | none => σ
theorem Env.nex_nex : ∀ {σ : Env}, σ.nex.nex = σ.nex
  | [] => rfl
  | s :: r => by
    show s.nex.nex :: Env.nex (Env.nex r) = s.nex :: Env.nex r
    rw [Env.nex_nex (σ := r)]
    cases s <;> rfl
theorem PSs.ex {X : Cx} {α : Type} {es : List Stmt} {t : α → TS} (h : ∀ a, PSs X es (t a)) : PSs X es (fun D τ H => ∃ a, t a D τ H) := ⟨fun pins s τ H D I ⟨a, q⟩ => (h a).run pins s τ H D I q⟩
/-- a suite, in the layer's words -/
def HSt (T : Tb) (Γ : Gam) (i : Option Nat) (b : Ss) : HTS := fun e cls d De τ H => ∃ (τ2 : L2.St) (F0 G0 F G : Hp) (σ : Env) (h : AH) (nx : Env → AH → Prop) (rt : D → AH → Prop) (ct : Env → AH → Prop) (c : Nat) (dv : D) (dd : Addr) (v : V), τ = bound i e τ2 ∧ cls = .ref (T.cA c) ∧ d = some dd ∧ F dd = some (.xd [(T.xf c, v)]) ∧ Rep T F dv v ∧ SR T ⟨[], F0, G0⟩ F G σ.nex h τ2 H ∧
  wpSs Γ b (bindE i c dv σ.nex) h ⟨fun σ h => nx (wipeE i σ).nex h, rt, fun σ h => ct (wipeE i σ).nex h, fun _ _ _ => False⟩ ∧
  (∀ (σ' : Env) h' τ' F' H', Same F F' → SR T ⟨[], F0, G0⟩ F' G (wipeE i σ').nex h' (gone i τ') H' → nx (wipeE i σ').nex h' → De.nx τ' H') ∧
  (∀ d h' v (σ' : Env) τ' F' H', Same F F' → SR T ⟨[], F0, G0⟩ F' G σ'.nex h' τ' H' → Rep T F' d v → rt d h' → De.rt v H') ∧
  (∀ (σ' : Env) h' τ' F' H', Same F F' → SR T ⟨[], F0, G0⟩ F' G (wipeE i σ').nex h' (gone i τ') H' → ct (wipeE i σ').nex h' → De.ct τ' H')
theorem wipe_gone {pn : List (Addr × Obj)} {F0 G0 F G : Hp} {σ : Env} {h : AH} {τ : L2.St} {H : Hp} {i : Option Nat} (x : SR T ⟨pn, F0, G0⟩ F G σ h τ H) : SR T ⟨[], F0, G0⟩ F G (wipeE i σ).nex h (gone i τ) H := by
  cases i with
  | none => exact x.nex
  | some j => exact (x.forget (i := j) (o := none)).nex
theorem suite_ok {i : Option Nat} {b : Ss} {st : Stmt} {rest : List Stmt} {e : Addr} {oe : Obj} {cls : Value} {d : Option Addr} {pn : List (Addr × Obj)} (z : Zc cls d oe) (fv : ∃ vs, oe.data = .fields vs)
    (hb : ∀ F0 G0, PSs (X.suite e ((e, oe) :: pn)) (st :: rest) (LS T (X.suite e ((e, oe) :: pn)) ⟨F0, G0, fun _ _ _ => False⟩ (wpSs Γ b))) : PSs (X.suite e ((e, oe) :: pn)) (st :: rest) (HSt T Γ i b e cls d) := by
  refine PSs.imp (PSs.ex (α := Hp × Hp) fun a => hb a.1 a.2) fun D τ H ⟨τ2, F0, G0, F, G, σ, h, nx, rt, ct, c, dv, dd, v, e1, e2, e3, e4, r, sr, w, k1, k2, k3⟩ => ?_
  subst e1 e2 e3
  refine ⟨(F0, G0), F, G, bindE i c dv σ.nex, h, (fun σ h => nx (wipeE i σ).nex h), rt, (fun σ h => ct (wipeE i σ).nex h), ?_, w, ?_, ?_, ?_⟩
  · have s0 : SR0 T ((e, oe) :: pn) F G σ.nex h τ2 H := by
      have := sr.s.nex (pn' := (e, oe) :: pn)
      rw [Env.nex_nex] at this
      exact this
    cases i with
    | none => exact ⟨s0, sr.lF, sr.lG⟩
    | some j => exact ⟨s0.catch_ List.mem_cons_self z fv e4 r, sr.lF, sr.lG⟩
  · exact fun σ' h' τ' F' H' s sr' q => k1 σ' h' τ' F' H' s (wipe_gone sr') q
  · exact fun d h' v σ' τ' F' H' s sr' r q => k2 d h' v σ' τ' F' H' s sr'.nex r q
  · exact fun σ' h' τ' F' H' s sr' q => k3 σ' h' τ' F' H' s (wipe_gone sr') q
def hdsL (T : Tb) (Γ : Gam) : Hs → List (Value × Option Nat × HTS)
  | .nil => []
  | .cons c n b r => (.ref (T.cA c), n, HSt T Γ n b) :: hdsL T Γ r
theorem hds_go (hK : X.K = T.K) (exm : ∀ c1 c2 b, Γ.sub c1 c2 = some b → PySem.W.exmOne T.K (.ref (T.cA c1)) (.ref (T.cA c2)) = some b) {De : Ends} {F G : Hp} {nx ct : Env → AH → Prop} {rt : D → AH → Prop} (lF : Same RR.F0 F) (lG : G = RR.G0)
    (k1 : ∀ σ' h' τ' F' H', Same F F' → SR T (RR.lk X) F' G σ' h' τ' H' → nx σ' h' → De.nx τ' H') (k2 : ∀ d h' v σ' τ' F' H', Same F F' → SR T (RR.lk X) F' G σ' h' τ' H' → Rep T F' d v → rt d h' → De.rt v H')
    (k3 : ∀ σ' h' τ' F' H', Same F F' → SR T (RR.lk X) F' G σ' h' τ' H' → ct σ' h' → De.ct τ' H') :
    ∀ (hs : Hs) {x : Exc} {σ : Env} {h : AH} {F1 : Hp} {τ : L2.St} {H : Hp} {dd : Addr} {v : V}, SR T ⟨[], F, G⟩ F1 G σ.nex h τ H → F1 dd = some (.xd [(T.xf x.c, v)]) → Rep T F1 x.v v → wpH Γ hs x σ.nex h ⟨nx, rt, ct, RR.R⟩ →
      wHds X.K (WR T X RR) De (hdsL T Γ hs) (.ref (T.cA x.c)) (some dd) τ H
  | .nil, x, σ, h, F1, τ, H, dd, v, sr, hF, r, w => by
    have s0 := sr.s.nex (pn' := X.pn)
    rw [Env.nex_nex] at s0
    exact ⟨F1, G, σ.nex, h, x, dd, v, rfl, rfl, ⟨s0, lF.trans sr.lF, lG⟩, hF, r, w⟩
  | .cons c n b hr, x, σ, h, F1, τ, H, dd, v, sr, hF, r, w => by
    have up : ∀ {F2 : Hp} {σ2 : Env} {h2 : AH} {τ2 : L2.St} {H2 : Hp}, SR T ⟨[], F, G⟩ F2 G σ2.nex h2 τ2 H2 → SR T (RR.lk X) F2 G σ2.nex h2 τ2 H2 := fun {F2 σ2 h2 τ2 H2} s2 => by
      have s0 := s2.s.nex (pn' := X.pn)
      rw [Env.nex_nex] at s0
      exact ⟨s0, lF.trans s2.lF, lG⟩
    unfold wpH at w
    cases q : Γ.sub x.c c with
    | none => simp only [q] at w
    | some t =>
      simp only [q] at w
      cases t with
      | false =>
        refine ⟨false, hK ▸ exm _ _ _ q, (fun z => by cases z), fun _ => ?_⟩
        exact hds_go hK exm lF lG k1 k2 k3 hr sr hF r w
      | true =>
        refine ⟨true, hK ▸ exm _ _ _ q, fun _ e _ => ?_, (fun z => by cases z)⟩
        refine ⟨τ, F, G, F1, G, σ, h, nx, rt, ct, x.c, x.v, dd, v, rfl, rfl, rfl, hF, r, sr, ?_, ?_, ?_, ?_⟩
        · cases n with
          | none => exact w
          | some i => exact w
        · exact fun σ' h' τ' F' H' s sr' q => k1 _ h' _ F' H' (sr.lF.trans s) (up sr') q
        · exact fun d h' v σ' τ' F' H' s sr' r q => k2 d h' v _ τ' F' H' (sr.lF.trans s) (up sr') r q
        · exact fun σ' h' τ' F' H' s sr' q => k3 _ h' _ F' H' (sr.lF.trans s) (up sr') q
theorem ls_try {b : Ss} {hs : Hs} {body : List Stmt} {h1 : ExceptHandler} {hds : List ExceptHandler} {pos : Pos} (hK : X.K = T.K) (stk : X.stack = X.env :: X.outer) (frm : X.env.frame = some X.env.locals) (nd : X.N.Nodup) (tk : Takes X (WR T X RR))
    (exm : ∀ c1 c2 b, Γ.sub c1 c2 = some b → PySem.W.exmOne T.K (.ref (T.cA c1)) (.ref (T.cA c2)) = some b)
    (hb : ∀ (pn : List (Addr × Obj)) (xe : Value → Shared → Prop) (R2 : RRt), Takes (X.tr pn xe) (WR T (X.tr pn xe) R2) → PassesOwn (model X.prog X.w) X.A X.env xe → Same RR.F0 R2.F0 → R2.G0 = RR.G0 → PSs (X.tr pn xe) body (LS T (X.tr pn xe) R2 (wpSs Γ b)))
    (hh : HdsN X (h1 :: hds) (hdsL T Γ hs)) : PS X (.Try body (h1 :: hds) [] [] pos) (LS T X RR (wpS Γ (.try_ b hs))) := by
  let Pr : WX → Hp → Hp → (Exc → Env → AH → Prop) → Prop := fun W F0 G0 R => ∀ (x : Exc) (σ : Env) (h : AH) (F G : Hp) (τ : L2.St) (H : Hp) (dd : Addr) (v : V), SR T ⟨[], F0, G0⟩ F G σ.nex h τ H → F dd = some (.xd [(T.xf x.c, v)]) → Rep T F x.v v → R x σ h → W (.ref (T.cA x.c)) (some dd) τ H
  let tbN : Hp → Hp → (Exc → Env → AH → Prop) → TS := fun F0 G0 R De τ H => ∃ (F G : Hp) (σ : Env) (h : AH) (nx : Env → AH → Prop) (rt : D → AH → Prop) (ct : Env → AH → Prop), SR T ⟨[], F0, G0⟩ F G σ.nex h τ H ∧ wpSs Γ b σ.nex h ⟨fun σ h => nx σ.nex h, rt, fun σ h => ct σ.nex h, R⟩ ∧
    (∀ (σ' : Env) h' τ' F' H', Same F F' → SR T ⟨[], F0, G0⟩ F' G σ'.nex h' τ' H' → nx σ'.nex h' → De.nx τ' H') ∧ (∀ d h' v (σ' : Env) τ' F' H', Same F F' → SR T ⟨[], F0, G0⟩ F' G σ'.nex h' τ' H' → Rep T F' d v → rt d h' → De.rt v H') ∧
    (∀ (σ' : Env) h' τ' F' H', Same F F' → SR T ⟨[], F0, G0⟩ F' G σ'.nex h' τ' H' → ct σ'.nex h' → De.ct τ' H')
  let tb : WX → TS := fun W De τ H => ∃ a : {p : Hp × Hp × (Exc → Env → AH → Prop) // Pr W p.1 p.2.1 p.2.2 ∧ Same RR.F0 p.1 ∧ p.2.1 = RR.G0}, tbN a.1.1 a.1.2.1 a.1.2.2 De τ H
  have main := ps_try_hds (body := body) (pos := pos) (tb := tb) (Wo := WR T X RR) stk frm nd tk (fun W pn xe tk2 pas => ?_) hh
  · refine PS.imp main fun D τ H ⟨F, G, σ, h, nx, rt, ct, sr, w, k1, k2, k3⟩ => ?_
    have w : wpSs Γ b σ.nex h ⟨fun σ h => nx σ.nex h, rt, fun σ h => ct σ.nex h, fun x σ h => wpH Γ hs x σ.nex h ⟨nx, rt, ct, RR.R⟩⟩ := w
    have up : ∀ {F2 : Hp} {σ2 : Env} {h2 : AH} {τ2 : L2.St} {H2 : Hp}, SR T ⟨[], F, G⟩ F2 G σ2.nex h2 τ2 H2 → SR T (RR.lk X) F2 G σ2.nex h2 τ2 H2 := fun {F2 σ2 h2 τ2 H2} s2 => by
      have s0 := s2.s.nex (pn' := X.pn)
      rw [Env.nex_nex] at s0
      exact ⟨s0, sr.lF.trans s2.lF, sr.lG⟩
    refine ⟨⟨(F, G, fun x σ h => wpH Γ hs x σ.nex h ⟨nx, rt, ct, RR.R⟩), ?_, sr.lF, sr.lG⟩, F, G, σ, h, nx, rt, ct, ⟨sr.s.nex, Same.refl _, rfl⟩, w, ?_, ?_, ?_⟩
    · intro x σ' h' F' G' τ' H' dd v sr' hF r q
      have eG : G' = G := sr'.lG
      subst eG
      exact hds_go hK exm sr.lF sr.lG k1 k2 k3 hs sr' hF r q
    · exact fun σ' h' τ' F' H' s sr' q => k1 _ h' τ' F' H' s (up sr') q
    · exact fun d h' v σ' τ' F' H' s sr' r q => k2 d h' v _ τ' F' H' s (up sr') r q
    · exact fun σ' h' τ' F' H' s sr' q => k3 _ h' τ' F' H' s (up sr') q
  · refine PSs.ex fun a => ?_
    obtain ⟨⟨F0, G0, R⟩, pr, sF0, eG0⟩ := a
    have tk3 : Takes (X.tr pn xe) (WR T (X.tr pn xe) ⟨F0, G0, R⟩) := Takes.imp tk2 fun cls d τ H ⟨F, G, σ, h, x, dd, v, e1, e2, sr, hF, r, q⟩ => by
      subst e1 e2
      exact pr x σ h F G τ H dd v sr.nex hF r q
    refine PSs.imp (hb pn xe ⟨F0, G0, R⟩ tk3 pas sF0 eG0) fun D τ H ⟨F, G, σ, h, nx, rt, ct, sr, w, k1, k2, k3⟩ => ?_
    refine ⟨F, G, σ.nex, h, (fun σ h => nx σ.nex h), rt, (fun σ h => ct σ.nex h), ?_, w, ?_, ?_, ?_⟩
    · have s0 := sr.s.nex (pn' := pn)
      rw [Env.nex_nex] at s0
      exact ⟨s0, sr.lF, sr.lG⟩
    · exact fun σ' h' τ' F' H' s sr' q => k1 σ' h' τ' F' H' s sr'.nex q
    · exact fun d h' v σ' τ' F' H' s sr' r q => k2 d h' v σ' τ' F' H' s sr'.nex r q
    · exact fun σ' h' τ' F' H' s sr' q => k3 σ' h' τ' F' H' s sr'.nex q
end
end FF

namespace FF
open PySem PySem.Spec PyProof.Rows L2

/-! ### a call that is given to a def -/
abbrev HSpec := (AH → QE → RE → Prop) → AH → QE → RE → Prop
/-- the promise of a def that is given a call: tl, what the call does, in the layer's words -/
def promH (T : Tb) (sp : HSpec) (tl : XK → Hp → VK → Prop) (H : Hp) (Q : VK) (E : XK) : Prop := ∃ F G h act Qd Rd, SH T F G h H ∧ sp act h Qd Rd ∧
  (∀ d h' v F' H', Same F F' → SH T F' G h' H' → Rep T F' d v → Qd d h' → Q v H') ∧
  (∀ x h' F' H' dd v, Same F F' → SH T F' G h' H' → F' dd = some (.xd [(T.xf x.c, v)]) → Rep T F' x.v v → Rd x h' → E (.ref (T.cA x.c)) (some dd) H') ∧
  (∀ F1 G1 h1 H1 Qa Ra (E' : XK) (Q' : VK), Same F F1 → SH T F1 G1 h1 H1 → act h1 Qa Ra →
    (∀ d h' v F' H', Same F1 F' → SH T F' G1 h' H' → Rep T F' d v → Qa d h' → Q' v H') →
    (∀ x h' F' H' dd v, Same F1 F' → SH T F' G1 h' H' → F' dd = some (.xd [(T.xf x.c, v)]) → Rep T F' x.v v → Ra x h' → E' (.ref (T.cA x.c)) (some dd) H') → tl E' H1 Q')
/-- the body of the def keeps the promise, wherever it is called -/
def GivesL (P : Program) (w : World) (T : Tb) (mg : Str → Option Value) (base : Heap) (k : Nat) (sp : HSpec) (N : List Str) (x : Str) (sg : Scope) (g : Addr) (cdg : Value) (bg : List Stmt) (a : Str) : Prop :=
  ∀ (A : Around) (outer : List PySem.Env) (f c' : Addr) (q : Str) (s : Shared) (H : Hp) (E : XK) (tl : XK → Hp → VK → Prop) (Q : VK), Room k (A.deeper (envOfC x sg s.heap.objs.size g cdg)) →
    (∀ (W : WX) (pn : List (Addr × Obj)) (xe : Value → Shared → Prop) (p1 p2 : Pos), Takes ((cxOf (L2.CX P w) P w T.K mg base N x sg g cdg A outer s H E).tr pn xe) W →
      PE ((cxOf (L2.CX P w) P w T.K mg base N x sg g cdg A outer s H E).tr pn xe) (.Call (.Name a p1) [] [] p2) (fun τ HZ Q => τ[0]? = some (some (.ref f)) ∧ HZ c' = some (LamX.CodeO c' q) ∧ tl (WE W τ) HZ Q)) →
    H c' = some (LamX.CodeO c' q) → promH T sp tl H Q E →
    ∃ t, PSs (cxOf (L2.CX P w) P w T.K mg base N x sg g cdg A outer s H E) bg t ∧ t { nx := fun _ H' => Q .non H', rt := Q } (L2.start N [.ref f]) H
/-- a def that is given a call -/
structure GoodH (P : Program) (w : World) (T : Tb) (mg : Str → Option Value) (base : Heap) (k : Nat) (n : Nat) (sp : HSpec) : Prop where
  ex : ∃ (x a : Str) (params : Arguments) (bg : List Stmt) (sg : Scope) (fd : FuncData) (N : List Str), FunD T.K x x params bg sg [] [] (T.fA n) fd ∧ FnScope N [a] sg ∧ N[0]? = some a ∧ Vis sg a ∧ (a == ("__debug__" : Str)) = false ∧ (a == ("__classdict__" : Str)) = false ∧
    Binds T.K fd [a] [] ∧ ∀ cdv, GivesL P w T mg base k sp N x sg (T.fA n) cdv bg a
theorem GoodH.mono {P : Program} {w : World} {T : Tb} {mg : Str → Option Value} {base : Heap} {j k n : Nat} {sp : HSpec} (g : GoodH P w T mg base j n sp) (h : j ≤ k) : GoodH P w T mg base k n sp := by
  obtain ⟨x, a, params, bg, sg, fd, N, h1, h2, h3, h4, h5, h6, h7, h8⟩ := g.ex
  exact ⟨x, a, params, bg, sg, fd, N, h1, h2, h3, h4, h5, h6, h7, fun cdv A outer f c' q s H E tl Q r => h8 cdv A outer f c' q s H E tl Q (r.mono h)⟩
section
variable {X : Cx} {T : Tb} {RR : RRt} {pins : List (Addr × Obj)} {σ : L2.St} {H : Hp} {s : Shared}
/-- the call of what was given, in the def's frame: what is let out is told of the def's own names -/
theorem act_go {CXg : CXT} {Eg : XK} {Ng : List Str} {qg : Str} {sg : Scope} {g f c' : Addr} {cdg pm ctv : Value} {params : Arguments} {body : Expr} {scope : Scope} {k : Nat} {a : Str} {pn : List (Addr × Obj)} {xe : Value → Shared → Prop} {W : WX} {tb : XK → TE} {p1 p2 : Pos}
    (I : Inv X pins σ H s) (L : LamX.LamS X.env.scope scope)
    (hf : s.heap.get? f = some (PySem.W.kla_obj "<lambda>" (X.env.qual ++ "<lambda>") params body scope (cloFrom X.env.cells scope.names []) pm c' ctv)) (hfn : H f = none)
    (hfr : f ∉ frs X.stack) (hbind : bindArgs (PySem.W.kla_fn "<lambda>" (X.env.qual ++ "<lambda>") params body scope (cloFrom X.env.cells scope.names []) pm (.ref c') ctv) ⟨[], []⟩ = pure [])
    (tk : Takes ((cxOf CXg X.prog X.w X.K X.mg X.base Ng qg sg g cdg X.A X.stack s H Eg).tr pn xe) W) (hr : Room (k + 1) (X.A.deeper (envOfC qg sg s.heap.objs.size g cdg)))
    (hbody : ∀ (E : XK) (A : Around) (outer : List PySem.Env) (s : Shared) (H : Hp), Room k (A.deeper (LamX.lamEnv X scope s.heap.objs.size f c')) → PE (LamX.lamCx X A outer s H E scope f c') body (tb E))
    (hN : Ng[0]? = some a) (hv : Vis sg a) (hd : (a == ("__debug__" : Str)) = false) (hcd : (a == ("__classdict__" : Str)) = false) :
    PE ((cxOf CXg X.prog X.w X.K X.mg X.base Ng qg sg g cdg X.A X.stack s H Eg).tr pn xe) (.Call (.Name a p1) [] [] p2) (fun τ HZ Q => τ[0]? = some (some (.ref f)) ∧ HZ c' = some (LamX.CodeO c' (X.env.qual ++ "<lambda>")) ∧ tb (WE W τ) σ HZ Q) := by
  constructor
  rintro pinsZ sZ τ HZ Q IZ ⟨hs, hc, ht⟩
  have nm := (pe_var (X := (cxOf CXg X.prog X.w X.K X.mg X.base Ng qg sg g cdg X.A X.stack s H Eg).tr pn xe) (pos := p1) (i := 0) hN hv hd hcd).run pinsZ sZ τ HZ (fun v H1 => v = .ref f ∧ H1 = HZ) IZ ⟨.ref f, hs, rfl, rfl⟩
  refine wpAny_Call_Name_kw (thn nm ?_)
  rintro u s1 ⟨v, H1, I1, r1, rfl, rfl⟩
  cases (show u = Value.ref f from r1)
  have of1 := I1.base.keep f _ hf hfn hfr (fun z => nomatch (show f ∈ ([] : List Addr) from z))
  refine PySem.W.callWith_F0 ⟨_, _, _, _, of1⟩ ?_
  obtain ⟨⟨oc, vs, t, hoc, hdc, hvc⟩, _, _⟩ := I1.hok c' _ hc
  let ev := envOfC qg sg s.heap.objs.size g cdg
  have rc : codeAny (model X.prog X.w) (X.A.deeper ev) (.call (.ref f) ⟨[], []⟩) (CR (L2.CX X.prog X.w) (ev :: X.stack) X.prog X.w H1 s1 Q (WE W τ)) s1 := by
    refine PySem.W.kla_callFunE hr.depth of1 rfl L.co L.gen rfl ⟨c', oc, vs, t, rfl, hoc, hdc, hvc⟩ ?_
    rw [hbind]
    refine wpAny_pure (wpAny_newFunctionEnv (fun y hy => (L.own y hy).2) (fun y hy => absurd hy (by simp)) (fun h₁ hns hsb => ⟨I1.nolimit.fresh _ hsb, ?_⟩) L.kind)
    have kp : ∀ b o, s1.heap.get? b = some o → h₁.get? b = some o := fun b o e => hsb.extBut b o (Nat.ne_of_lt (Heap.lt_size e)) (Heap.get?_push_of_some _ e)
    have un : Un (frs X.stack) [] H H1 s.heap s1.heap := I1.base
    have J := LamX.lam_start2 (A := X.A.deeper ev) (outer := ev :: X.stack) (E := WE W τ) (f := f) (c' := c') (tk := s1.toks + ([] : List (Str × Value)).length) I L I1.env0 hr.hd un hns kp
    refine PySem.W.kla_codeExpr (wpAny_mono ((hbody (WE W τ) _ _ s1 H1 (hr.deeper _)).run [] _ _ H1 Q J ht) ?_ fun e s' hq => hq)
    rintro v s' ⟨w', H', J', rv, q⟩
    exact ⟨w', H', J'.os, J'.bare, J'.base, J'.hok, rv, q⟩
  refine wpAny_call (codeAny_mono rc fun r s' hq => ?_)
  cases r with
  | error e => exact passAt tk τ pinsZ H1 s1 e s' I1 hq
  | ok fl =>
    cases fl with
    | ret u => exact I1.after hq
    | next => exact False.elim hq
    | brk => exact False.elim hq
    | cont => exact False.elim hq
theorem pe_ex {α : Type} {X : Cx} {e : Expr} {t : α → TE} (h : ∀ a, PE X e (t a)) : PE X e (fun τ H Q => ∃ a, t a τ H Q) := ⟨fun pins s τ H Q I ⟨a, q⟩ => (h a).run pins s τ H Q I q⟩
/-- what was given may be called here -/
def ActOk (T : Tb) (Γ : Gam) (X : Cx) (RR : RRt) : Prop := ∀ (x : Str) (p1 p2 : Pos), X.N[0]? = some x → PE X (.Call (.Name x p1) [] [] p2) (LE T X RR (wpE Γ (.act 0)))
/-- from a state to the same one within the lambda -/
theorem lam_in {Γ : Gam} {e : E} {F F1 G G' : Hp} {σa : Env} {h h1 : AH} {τ : L2.St} {H H1 : Hp} {lk : Lk} {Qa : QE} {Ra : RE} {E' : XK} {Q' : VK} {X' : Cx} (hpn : X'.pn = []) (sr : SR T lk F G σa h τ H) (s1 : Same F F1) (sh : SH T F1 G' h1 H1) (w : wpE Γ e σa.nox h1 Qa Ra)
    (kq : ∀ d h' v F' H', Same F1 F' → SH T F' G' h' H' → Rep T F' d v → Qa d h' → Q' v H')
    (kr : ∀ x h' F' H' dd v, Same F1 F' → SH T F' G' h' H' → F' dd = some (.xd [(T.xf x.c, v)]) → Rep T F' x.v v → Ra x h' → E' (.ref (T.cA x.c)) (some dd) H') :
    (∀ cls d τ' H', WR T X' ⟨F1, G', fun x _ h => Ra x h⟩ cls d τ' H' → E' cls d H') ∧ LE T X' ⟨F1, G', fun x _ h => Ra x h⟩ (wpE Γ e) τ H1 Q' := by
  refine ⟨?_, F1, G', σa.nox, h1, Qa, ?_, w, ?_⟩
  · rintro cls d τ' H' ⟨F2, G2, σ2, h2, x, dd, v, rfl, rfl, sr2, e1, rv, q⟩
    have eG : G2 = G' := sr2.lG
    subst eG
    exact kr x h2 F2 H' dd v sr2.lF sr2.sh e1 rv q
  · have q := sr.nox (pn' := []) s1 sh
    refine ⟨?_, Same.refl _, rfl⟩
    have z : (RRt.lk ⟨F1, G', fun x _ h => Ra x h⟩ X').pn = [] := hpn
    rw [z]
    exact q.s
  · exact fun d h' v F' H' s sr' r q => kq d h' v F' H' s sr'.sh r q
theorem le_lamc {Γ : Gam} {k n : Nat} {e : E} {x : Str} {body : Expr} {scope : Scope} {c P : Addr} {p lpos pos : Pos} (hK : X.K = T.K) (g : GoodH X.prog X.w T X.mg X.base (k + 1) n (Γ.hf n)) (hr : Room (k + 2) X.A) (hg : Gl X x) (hm : X.mg x = some (.ref (T.fA n)))
    (tk : Takes X (WR T X RR)) (hdb : (x == ("__debug__" : Str)) = false) (TB : LamX.TabB X.base X.mg c P) (hcode : X.env.code = .ref c) (hmT : (P, X.env.qual ++ "<lambda>") ∈ T.lam) (hu : ∀ p ∈ T.lam, p.1 = P → p.2 = X.env.qual ++ "<lambda>") (L : LamX.LamS X.env.scope scope)
    (hbody : ∀ (A : Around) (outer : List PySem.Env) (s : Shared) (H : Hp) (E' : XK) (f c' : Addr) (R2 : RRt), Room k (A.deeper (LamX.lamEnv X scope s.heap.objs.size f c')) → Takes (LamX.lamCx X A outer s H E' scope f c') (WR T (LamX.lamCx X A outer s H E' scope f c') R2) →
      PE (LamX.lamCx X A outer s H E' scope f c') body (LE T (LamX.lamCx X A outer s H E' scope f c') R2 (wpE Γ e))) :
    PE X (.Call (.Name x p) [.Lambda ⟨[], [], none, [], [], none, []⟩ body scope lpos] [] pos) (LE T X RR (wpE Γ (.lamc n e))) := by
  obtain ⟨y, a, params, bg, sg, fd, N, FD, Sg, hN, hva, hd, hcd, hb, hG⟩ := g.ex
  obtain ⟨oc, od, dV, kV, doc, pm, an, cdv, ct, osl, rfl, lk, hcg, _, _⟩ := FD.ex
  have FD' := FD
  rw [← hK] at lk hcg hb FD'
  constructor
  rintro pins s τ H Q I ⟨F0, G, σa, h, Qd, sr, w, kk⟩
  refine wpAny_Call_Name_kw (ld_glob I hg hm ?_ hdb)
  refine PySem.W.callWith_K (h₀ := X.base) I.ok.mod.kin FD'.kp ?_ (by rfl) (by rfl)
  show wpAny _ _ (spliced ((false, eval (.Lambda ⟨[], [], none, [], [], none, []⟩ body scope lpos) X.env) :: backTo pos (starEach [] X.env))) _ _ s
  refine Calls.spliced_cons (LamX.lam_make2 (T := T.lam) I TB hcode hmT hu sr.sh.tb.tabs rfl (L.has I.ok) ?_)
  intro f c' pm' ctv H1 s' I1 eN T1 hf hfn hfr hco
  refine Calls.spliced_nil ⟨I1.kIn, ?_⟩
  obtain ⟨G', sh0, back⟩ := sr.call
  have sh1 := sh0.tabs eN T1
  let tl : XK → Hp → VK → Prop := fun E' HZ Q' => ∃ R2 : {R2 : RRt // ∀ cls d (τ' : L2.St) H', (∃ F G σ h x dd v, cls = .ref (T.cA x.c) ∧ d = some dd ∧ SR T ⟨[], R2.F0, R2.G0⟩ F G σ h τ' H' ∧ F dd = some (.xd [(T.xf x.c, v)]) ∧ Rep T F x.v v ∧ R2.R x σ h) → E' cls d H'},
    LE T { X with pn := [] } R2.1 (wpE Γ e) τ HZ Q'
  have pr : promH T (Γ.hf n) tl H1 Q (WE (WR T X RR) τ) := by
    refine ⟨F0, G', h, _, Qd, _, sh1, w, fun d h' v F' H' s sh' rv q => kk d h' v F' H' s (back F' h' H' s sh') rv q, fun x h' F' H' dd v s sh' e rv q => ?_, fun F1 G1 h1 H2 Qa Ra E' Q' s1 sh w1 kq kr => ?_⟩
    · exact ⟨F', G, σa, h', x, dd, v, rfl, rfl, back F' h' H' s sh', e, rv, q⟩
    · obtain ⟨a1, a2⟩ := lam_in (X' := { X with pn := [] }) rfl sr s1 sh w1 kq kr
      exact ⟨⟨⟨F1, G1, fun x _ h => Ra x h⟩, a1⟩, a2⟩
  have rc : codeAny (model X.prog X.w) X.A (.call (.ref (T.fA n)) ⟨[.ref f], []⟩) (CR (L2.CX X.prog X.w) X.stack X.prog X.w H1 s' Q (WE (WR T X RR) τ)) s' := by
    refine LamX.run_ofS (N := N) (ps := [a]) (us := [.ref f]) (vs := [.ref f]) lk hcg Sg hr I1.env0 (hb s' [.ref f] I1.kIn rfl) (.cons rfl .nil) rfl fun hr' => ?_
    have gv := hG cdv X.A X.stack f c' (X.env.qual ++ "<lambda>") s' H1 (WE (WR T X RR) τ) tl Q hr'
    rw [← hK] at gv
    refine gv (fun W pn xe p1 p2 tkW => ?_) hco pr
    refine act_go (tb := fun E' σ HZ Q' => ∃ R2 : {R2 : RRt // ∀ cls d (τ' : L2.St) H', (∃ F G σ h x dd v, cls = .ref (T.cA x.c) ∧ d = some dd ∧ SR T ⟨[], R2.F0, R2.G0⟩ F G σ h τ' H' ∧ F dd = some (.xd [(T.xf x.c, v)]) ∧ Rep T F x.v v ∧ R2.R x σ h) → E' cls d H'}, LE T { X with pn := [] } R2.1 (wpE Γ e) σ HZ Q')
      I1 L hf hfn hfr rfl tkW hr' (fun E' A outer s H hr2 => ?_) hN hva hd hcd
    refine pe_ex fun R2 => ?_
    refine PE.imp (hbody A outer s H E' f c' R2.1 hr2 ?_) fun τ H Q z => z
    exact Takes.imp (takes_of (X := LamX.lamCx X A outer s H E' scope f c') (E := E') rfl rfl rfl rfl) fun cls d τ' H' q => R2.2 cls d τ' H' q
  refine wpAny_call (codeAny_mono rc fun r s2 hq => ?_)
  cases r with
  | error e => exact passAt tk τ pins H1 s' e s2 I1 hq
  | ok fl =>
    cases fl with
    | ret u => exact I1.after hq
    | next => exact False.elim hq
    | brk => exact False.elim hq
    | cont => exact False.elim hq
end
end FF

namespace FF
open PySem PySem.Spec PyProof.Rows L2

/-! ### what is checked -/
structure Wd where
  fns : List (Nat × Str)
  fnK : List (Nat × Str × Nat × List Str × List Nat)
  fnD : List (Nat × Str × List D)
  cons : List (Nat × Str × D)
  tbl : List Str
  cv : Bool
  cm : Bool := true
  mks : List (Nat × Nat × Str) := []
  mets : List (Nat × Nat × Str) := []
  flds : List (Nat × Str) := []
  iso : List (Nat × Str) := []
  rss : List (Nat × Str) := []
  hcl : List (Nat × Str) := []
  xfs : List (Nat × Str) := []
  /-- defs that are given a call -/
  hfs : List (Nat × Str) := []
  /-- a lambda may stand here; what was given may be called here, or in a try -/
  lm : Bool := false
  act : Bool := false
  acts : Bool := false
/-- what may be asked where an exception is handled -/
def Wd.hot (W : Wd) : Wd := { W with cm := false, hfs := [], lm := false, act := false, acts := false }
/-- within a comprehension, within a lambda -/
def Wd.blk (W : Wd) : Wd := { W with hfs := [], lm := false, act := false, acts := false }
/-- within a try -/
def Wd.tr (W : Wd) : Wd := { W with act := W.acts }
/-! the same constant -/
mutual
def D.same : D → D → Bool
  | .non, b => match b with
    | .non => true
    | _ => false
  | .bl a, b => match b with
    | .bl b => a == b
    | _ => false
  | .int a, b => match b with
    | .int b => decide (a = b)
    | _ => false
  | .str a, b => match b with
    | .str b => decide (a = b)
    | _ => false
  | .tup a, b => match b with
    | .tup b => sameL a b
    | _ => false
  | _, _ => false
def sameL : List D → List D → Bool
  | [], b => b.isEmpty
  | a :: r, b => match b with
    | b :: s => D.same a b && sameL r s
    | [] => false
end
mutual
theorem D.same_ok : ∀ {a b : D}, D.same a b = true → a = b
  | .non, b, h => by cases b <;> first | rfl | cases h
  | .bl a, b, h => by cases b <;> first | exact congrArg D.bl (beq_iff_eq.mp h) | cases h
  | .int a, b, h => by cases b <;> first | exact congrArg D.int (of_decide_eq_true h) | cases h
  | .str a, b, h => by cases b <;> first | exact congrArg D.str (of_decide_eq_true h) | cases h
  | .tup a, b, h => by
    cases b with
    | tup b => exact congrArg D.tup (sameL_ok (show sameL a b = true from h))
    | _ => cases h
  | .lst _, _, h => by cases h
  | .obj _ _, _, h => by cases h
  | .ref _, _, h => by cases h
  | .fn _, _, h => by cases h
  | .clo _ _, _, h => by cases h
  | .odd _, _, h => by cases h
theorem sameL_ok : ∀ {a b : List D}, sameL a b = true → a = b
  | [], b, h => (List.isEmpty_iff.mp (show b.isEmpty = true from h)).symm
  | a :: r, b, h => by
    cases b with
    | nil => cases h
    | cons b s =>
      obtain ⟨h1, h2⟩ := Bool.and_eq_true_iff.mp (show (D.same a b && sameL r s) = true from h)
      rw [D.same_ok h1, sameL_ok h2]
end
structure CK where
  N : List Str
  names : List (Str × NameKind)
  fnb : Str → Bool
def stdNames : List Str := ["abs", "int", "len", "max", "min", "sum", "all", "any", "range", "zip", "enumerate", "isinstance", "bool", "str", "tuple", "list", "divmod"]
def CK.see (C : CK) (i : Nat) (x : Str) : Bool := decide (C.N[i]? = some x) && (match C.names.lookup x with | some .local => true | some .cell => true | some .free => true | _ => false) && !(x == ("__debug__" : Str)) && !(x == ("__classdict__" : Str))
def CK.own (C : CK) (i : Nat) (x : Str) : Bool := decide (C.N[i]? = some x) && (match C.names.lookup x with | some .local => true | some .cell => C.fnb x | _ => false)
def CK.loc (C : CK) (i : Nat) (x : Str) : Bool := decide (C.N[i]? = some x) && decide (C.names.lookup x = some .local)
def CK.gl (C : CK) (x : Str) : Bool := decide (C.names.lookup x = some .globalImplicit) && !(x == ("__debug__" : Str))
def relN (names : List (Str × NameKind)) (up : List (Str × NameKind)) : List (Str × NameKind) := names.map fun (n, k) => if (k == .free && up.lookup n == some .cell) then (n, .cell) else (n, k)
def CK.blk (C : CK) (scope : Scope) : CK := ⟨C.N, relN scope.names C.names, fun x => scope.names.lookup x == some .cell⟩
def CK.lam (C : CK) (scope : Scope) : CK := ⟨C.N, scope.names, fun _ => false⟩
def CK.sc (C : CK) : Scope := { kind := .function, names := C.names, isGenerator := false, isCoroutine := false, more := [] }
def noSet : Expr → Bool
  | .Set _ _ _ => false
  | _ => true
def noComp : Expr → Bool
  | .ListComp _ _ _ _ => false
  | .SetComp _ _ _ _ => false
  | .DictComp _ _ _ _ _ => false
  | _ => true
/-- a test whose truth is read off -/
def tst : Expr → Bool
  | .IfExp _ _ _ _ => false
  | _ => true
def Bi.nm : Bi → String
  | .abs => "abs" | .int => "int" | .len => "len" | .max => "max" | .min => "min" | .sum => "sum" | .all => "all" | .any => "any" | .divmod => "divmod" | _ => ""
def Bi.on : Bi → Bool
  | .abs => true | .int => true | .len => true | .max => true | .min => true | .sum => true | .all => true | .any => true | .divmod => true | _ => false
def Bi.easy : Bi → Bool
  | .abs => true | .int => true | .len => true | _ => false
def Es.len : Es → Nat
  | .nil => 0
  | .cons _ r => Es.len r + 1
def ownP (C : CK) (own : List Nat) : List (Str × Nat) := own.map fun i => ((C.N[i]?).getD ("" : Str), i)
mutual
def chkT (C : CK) (own : List Nat) : Tg → Expr → Bool
  | .name i, x => match x with
    | .Name n _ => C.own i n && decide (i ∈ own)
    | _ => false
  | .tup ts, x => match x with
    | .Tuple es _ _ => decide (es.length = ts.len) && chkTs C own ts es
    | _ => false
def chkTs (C : CK) (own : List Nat) : Tgs → List Expr → Bool
  | .nil, l => l.isEmpty
  | .cons t ts, l => match l with
    | x :: xs => noStar x && (chkT C own t x && chkTs C own ts xs)
    | [] => false
end
mutual
def chkE (W : Wd) (C : CK) : E → Expr → Bool
  | .var i, x => match x with
    | .Name n _ => C.see i n
    | _ => false
  | .int i, x => match x with
    | .Constant (.int j) _ _ => decide (i = j)
    | _ => false
  | .bl b, x => match x with
    | .Constant (.bool c) _ _ => b == c
    | _ => false
  | .non, x => match x with
    | .Constant .none _ _ => true
    | _ => false
  | .str s, x => match x with
    | .Constant (.str y) _ _ => decide (sOf s = y)
    | _ => false
  | .gcon g d, x => match x with
    | .Name y _ => (W.cons.any fun q => decide (q.1 = g) && decide (q.2.1 = y) && D.same q.2.2 d) && C.gl y
    | _ => false
  | .gfn n, x => match x with
    | .Name y _ => decide ((n, y) ∈ W.fns) && C.gl y
    | _ => false
  | .bin op a b, x => match x with
    | .BinOp l o r _ => decide (o = opM op) && (chkE W C a l && chkE W C b r)
    | _ => false
  | .neg a, x => match x with
    | .UnaryOp .USub y _ => chkE W C a y
    | _ => false
  | .not a, x => match x with
    | .UnaryOp .Not y _ => tst y && chkE W C a y
    | _ => false
  | .ands es, x => match x with
    | .BoolOp .And l _ => decide (0 < es.len) && l.all tst && chkEs W C es l
    | _ => false
  | .ors es, x => match x with
    | .BoolOp .Or l _ => decide (0 < es.len) && l.all tst && chkEs W C es l
    | _ => false
  | .cmp op a b, x => match x with
    | .Compare l [o] [r] _ => decide (o = copM op) && noSet r && (chkE W C a l && chkE W C b r)
    | _ => false
  | .chain o1 o2 a b c, x => match x with
    | .Compare l [p1, p2] [r, s] _ => decide (p1 = copM o1) && decide (p2 = copM o2) && noSet s && (chkE W C a l && (chkE W C b r && chkE W C c s))
    | _ => false
  | .ite c a b, x => match x with
    | .IfExp t y z _ => tst t && (chkE W C c t && (chkE W C a y && chkE W C b z))
    | _ => false
  | .tup es, x => match x with
    | .Tuple l _ _ => chkEs W C es l
    | _ => false
  | .lst es, x => match x with
    | .List l _ => chkEs W C es l
    | _ => false
  | .refl es, x => match x with
    | .List l _ => chkEs W C es l
    | _ => false
  | .dct, x => match x with
    | .Dict [] [] _ => true
    | _ => false
  | .call f es dv, x => match x with
    | .Call (.Name y _) l [] _ => W.cm && ((decide ((f, y) ∈ W.fns) && dv.isEmpty) || ((W.fnD.any fun q => decide (q.1 = f) && decide (q.2.1 = y) && sameL q.2.2 dv) && !l.isEmpty)) && C.gl y && chkEs W C es l
    | _ => false
  | .callk f es ks p, x => match x with
    | .Call (.Name y _) l kws _ => W.cm && (W.fnK.any fun q => decide (q.1 = f) && decide (q.2.1 = y) && decide (q.2.2.1 = es.len) && decide (kws.map (·.arg) = q.2.2.2.1.map some) && decide (q.2.2.2.2 = p)) && C.gl y && (chkEs W C es l && chkKs W C ks kws)
    | _ => false
  | .callv i es, x => match x with
    | .Call (.Name y _) (e :: l) [] _ => W.cm && W.cv && C.see i y && chkEs W C es (e :: l)
    | _ => false
  | .lamc f e, x => match x with
    | .Call (.Name y _) [.Lambda ⟨[], [], none, [], [], none, []⟩ body scope _] [] _ => W.cm && W.lm && decide ((f, y) ∈ W.hfs) && C.gl y && LamX.lamSB C.sc scope && (decide C.N.Nodup && chkE W.blk (C.lam scope) e body)
    | _ => false
  | .act i, x => match x with
    | .Call (.Name y _) [] [] _ => W.act && decide (i = 0) && C.see 0 y
    | _ => false
  | .meth f c o es dv, x => match x with
    | .Call (.Attribute y m ap) l [] p => W.cm && dv.isEmpty && decide ((f, c, m) ∈ W.mets) && noSuper y && (ap.endLine == p.line) && decide (l.length < 30) && (l.isEmpty == (match es with | .nil => true | .cons _ _ => false)) && (chkE W C o y && chkEs W C es l)
    | _ => false
  | .make f c es _, x => match x with
    | .Call (.Name y _) (e :: l) [] _ => W.cm && decide ((f, c, y) ∈ W.mks) && C.gl y && chkEs W C es (e :: l)
    | _ => false
  | .bi b es, x => match x with
    | .Call (.Name y _) (e :: l) [] _ => (W.cm || b.easy) && b.on && decide (y = Str.ofString b.nm) && C.gl y && chkEs W C es (e :: l)
    | _ => false
  | .isin e t, x => match x with
    | .Call (.Name f _) [y, .Name z _] [] _ => match t with
      | .obj c => decide (f = ("isinstance" : Str)) && decide ((c, z) ∈ W.iso) && C.gl f && C.gl z && noStar y && chkE W C e y
      | t => t.on && decide (f = ("isinstance" : Str)) && decide (z = Str.ofString t.nm) && C.gl f && C.gl z && noStar y && chkE W C e y
    | _ => false
  | .bits o, x => match x with
    | .Call (.Attribute y m ap) [] [] p => decide (m = ("bit_length" : Str)) && noSuper y && (ap.endLine == p.line) && chkE W C o y
    | _ => false
  | .count _ _, _ => false
  | .fld o f, x => match x with
    | .Attribute y a _ => decide (W.tbl[f]? = some a) && noSuper y && chkE W C o y
    | _ => false
  | .xfld i cs, x => match x with
    | .Attribute (.Name y p) n _ => C.see i y && noSuper (.Name y p) && cs.all (fun c => decide ((c, n) ∈ W.xfs))
    | _ => false
  | .oidx i e, x => match x with
    | .Subscript (.Name y _) z _ => C.see i y && noSlice z && chkE W C e z
    | _ => false
  | .olen i, x => match x with
    | .Call (.Name y _) [.Name z _] [] _ => decide (y = ("len" : Str)) && C.gl y && C.see i z
    | _ => false
  | .idx o i, x => match x with
    | .Subscript y z _ => noSlice z && (chkE W C o y && chkE W C i z)
    | _ => false
  | .slTo o b, x => match x with
    | .Subscript y (.Slice none (some z) none _) _ => chkE W C o y && chkE W C b z
    | _ => false
  | .slFrom o a, x => match x with
    | .Subscript y (.Slice (some z) none none _) _ => chkE W C o y && chkE W C a z
    | _ => false
  | .slOf o a b, x => match x with
    | .Subscript y (.Slice (some z) (some w) none _) _ => chkE W C o y && (chkE W C a z && chkE W C b w)
    | _ => false
  | .slRev o, x => match x with
    | .Subscript y (.Slice none none (some (.UnaryOp .USub (.Constant (.int 1) _ _) _)) _) _ => chkE W C o y
    | _ => false
  | .comp t it c e own, x => match x with
    | .ListComp elt [⟨tg, iter, ifs, 0⟩] scope _ => W.cm && blkC C.N C.sc scope (ownP C own) && noSet iter && (chkI W C it iter tg && (chkT (C.blk scope) own t tg && (chkC W.blk (C.blk scope) c ifs && chkE W.blk (C.blk scope) e elt)))
    | _ => false
def chkC (W : Wd) (C : CK) : Es → List Expr → Bool
  | .nil, l => l.isEmpty
  | .cons e r, l => match l with
    | [x] => tst x && (chkE W C e x && (match r with | .nil => true | .cons _ _ => false))
    | _ => false
def chkEs (W : Wd) (C : CK) : Es → List Expr → Bool
  | .nil, l => l.isEmpty
  | .cons e r, l => match l with
    | x :: xs => noStar x && (chkE W C e x && chkEs W C r xs)
    | [] => false
def chkKs (W : Wd) (C : CK) : Es → List Keyword → Bool
  | .nil, l => l.isEmpty
  | .cons e r, l => match l with
    | ⟨_, x, _⟩ :: xs => chkE W C e x && chkKs W C r xs
    | [] => false
def chkI (W : Wd) (C : CK) : It → Expr → Expr → Bool
  | .seq e, x, _ => chkE W C e x
  | .rng1 a, x, _ => match x with
    | .Call (.Name y _) [u] [] _ => decide (y = ("range" : Str)) && C.gl y && noStar u && chkE W C a u
    | _ => false
  | .rng2 a b, x, _ => match x with
    | .Call (.Name y _) [u, v] [] _ => decide (y = ("range" : Str)) && C.gl y && noStar u && noStar v && (chkE W C a u && chkE W C b v)
    | _ => false
  | .rng3 _ _ _, _, _ => false
  | .zip a b, x, tg => match tg with
    | .Tuple _ _ _ => match x with
      | .Call (.Name y _) [u, v] [] _ => decide (y = ("zip" : Str)) && C.gl y && noStar u && noStar v && (chkE W C a u && chkE W C b v)
      | _ => false
    | _ => false
  | .enum a, x, tg => match tg with
    | .Tuple _ _ _ => match x with
      | .Call (.Name y _) [u] [] _ => decide (y = ("enumerate" : Str)) && C.gl y && noStar u && chkE W C a u
      | _ => false
    | _ => false
end
/-! ### what it is to be right -/
/-- what is known of a law's defs -/
structure OkG (W : Wd) (T : Tb) (Γ : Gam) (P : Program) (w : World) (mg : Str → Option Value) (base : Heap) (k : Nat) : Prop where
  fr : ∀ x ∈ stdNames, mg x = none
  fns : ∀ p ∈ W.fns, Good P w T mg base k p.1 (Γ.fn p.1) ∧ mg p.2 = some (.ref (T.fA p.1))
  fnK : ∀ p ∈ W.fnK, GoodK P w T mg base k p.1 p.2.2.1 p.2.2.2.1 p.2.2.2.2 (Γ.fn p.1) ∧ mg p.2.1 = some (.ref (T.fA p.1))
  fnD : ∀ p ∈ W.fnD, GoodD P w T mg base k p.1 p.2.2 (Γ.fn p.1) ∧ mg p.2.1 = some (.ref (T.fA p.1))
  cons : ∀ p ∈ W.cons, ∃ v u, mg p.2.1 = some u ∧ RelV v u ∧ ∀ F, Rep T F p.2.2 v
  tbl : W.tbl = T.tbl
  cv : W.cv = true → (∀ n, n < 1000 → (∃ ds h Q R, Γ.fn n ds h Q R) → Good P w T mg base k n (Γ.fn n)) ∧ (∀ n vs ds h Q R, ¬ Γ.clo n vs ds h Q R) ∧ (∀ n, n < 1000 → PySem.W.keepIn T.K (.ref (T.fA n)) = true)
  mks : ∀ p ∈ W.mks, ∃ j, j + 1 ≤ k ∧ GoodI P w T mg base j p.1 p.2.1 (Γ.fn p.1) ∧ mg p.2.2 = some (.ref (T.cA p.2.1))
  mets : ∀ p ∈ W.mets, GoodM P w T mg base k p.1 p.2.1 p.2.2 (Γ.fn p.1) ∧ Cls T.K (T.cA p.2.1)
  flds : ∀ p ∈ W.flds, NoAttr T.K (T.cA p.1) p.2
  iso : ∀ p ∈ W.iso, mg p.2 = some (.ref (T.cA p.1)) ∧ IsoC T.K (T.cA p.1)
  rss : ∀ p ∈ W.rss, ∃ j, j + 1 ≤ k ∧ GoodX P w T mg base j p.1 ∧ mg p.2 = some (.ref (T.cA p.1))
  hcl : ∀ p ∈ W.hcl, mg p.2 = some (.ref (T.cA p.1))
  exm : ∀ c1 c2 b, Γ.sub c1 c2 = some b → PySem.W.exmOne T.K (.ref (T.cA c1)) (.ref (T.cA c2)) = some b
  xfs : ∀ p ∈ W.xfs, T.xf p.1 = p.2 ∧ XfC T.K (T.cA p.1) ∧ PySem.W.findIn T.K (.ref (T.cA p.1)) p.2 = some none
  hfs : ∀ p ∈ W.hfs, GoodH P w T mg base (k + 1) p.1 (Γ.hf p.1) ∧ mg p.2 = some (.ref (T.fA p.1)) := by intro p hp; cases hp
theorem OkG.blk {W : Wd} {T : Tb} {Γ : Gam} {P : Program} {w : World} {mg : Str → Option Value} {base : Heap} {k : Nat} (o : OkG W T Γ P w mg base k) : OkG W.blk T Γ P w mg base k :=
  ⟨o.fr, o.fns, o.fnK, o.fnD, o.cons, o.tbl, o.cv, o.mks, o.mets, o.flds, o.iso, o.rss, o.hcl, o.exm, o.xfs, fun p hp => by cases hp⟩
structure Ok (W : Wd) (T : Tb) (Γ : Gam) (X : Cx) (RR : RRt) (k : Nat) : Prop where
  hK : X.K = T.K
  fr : ∀ x ∈ stdNames, X.mg x = none
  units : X.A.units + 64 < cLine
  room : W.cm = true → Room k X.A
  tk : Takes X (WR T X RR)
  calm : W.cm = true → X.calm = true
  fns : ∀ p ∈ W.fns, Good X.prog X.w T X.mg X.base k p.1 (Γ.fn p.1) ∧ X.mg p.2 = some (.ref (T.fA p.1))
  fnK : ∀ p ∈ W.fnK, GoodK X.prog X.w T X.mg X.base k p.1 p.2.2.1 p.2.2.2.1 p.2.2.2.2 (Γ.fn p.1) ∧ X.mg p.2.1 = some (.ref (T.fA p.1))
  fnD : ∀ p ∈ W.fnD, GoodD X.prog X.w T X.mg X.base k p.1 p.2.2 (Γ.fn p.1) ∧ X.mg p.2.1 = some (.ref (T.fA p.1))
  cons : ∀ p ∈ W.cons, ∃ v u, X.mg p.2.1 = some u ∧ RelV v u ∧ ∀ F, Rep T F p.2.2 v
  tbl : W.tbl = T.tbl
  cv : W.cv = true → (∀ n, n < 1000 → (∃ ds h Q R, Γ.fn n ds h Q R) → Good X.prog X.w T X.mg X.base k n (Γ.fn n)) ∧ (∀ n vs ds h Q R, ¬ Γ.clo n vs ds h Q R) ∧ (∀ n, n < 1000 → PySem.W.keepIn T.K (.ref (T.fA n)) = true)
  mks : ∀ p ∈ W.mks, ∃ j, j + 1 ≤ k ∧ GoodI X.prog X.w T X.mg X.base j p.1 p.2.1 (Γ.fn p.1) ∧ X.mg p.2.2 = some (.ref (T.cA p.2.1))
  mets : ∀ p ∈ W.mets, GoodM X.prog X.w T X.mg X.base k p.1 p.2.1 p.2.2 (Γ.fn p.1) ∧ Cls T.K (T.cA p.2.1)
  flds : ∀ p ∈ W.flds, NoAttr T.K (T.cA p.1) p.2
  iso : ∀ p ∈ W.iso, X.mg p.2 = some (.ref (T.cA p.1)) ∧ IsoC T.K (T.cA p.1)
  rss : ∀ p ∈ W.rss, ∃ j, j + 1 ≤ k ∧ GoodX X.prog X.w T X.mg X.base j p.1 ∧ X.mg p.2 = some (.ref (T.cA p.1))
  hcl : ∀ p ∈ W.hcl, X.mg p.2 = some (.ref (T.cA p.1))
  exm : ∀ c1 c2 b, Γ.sub c1 c2 = some b → PySem.W.exmOne T.K (.ref (T.cA c1)) (.ref (T.cA c2)) = some b
  xfs : ∀ p ∈ W.xfs, T.xf p.1 = p.2 ∧ XfC T.K (T.cA p.1) ∧ PySem.W.findIn T.K (.ref (T.cA p.1)) p.2 = some none
  lam : W.lm = true → ∃ j c P, j + 2 ≤ k ∧ OkG W.blk T Γ X.prog X.w X.mg X.base j ∧ (∀ p ∈ W.hfs, GoodH X.prog X.w T X.mg X.base (j + 1) p.1 (Γ.hf p.1) ∧ X.mg p.2 = some (.ref (T.fA p.1))) ∧ LamX.TabB X.base X.mg c P ∧ X.env.code = .ref c ∧ (P, X.env.qual ++ "<lambda>") ∈ T.lam ∧ ∀ p ∈ T.lam, p.1 = P → p.2 = X.env.qual ++ "<lambda>"
  act : W.act = true → ActOk T Γ X RR
  acts : W.acts = true → ∀ pn xe R2, Takes (X.tr pn xe) (WR T (X.tr pn xe) R2) → Same RR.F0 R2.F0 → R2.G0 = RR.G0 → ActOk T Γ (X.tr pn xe) R2
structure Fits (C : CK) (X : Cx) : Prop where
  N : X.N = C.N
  nd : C.N.Nodup
  nm : X.env.scope.names = C.names
  kd : X.env.scope.kind = .function
  fn : ∀ x, C.fnb x = true → X.fn x = true
section
variable {W : Wd} {C : CK} {T : Tb} {Γ : Gam} {X : Cx} {RR : RRt} {k : Nat}
theorem takesF {X : Cx} {T : Tb} {F0 G0 : Hp} : Takes X (WR T X ⟨F0, G0, fun _ _ _ => False⟩) := fun _ _ x => by
  obtain ⟨_, _, _, _, _, _, _, _, _, _, _, _, _, _, _, _, z⟩ := x
  obtain ⟨_, _, _, _, _, _, _, _, _, _, _, _, z⟩ := z
  exact z.elim
theorem Ok.blk (o : Ok W T Γ X RR k) (s : Shared) (H : Hp) (scope : Scope) (env : PySem.Env) (fp : List Addr) (F0 G0 : Hp) : Ok W.blk T Γ (X.blk s H scope env fp) ⟨F0, G0, fun _ _ _ => False⟩ k :=
  ⟨o.hK, o.fr, o.units, o.room, takesF, o.calm, o.fns, o.fnK, o.fnD, o.cons, o.tbl, o.cv, o.mks, o.mets, o.flds, o.iso, o.rss, o.hcl, o.exm, o.xfs, fun z => (by cases z), fun z => (by cases z), fun z => (by cases z)⟩
theorem Ok.hot (o : Ok W T Γ X RR k) (e : Addr) (pn : List (Addr × Obj)) (F0 G0 : Hp) : Ok W.hot T Γ (X.suite e pn) ⟨F0, G0, fun _ _ _ => False⟩ k :=
  ⟨o.hK, o.fr, o.units, fun z => (by cases z), takesF, fun z => (by cases z), o.fns, o.fnK, o.fnD, o.cons, o.tbl, o.cv, o.mks, o.mets, o.flds, o.iso, o.rss, o.hcl, o.exm, o.xfs, fun z => (by cases z), fun z => (by cases z), fun z => (by cases z)⟩
theorem Ok.tr (o : Ok W T Γ X RR k) (pn : List (Addr × Obj)) (xe : Value → Shared → Prop) (R2 : RRt) (tk : Takes (X.tr pn xe) (WR T (X.tr pn xe) R2)) (sF : Same RR.F0 R2.F0) (eG : R2.G0 = RR.G0) : Ok W.tr T Γ (X.tr pn xe) R2 k :=
  ⟨o.hK, o.fr, o.units, o.room, tk, o.calm, o.fns, o.fnK, o.fnD, o.cons, o.tbl, o.cv, o.mks, o.mets, o.flds, o.iso, o.rss, o.hcl, o.exm, o.xfs, o.lam, fun z => o.acts z pn xe R2 tk sF eG, fun z pn' xe' R3 tk' sF' eG' => o.acts z pn' xe' R3 tk' (sF.trans sF') (eG'.trans eG)⟩
theorem Fits.blk (f : Fits C X) (s : Shared) (H : Hp) (scope : Scope) (hk : scope.kind = .function) (A : Addr) (cl : List (Str × Addr)) (fp : List Addr) : Fits (C.blk scope) (X.blk s H scope (compEnvC scope cl A X.env) fp) := by
  refine ⟨f.N, f.nd, ?_, hk, fun x h => h⟩
  show (relabel scope X.env).names = relN scope.names C.names
  unfold relabel relN Env.kindOf
  rw [f.nm, f.kd]
  apply List.map_congr_left
  intro a _
  simp
theorem bk {a b : Bool} (h : (a && b) = true) : a = true ∧ b = true := Bool.and_eq_true_iff.mp h
theorem nb {a : Bool} (h : (!a) = true) : a = false := by simpa using h
theorem Fits.see (f : Fits C X) {i : Nat} {x : Str} (h : C.see i x = true) : X.N[i]? = some x ∧ Vis X.env.scope x ∧ (x == ("__debug__" : Str)) = false ∧ (x == ("__classdict__" : Str)) = false := by
  unfold CK.see at h
  obtain ⟨h, h4⟩ := bk h
  obtain ⟨h, h3⟩ := bk h
  obtain ⟨h1, h2⟩ := bk h
  refine ⟨f.N ▸ of_decide_eq_true h1, ?_, nb h3, nb h4⟩
  unfold Vis
  rw [f.nm]
  cases e : C.names.lookup x with
  | none => rw [e] at h2; cases h2
  | some k => cases k <;> first | exact .inl rfl | exact .inr (.inl rfl) | exact .inr (.inr rfl) | (rw [e] at h2; cases h2)
theorem Fits.own (f : Fits C X) {i : Nat} {x : Str} (h : C.own i x = true) : X.N[i]? = some x ∧ Loc X.env.scope x ∧ (X.fn x = true ∨ X.env.scope.names.lookup x = some .local) := by
  unfold CK.own at h
  obtain ⟨h1, h2⟩ := bk h
  unfold L2.Loc
  rw [f.nm]
  refine ⟨f.N ▸ of_decide_eq_true h1, ?_⟩
  cases e : C.names.lookup x with
  | none => rw [e] at h2; cases h2
  | some k => cases k <;> first | exact ⟨.inl rfl, .inr rfl⟩ | exact ⟨.inr rfl, .inl (f.fn _ (by rw [e] at h2; exact h2))⟩ | (rw [e] at h2; cases h2)
theorem Fits.loc (f : Fits C X) {i : Nat} {x : Str} (h : C.loc i x = true) : X.N[i]? = some x ∧ X.env.scope.names.lookup x = some .local := by
  obtain ⟨h1, h2⟩ := bk h
  rw [f.nm]
  exact ⟨f.N ▸ of_decide_eq_true h1, of_decide_eq_true h2⟩
theorem Fits.gl (f : Fits C X) {x : Str} (h : C.gl x = true) : Gl X x ∧ (x == ("__debug__" : Str)) = false := by
  obtain ⟨h1, h2⟩ := bk h
  refine ⟨?_, nb h2⟩
  unfold Gl Env.kindOf
  rw [f.nm]
  exact of_decide_eq_true h1
theorem fold_ok {iter : Expr} {env : PySem.Env} (h : noSet iter = true) : ∀ x, foldedSetIterable iter env x = pure x := by
  intro x
  cases iter <;> first | rfl | cases h
theorem set_no {e : Expr} (h : noSet e = true) : ∀ es k p, e ≠ .Set es k p := fun es k p z => by subst z; cases h
mutual
theorem chkT_ok : ∀ (t : Tg) {C : CK} {own : List Nat} {x : Expr} {X : Cx}, chkT C own t x = true → X.K = T.K → X.calm = true → Fits C X → PG X x (LG T X.pn own (bindT t))
  | .name i, C, own, x, X, h, hK, hc, f => by
    unfold chkT at h
    split at h
    · obtain ⟨h1, h2⟩ := bk h
      obtain ⟨a1, a2, a3⟩ := f.own h1
      exact lg_name (f.N ▸ f.nd) a1 a2 a3 (of_decide_eq_true h2)
    · cases h
  | .tup ts, C, own, x, X, h, hK, hc, f => by
    unfold chkT at h
    split at h
    · obtain ⟨h1, h2⟩ := bk h
      obtain ⟨g1, g2⟩ := chkTs_ok ts h2 hK hc f
      exact lg_tup hK hc g1 (of_decide_eq_true h1) g2
    · cases h
theorem chkTs_ok : ∀ (t : Tgs) {C : CK} {own : List Nat} {x : List Expr} {X : Cx}, chkTs C own t x = true → X.K = T.K → X.calm = true → Fits C X → x.all noStar = true ∧ PGs X x (LGs T X.pn own (bindTs t))
  | .nil, C, own, x, X, h, hK, hc, f => by
    unfold chkTs at h
    cases x with
    | nil => exact ⟨rfl, lgs_nil⟩
    | cons _ _ => cases h
  | .cons t ts, C, own, x, X, h, hK, hc, f => by
    unfold chkTs at h
    split at h
    · obtain ⟨h1, h2⟩ := bk h
      obtain ⟨h2, h3⟩ := bk h2
      obtain ⟨g1, g2⟩ := chkTs_ok ts h3 hK hc f
      exact ⟨by rw [List.all_cons, h1, g1]; rfl, lgs_cons h1 (chkT_ok t h2 hK hc f) g2⟩
    · cases h
end
end
end FF

namespace FF
open PySem PySem.Spec PyProof.Rows L2
theorem std {x : String} {W : Wd} {T : Tb} {Γ : Gam} {X : Cx} {RR : RRt} {k : Nat} (o : Ok W T Γ X RR k) (h : (Str.ofString x) ∈ stdNames) : X.mg (Str.ofString x) = none := o.fr _ h
theorem std_bi {b : Bi} (h : b.on = true) : (Str.ofString b.nm) ∈ stdNames := by
  cases b <;> first | (unfold stdNames Bi.nm; simp; done) | exact nomatch h
theorem std_ty {t : Ty} (h : t.on = true) : (Str.ofString t.nm) ∈ stdNames ∧ bootBuiltins (Str.ofString t.nm) = some (.type t.nm) := by
  cases t <;> first
    | exact ⟨by unfold stdNames Ty.nm; simp, boot_int⟩
    | exact ⟨by unfold stdNames Ty.nm; simp, boot_bool⟩
    | exact ⟨by unfold stdNames Ty.nm; simp, boot_str⟩
    | exact ⟨by unfold stdNames Ty.nm; simp, boot_tuple⟩
    | exact ⟨by unfold stdNames Ty.nm; simp, boot_list⟩
    | exact nomatch h
theorem pt_plain {X : Cx} {T : Tb} {RR : RRt} {w : Env → AH → QE → RE → Prop} {x : Expr} (hp : plainT x = true) (h : PE X x (LE T X RR w)) : PE X x (LE T X RR w) ∧ (tst x = true → PT X x (LT T X RR w)) := ⟨h, fun _ => lt_val hp h⟩
theorem boot_divmodF : bootBuiltins ("divmod" : Str) = some (.builtin "divmod") := by decide +kernel
theorem bi_go {W : Wd} {T : Tb} {Γ : Gam} {X : Cx} {RR : RRt} {k m : Nat} {b : Bi} {es : Es} {e : Expr} {l : List Expr} {p pos : Pos} (o : Ok W T Γ X RR k) (hb : b.on = true) (hcm : (W.cm || b.easy) = true) (hg : Gl X (Str.ofString b.nm)) (hs : (e :: l).all noStar = true) (ha : PA X (e :: l) (LA T X RR m (wpEs Γ es))) : PE X (.Call (.Name (Str.ofString b.nm) p) (e :: l) [] pos) (LE T X RR (wpE Γ (.bi b es))) := by
  have hm := std o (std_bi hb)
  have hc : b.easy = false → X.calm = true := fun z => by rw [z, Bool.or_false] at hcm; exact o.calm hcm
  cases b with
  | abs => exact le_bi call_bi_abs hg hm boot_abs (by decide) (by decide) hs ha
  | int => exact le_biT call_bi_int hg hm boot_int (by decide) (by decide) hs ha
  | len => exact le_bi (call_bi_len o.hK) hg hm boot_len (by decide) (by decide) hs ha
  | max => exact le_bi (call_bi_max o.hK (hc rfl)) hg hm boot_max (by decide) (by decide) hs ha
  | min => exact le_bi (call_bi_min o.hK (hc rfl)) hg hm boot_min (by decide) (by decide) hs ha
  | sum => exact le_bi (call_bi_sum o.hK (hc rfl)) hg hm boot_sum (by decide) (by decide) hs ha
  | all => exact le_bi (call_bi_all o.hK (hc rfl)) hg hm boot_all (by decide) (by decide) hs ha
  | any => exact le_bi (call_bi_any o.hK (hc rfl)) hg hm boot_any (by decide) (by decide) hs ha
  | divmod => exact le_bi (call_bi_divmod o.hK) hg hm boot_divmodF (by decide) (by decide) hs ha
  | _ => cases hb
theorem blk_ok {C : CK} {X : Cx} {scope : Scope} {own : List Nat} (f : Fits C X) (h : blkC C.N C.sc scope (ownP C own) = true) : BlkOk X.N X.env.scope scope (ownP C own) := by
  have b := blkOk_by h
  refine ⟨b.kind, b.uniq, fun p hp => by rw [f.N]; exact b.ix p hp, fun y hy e => ?_, fun y hy e => by rw [f.N]; exact b.own y hy e⟩
  rw [f.nm]
  exact b.free y hy e
theorem ownP_snd {C : CK} {own : List Nat} : (ownP C own).map (·.2) = own := by
  unfold ownP
  rw [List.map_map]
  conv => rhs; rw [← List.map_id own]
  rfl
mutual
theorem chkE_ok : ∀ (e : E) {W : Wd} {C : CK} {x : Expr} {T : Tb} {Γ : Gam} {X : Cx} {RR : RRt} {k : Nat}, chkE W C e x = true → Ok W T Γ X RR k → Fits C X → PE X x (LE T X RR (wpE Γ e)) ∧ (tst x = true → PT X x (LT T X RR (wpE Γ e)))
  | .var i, W, C, x, T, Γ, X, RR, k, h, o, f => by
    unfold chkE at h
    split at h
    · obtain ⟨a1, a2, a3, a4⟩ := f.see h
      exact pt_plain rfl (le_var a1 a2 a3 a4)
    · cases h
  | .int i, W, C, x, T, Γ, X, RR, k, h, o, f => by
    unfold chkE at h
    split at h
    · have e := of_decide_eq_true h
      subst e
      exact pt_plain rfl (le_const pe_int (fun _ => .int) fun _ _ _ _ q => q)
    · cases h
  | .bl b, W, C, x, T, Γ, X, RR, k, h, o, f => by
    unfold chkE at h
    split at h
    · have e := beq_iff_eq.mp h
      subst e
      exact pt_plain rfl (le_const pe_bl (fun _ => .bl) fun _ _ _ _ q => q)
    · cases h
  | .non, W, C, x, T, Γ, X, RR, k, h, o, f => by
    unfold chkE at h
    split at h
    · exact pt_plain rfl (le_const pe_non (fun _ => .non) fun _ _ _ _ q => q)
    · cases h
  | .str s, W, C, x, T, Γ, X, RR, k, h, o, f => by
    unfold chkE at h
    split at h
    · have e := of_decide_eq_true h
      subst e
      exact pt_plain rfl (le_const pe_str (fun _ => .str) fun _ _ _ _ q => q)
    · cases h
  | .gcon g d, W, C, x, T, Γ, X, RR, k, h, o, f => by
    unfold chkE at h
    split at h
    · obtain ⟨h1, h2⟩ := bk h
      obtain ⟨g1, g2⟩ := f.gl h2
      obtain ⟨⟨g', y', d'⟩, hq, hb⟩ := List.any_eq_true.mp h1
      obtain ⟨hb, b3⟩ := bk hb
      obtain ⟨b1, b2⟩ := bk hb
      have c2 : y' = _ := of_decide_eq_true b2
      have c3 : d' = d := D.same_ok b3
      obtain ⟨v, u, q1, q2, q3⟩ := o.cons _ hq
      have q1 : X.mg y' = some u := q1
      rw [c2] at q1
      have q3 : ∀ F, Rep T F d' v := q3
      rw [c3] at q3
      exact pt_plain rfl (le_const (pe_glob g1 q1 q2 g2) q3 fun _ _ _ _ q => q)
    · cases h
  | .gfn n, W, C, x, T, Γ, X, RR, k, h, o, f => by
    unfold chkE at h
    split at h
    · obtain ⟨h1, h2⟩ := bk h
      obtain ⟨g1, g2⟩ := f.gl h2
      obtain ⟨q1, q2⟩ := o.fns _ (of_decide_eq_true h1)
      exact pt_plain rfl (le_const (pe_glob (v := .ref (T.fA n)) g1 q2 rfl g2) (fun _ => .fn) fun _ _ _ _ q => q)
    · cases h
  | .bin op a b, W, C, x, T, Γ, X, RR, k, h, o, f => by
    unfold chkE at h
    split at h
    · obtain ⟨h1, h2⟩ := bk h
      obtain ⟨h2, h3⟩ := bk h2
      have e := of_decide_eq_true h1
      subst e
      exact pt_plain rfl (le_bin o.hK (chkE_ok a h2 o f).1 (chkE_ok b h3 o f).1)
    · cases h
  | .neg a, W, C, x, T, Γ, X, RR, k, h, o, f => by
    unfold chkE at h
    split at h
    · exact pt_plain rfl (le_neg (chkE_ok a h o f).1)
    · cases h
  | .not a, W, C, x, T, Γ, X, RR, k, h, o, f => by
    unfold chkE at h
    split at h
    · obtain ⟨h1, h2⟩ := bk h
      have q := chkE_ok a h2 o f
      exact ⟨le_not q.1, fun _ => lt_not (q.2 h1)⟩
    · cases h
  | .ands es, W, C, x, T, Γ, X, RR, k, h, o, f => by
    unfold chkE at h
    split at h
    · obtain ⟨h1, h2⟩ := bk h
      obtain ⟨h1, h0⟩ := bk h1
      have q := (chkEs_ok es h2 o f).2.2.1 (of_decide_eq_true h1) h0
      exact ⟨q.1 _, fun _ => (q.2 _).pt⟩
    · cases h
  | .ors es, W, C, x, T, Γ, X, RR, k, h, o, f => by
    unfold chkE at h
    split at h
    · obtain ⟨h1, h2⟩ := bk h
      obtain ⟨h1, h0⟩ := bk h1
      have q := (chkEs_ok es h2 o f).2.2.2 (of_decide_eq_true h1) h0
      exact ⟨q.1 _, fun _ => (q.2 _).pt⟩
    · cases h
  | .cmp op a b, W, C, x, T, Γ, X, RR, k, h, o, f => by
    unfold chkE at h
    split at h
    · obtain ⟨h1, h2⟩ := bk h
      obtain ⟨h1, h3⟩ := bk h1
      obtain ⟨h4, h5⟩ := bk h2
      have e := of_decide_eq_true h1
      subst e
      have n := nomark_ok (op := op) (set_no h3)
      exact ⟨le_cmp o.hK o.units n (chkE_ok a h4 o f).1 (chkE_ok b h5 o f).1, fun _ => lt_cmp o.hK o.units n (chkE_ok a h4 o f).1 (chkE_ok b h5 o f).1⟩
    · cases h
  | .chain o1 o2 a b c, W, C, x, T, Γ, X, RR, k, h, o, f => by
    unfold chkE at h
    split at h
    · obtain ⟨h1, h2⟩ := bk h
      obtain ⟨h1, h3⟩ := bk h1
      obtain ⟨h1, h6⟩ := bk h1
      obtain ⟨h4, h5⟩ := bk h2
      obtain ⟨h5, h7⟩ := bk h5
      have e := of_decide_eq_true h1
      have e2 := of_decide_eq_true h6
      subst e e2
      have n := nomark_ok (op := o2) (set_no h3)
      exact ⟨le_chain o.hK o.units n (chkE_ok a h4 o f).1 (chkE_ok b h5 o f).1 (chkE_ok c h7 o f).1, fun _ => lt_chain o.hK o.units n (chkE_ok a h4 o f).1 (chkE_ok b h5 o f).1 (chkE_ok c h7 o f).1⟩
    · cases h
  | .ite c a b, W, C, x, T, Γ, X, RR, k, h, o, f => by
    unfold chkE at h
    split at h
    · obtain ⟨h1, h2⟩ := bk h
      obtain ⟨h2, h3⟩ := bk h2
      obtain ⟨h3, h4⟩ := bk h3
      exact ⟨le_ite ((chkE_ok c h2 o f).2 h1) (chkE_ok a h3 o f).1 (chkE_ok b h4 o f).1, fun z => by cases z⟩
    · cases h
  | .tup es, W, C, x, T, Γ, X, RR, k, h, o, f => by
    unfold chkE at h
    split at h
    · exact pt_plain rfl (le_tup (chkEs_ok es h o f).1)
    · cases h
  | .lst es, W, C, x, T, Γ, X, RR, k, h, o, f => by
    unfold chkE at h
    split at h
    · exact pt_plain rfl (le_lst (chkEs_ok es h o f).1)
    · cases h
  | .dct, W, C, x, T, Γ, X, RR, k, h, o, f => by
    unfold chkE at h
    split at h
    · exact pt_plain rfl le_dct
    · cases h
  | .refl es, W, C, x, T, Γ, X, RR, k, h, o, f => by
    unfold chkE at h
    split at h
    · exact pt_plain rfl (le_refl (chkEs_ok es h o f).1)
    · cases h
  | .call n es dv, W, C, x, T, Γ, X, RR, k, h, o, f => by
    unfold chkE at h
    split at h
    · rename_i y p l pos
      obtain ⟨h1, h2⟩ := bk h
      obtain ⟨h1, h4⟩ := bk h1
      obtain ⟨hcm, h1⟩ := bk h1
      have room := o.room hcm
      obtain ⟨g1, g2⟩ := f.gl h4
      have r := chkEs_ok es h2 o f
      rcases Bool.or_eq_true_iff.mp h1 with h1 | h1
      · obtain ⟨h1, h3⟩ := bk h1
        obtain ⟨q1, q2⟩ := o.fns _ (of_decide_eq_true h1)
        have hd : dv = [] := List.isEmpty_iff.mp h3
        subst hd
        cases l with
        | nil =>
          cases es with
          | nil => exact pt_plain rfl (le_call0 o.hK q1 room g1 q2 o.tk g2)
          | cons e r => unfold chkEs at h2; cases h2
        | cons e l => exact pt_plain rfl (le_call o.hK q1 room g1 q2 o.tk r.2.1 g2 r.1)
      · obtain ⟨h1, h3⟩ := bk h1
        obtain ⟨⟨n', y', d'⟩, hq, hb⟩ := List.any_eq_true.mp h1
        obtain ⟨hb, b3⟩ := bk hb
        obtain ⟨b1, b2⟩ := bk hb
        have c1 : n' = n := of_decide_eq_true b1
        have c2 : y' = y := of_decide_eq_true b2
        have c3 : d' = dv := sameL_ok b3
        subst c1 c2 c3
        obtain ⟨q1, q2⟩ := o.fnD _ hq
        cases l with
        | nil => cases h3
        | cons e l => exact pt_plain rfl (le_callD o.hK q1 room g1 q2 o.tk r.2.1 g2 r.1)
    · cases h
  | .callk n es ks p, W, C, x, T, Γ, X, RR, k, h, o, f => by
    unfold chkE at h
    split at h
    · rename_i y p0 l kws pos
      obtain ⟨h1, h2⟩ := bk h
      obtain ⟨h1, h4⟩ := bk h1
      obtain ⟨hcm, h1⟩ := bk h1
      have room := o.room hcm
      obtain ⟨h2, h3⟩ := bk h2
      obtain ⟨g1, g2⟩ := f.gl h4
      obtain ⟨⟨n', y', m', ks', p'⟩, hq, hb⟩ := List.any_eq_true.mp h1
      obtain ⟨hb, b5⟩ := bk hb
      obtain ⟨hb, b4⟩ := bk hb
      obtain ⟨hb, b3⟩ := bk hb
      obtain ⟨b1, b2⟩ := bk hb
      have c1 : n' = n := of_decide_eq_true b1
      have c2 : y' = y := of_decide_eq_true b2
      have c3 : m' = es.len := of_decide_eq_true b3
      have c4 : kws.map (·.arg) = ks'.map some := of_decide_eq_true b4
      have c5 : p' = p := of_decide_eq_true b5
      subst c1 c2 c3 c5
      obtain ⟨q1, q2⟩ := o.fnK _ hq
      have r := chkEs_ok es h2 o f
      have rk := chkKs_ok ks h3 o f
      have lk : ks.len = ks'.length := by
        have := congrArg List.length c4
        rw [List.length_map, List.length_map] at this
        rw [← rk.2, this]
      have rk1 := rk.1
      rw [lk] at rk1
      cases l with
      | nil =>
        cases es with
        | nil => exact pt_plain rfl (le_callK0 o.hK q1 room g1 q2 o.tk g2 c4 rk1)
        | cons e r => unfold chkEs at h2; cases h2
      | cons e l => exact pt_plain rfl (le_callK o.hK q1 room g1 q2 o.tk r.2.1 g2 c4 r.1 rk1)
    · cases h
  | .callv i es, W, C, x, T, Γ, X, RR, k, h, o, f => by
    unfold chkE at h
    split at h
    · obtain ⟨h1, h2⟩ := bk h
      obtain ⟨h1, h3⟩ := bk h1
      obtain ⟨hcm, h1⟩ := bk h1
      have room := o.room hcm
      obtain ⟨a1, a2, a3, a4⟩ := f.see h3
      obtain ⟨c1, c2, c3⟩ := o.cv h1
      have r := chkEs_ok es h2 o f
      exact pt_plain rfl (le_callv o.hK c1 room a1 a2 a3 a4 c2 o.tk r.2.1 r.1 c3)
    · cases h
  | .lamc n e, W, C, x, T, Γ, X, RR, k, h, o, f => by
    unfold chkE at h
    split at h
    · obtain ⟨h, h6⟩ := bk h
      obtain ⟨h, h5⟩ := bk h
      obtain ⟨h, h4⟩ := bk h
      obtain ⟨h, h3⟩ := bk h
      obtain ⟨hcm, h2⟩ := bk h
      obtain ⟨h6, h7⟩ := bk h6
      obtain ⟨g1, g2⟩ := f.gl h4
      obtain ⟨j, c, P, jk, og, hf, TB, hcode, hmT, hu⟩ := o.lam h2
      obtain ⟨q1, q2⟩ := hf _ (of_decide_eq_true h3)
      have L0 := LamX.lamS_by h5
      have L : LamX.LamS X.env.scope _ := ⟨L0.kind, L0.co, L0.gen, L0.own, fun y hy e => by rw [f.nm]; exact L0.free y hy e⟩
      refine pt_plain rfl (le_lamc o.hK q1 ((o.room hcm).mono jk) g1 q2 o.tk g2 TB hcode hmT hu L fun A outer s H E' ff c' R2 hr tk => ?_)
      refine (chkE_ok e h7 (X := LamX.lamCx X A outer s H E' _ ff c') (RR := R2) (k := j) ⟨o.hK, og.fr, hr.units, fun _ => hr, tk, fun _ => rfl, og.fns, og.fnK, og.fnD, og.cons, og.tbl, og.cv, og.mks, og.mets, og.flds, og.iso, og.rss, og.hcl, og.exm, og.xfs, fun z => (by cases z), fun z => (by cases z), fun z => (by cases z)⟩
        ⟨f.N, f.nd, rfl, L.kind, fun _ z => (by cases z)⟩).1
    · cases h
  | .act i, W, C, x, T, Γ, X, RR, k, h, o, f => by
    unfold chkE at h
    split at h
    · obtain ⟨h, h3⟩ := bk h
      obtain ⟨h1, h2⟩ := bk h
      cases (of_decide_eq_true h2)
      exact pt_plain rfl (o.act h1 _ _ _ (f.see h3).1)
    · cases h
  | .meth n c a es dv, W, C, x, T, Γ, X, RR, k, h, o, f => by
    unfold chkE at h
    split at h
    · rename_i y m ap l pos
      obtain ⟨h, h8⟩ := bk h
      obtain ⟨h8, h9⟩ := bk h8
      obtain ⟨h, h7⟩ := bk h
      obtain ⟨h, h6⟩ := bk h
      obtain ⟨h, h5⟩ := bk h
      obtain ⟨h, h4⟩ := bk h
      obtain ⟨h, h3⟩ := bk h
      obtain ⟨h1, h2⟩ := bk h
      have hd : dv = [] := List.isEmpty_iff.mp h2
      subst hd
      obtain ⟨q1, q2⟩ := o.mets _ (of_decide_eq_true h3)
      have r := chkEs_ok es h9 o f
      refine pt_plain rfl (le_meth (m := es.len) o.hK q1 q2 (o.room h1) o.tk r.2.1 h4 h5 (of_decide_eq_true h6) (chkE_ok a h8 o f).1 ?_)
      cases l with
      | nil =>
        cases es with
        | nil => exact .inl ⟨rfl, rfl⟩
        | cons _ _ => cases h7
      | cons y l => exact .inr ⟨(by simp), r.1⟩
    · cases h
  | .make n c es fz, W, C, x, T, Γ, X, RR, k, h, o, f => by
    unfold chkE at h
    split at h
    · obtain ⟨h, h4⟩ := bk h
      obtain ⟨h, h3⟩ := bk h
      obtain ⟨h1, h2⟩ := bk h
      obtain ⟨g1, g2⟩ := f.gl h3
      obtain ⟨j, jk, q1, q2⟩ := o.mks _ (of_decide_eq_true h2)
      have r := chkEs_ok es h4 o f
      exact pt_plain rfl (le_make o.hK q1 ((o.room h1).mono jk) g1 q2 o.tk r.2.1 g2 r.1)
    · cases h
  | .bi b es, W, C, x, T, Γ, X, RR, k, h, o, f => by
    unfold chkE at h
    split at h
    · obtain ⟨h1, h2⟩ := bk h
      obtain ⟨h1, h3⟩ := bk h1
      obtain ⟨h1, h4⟩ := bk h1
      obtain ⟨hcm, h0⟩ := bk h1
      have e := of_decide_eq_true h4
      subst e
      have r := chkEs_ok es h2 o f
      exact pt_plain rfl (bi_go o h0 hcm (f.gl h3).1 r.2.1 r.1)
    · cases h
  | .isin e t, W, C, x, T, Γ, X, RR, k, h, o, f => by
    unfold chkE at h
    split at h
    · rename_i f' p y z p2 pos
      by_cases ho : ∃ c, t = .obj c
      · obtain ⟨c, rfl⟩ := ho
        have h : (decide (f' = ("isinstance" : Str)) && decide ((c, z) ∈ W.iso) && C.gl f' && C.gl z && noStar y && chkE W C e y) = true := h
        obtain ⟨h, h6⟩ := bk h
        obtain ⟨h, h5⟩ := bk h
        obtain ⟨h, h4⟩ := bk h
        obtain ⟨h, h3⟩ := bk h
        obtain ⟨h1, h2⟩ := bk h
        have e1 := of_decide_eq_true h1
        subst e1
        obtain ⟨q1, q2⟩ := o.iso _ (of_decide_eq_true h2)
        exact pt_plain rfl (le_isinO o.hK (f.gl h3).1 (o.fr _ (by unfold stdNames; simp)) (f.gl h4).1 q1 q2 (f.gl h4).2 h5 (chkE_ok e h6 o f).1)
      · have h : (t.on && decide (f' = ("isinstance" : Str)) && decide (z = Str.ofString t.nm) && C.gl f' && C.gl z && noStar y && chkE W C e y) = true := by
          cases t <;> first | exact h | exact absurd ⟨_, rfl⟩ ho
        obtain ⟨h, h7⟩ := bk h
        obtain ⟨h, h6⟩ := bk h
        obtain ⟨h, h5⟩ := bk h
        obtain ⟨h, h4⟩ := bk h
        obtain ⟨h, h3⟩ := bk h
        obtain ⟨h1, h2⟩ := bk h
        have e1 := of_decide_eq_true h2
        have e2 := of_decide_eq_true h3
        subst e1 e2
        obtain ⟨s1, s2⟩ := std_ty h1
        exact pt_plain rfl (le_isin o.hK (f.gl h4).1 (o.fr _ (by unfold stdNames; simp)) (f.gl h5).1 (o.fr _ s1) s2 (by cases t <;> first | decide | exact nomatch h1) (f.gl h5).2 h6 h1 (chkE_ok e h7 o f).1)
    · cases h
  | .bits e, W, C, x, T, Γ, X, RR, k, h, o, f => by
    unfold chkE at h
    split at h
    · obtain ⟨h, h4⟩ := bk h
      obtain ⟨h, h3⟩ := bk h
      obtain ⟨h1, h2⟩ := bk h
      have e1 := of_decide_eq_true h1
      subst e1
      exact pt_plain rfl (le_bits h2 h3 (chkE_ok e h4 o f).1)
    · cases h
  | .count _ _, W, C, x, T, Γ, X, RR, k, h, o, f => by
    unfold chkE at h
    cases h
  | .fld e n, W, C, x, T, Γ, X, RR, k, h, o, f => by
    unfold chkE at h
    split at h
    · obtain ⟨h, h3⟩ := bk h
      obtain ⟨h1, h2⟩ := bk h
      exact pt_plain rfl (le_fld o.hK (o.tbl ▸ of_decide_eq_true h1) h2 (chkE_ok e h3 o f).1)
    · cases h
  | .xfld i cs, W, C, x, T, Γ, X, RR, k, h, o, f => by
    unfold chkE at h
    split at h
    · obtain ⟨h, h3⟩ := bk h
      obtain ⟨h1, h2⟩ := bk h
      obtain ⟨a1, a2, a3, a4⟩ := f.see h1
      exact pt_plain rfl (le_xfld o.hK a1 a2 a3 a4 h2 fun c hc => o.xfs (c, _) (of_decide_eq_true (List.all_eq_true.mp h3 c hc)))
    · cases h
  | .oidx i e, W, C, x, T, Γ, X, RR, k, h, o, f => by
    unfold chkE at h
    split at h
    · obtain ⟨h, h3⟩ := bk h
      obtain ⟨h1, h2⟩ := bk h
      obtain ⟨a1, a2, a3, a4⟩ := f.see h1
      exact pt_plain rfl (le_oidx o.hK a1 a2 a3 a4 h2 (chkE_ok e h3 o f).1)
    · cases h
  | .olen i, W, C, x, T, Γ, X, RR, k, h, o, f => by
    unfold chkE at h
    split at h
    · obtain ⟨h, h3⟩ := bk h
      obtain ⟨h1, h2⟩ := bk h
      obtain ⟨a1, a2, a3, a4⟩ := f.see h3
      have e := of_decide_eq_true h1
      subst e
      exact pt_plain rfl (le_olen o.hK (f.gl h2).1 (o.fr _ (by unfold stdNames; simp)) a1 a2 a3 a4)
    · cases h
  | .idx a b, W, C, x, T, Γ, X, RR, k, h, o, f => by
    unfold chkE at h
    split at h
    · obtain ⟨h1, h2⟩ := bk h
      obtain ⟨h2, h3⟩ := bk h2
      exact pt_plain rfl (le_idx o.hK h1 (chkE_ok a h2 o f).1 (chkE_ok b h3 o f).1)
    · cases h
  | .slTo a b, W, C, x, T, Γ, X, RR, k, h, o, f => by
    unfold chkE at h
    split at h
    · obtain ⟨h2, h3⟩ := bk h
      exact pt_plain rfl (le_slTo o.hK (chkE_ok a h2 o f).1 (chkE_ok b h3 o f).1)
    · cases h
  | .slFrom a b, W, C, x, T, Γ, X, RR, k, h, o, f => by
    unfold chkE at h
    split at h
    · obtain ⟨h2, h3⟩ := bk h
      exact pt_plain rfl (le_slFrom o.hK (chkE_ok a h2 o f).1 (chkE_ok b h3 o f).1)
    · cases h
  | .slOf a b c, W, C, x, T, Γ, X, RR, k, h, o, f => by
    unfold chkE at h
    split at h
    · obtain ⟨h2, h3⟩ := bk h
      obtain ⟨h3, h4⟩ := bk h3
      exact pt_plain rfl (le_slOf o.hK (chkE_ok a h2 o f).1 (chkE_ok b h3 o f).1 (chkE_ok c h4 o f).1)
    · cases h
  | .slRev a, W, C, x, T, Γ, X, RR, k, h, o, f => by
    unfold chkE at h
    split at h
    · exact pt_plain rfl (le_slRev o.hK (chkE_ok a h o f).1)
    · cases h
  | .comp t it c e own, W, C, x, T, Γ, X, RR, k, h, o, f => by
    unfold chkE at h
    split at h
    · rename_i elt tg iter ifs scope pos
      obtain ⟨h1, h2⟩ := bk h
      obtain ⟨h1, h3⟩ := bk h1
      obtain ⟨hcm, h1⟩ := bk h1
      have calm := o.calm hcm
      obtain ⟨h2, h4⟩ := bk h2
      obtain ⟨h4, h5⟩ := bk h4
      obtain ⟨h5, h6⟩ := bk h5
      have ok := blk_ok f h1
      have ob := fun s H (A : Addr) (cl : List (Str × Addr)) fp F0 G0 => o.blk s H scope (compEnvC scope cl A X.env) fp F0 G0
      have fb := fun s H (A : Addr) (cl : List (Str × Addr)) fp => f.blk s H scope ok.kind A cl fp
      have q := le_comp (RR := RR) (Γ := Γ) (T := T) (t := t) (it := it) (c := c) (e := e) (elt := elt) (pos := pos) calm (f.N ▸ f.nd) (chkI_ok it h2 o f) ok
        (fun s H A cl fp => by rw [ownP_snd]; exact chkT_ok t h4 o.hK calm (fb s H A cl fp))
        (fun s H A cl fp => chkC_ok c h5 (fun F0 G0 => ob s H A cl fp F0 G0) (fb s H A cl fp))
        (fun s H A cl fp => PE.ex (α := Hp × Hp) fun a => (chkE_ok e h6 (ob s H A cl fp a.1 a.2) (fb s H A cl fp)).1) (fold_ok h3)
      rw [ownP_snd] at q
      exact pt_plain rfl q
    · cases h
theorem chkC_ok : ∀ (c : Es) {W : Wd} {C : CK} {x : List Expr} {T : Tb} {Γ : Gam} {X : Cx} {k : Nat}, chkC W C c x = true → (∀ F0 G0, Ok W T Γ X ⟨F0, G0, fun _ _ _ => False⟩ k) → Fits C X → PTs X x (LTs T X.pn (wpT Γ c))
  | .nil, W, C, x, T, Γ, X, k, h, o, f => by
    unfold chkC at h
    cases x with
    | nil => exact lts_nil
    | cons _ _ => cases h
  | .cons e r, W, C, x, T, Γ, X, k, h, o, f => by
    unfold chkC at h
    split at h
    · obtain ⟨h1, h2⟩ := bk h
      obtain ⟨h4, h3⟩ := bk h2
      cases r with
      | nil => exact lts_one fun F0 G0 => (chkE_ok e h4 (o F0 G0) f).2 h1
      | cons _ _ => cases h3
    · cases h
theorem chkEs_ok : ∀ (es : Es) {W : Wd} {C : CK} {x : List Expr} {T : Tb} {Γ : Gam} {X : Cx} {RR : RRt} {k : Nat}, chkEs W C es x = true → Ok W T Γ X RR k → Fits C X → PA X x (LA T X RR es.len (wpEs Γ es)) ∧ x.all noStar = true ∧
    (0 < es.len → x.all tst = true → (∀ pos, PE X (.BoolOp .And x pos) (LE T X RR (wpAnd Γ es))) ∧ (∀ pos, PW X (.BoolOp .And x pos) (LT T X RR (wpAnd Γ es)))) ∧
    (0 < es.len → x.all tst = true → (∀ pos, PE X (.BoolOp .Or x pos) (LE T X RR (wpOr Γ es))) ∧ (∀ pos, PW X (.BoolOp .Or x pos) (LT T X RR (wpOr Γ es))))
  | .nil, W, C, x, T, Γ, X, RR, k, h, o, f => by
    unfold chkEs at h
    cases x with
    | nil => exact ⟨la_nil, rfl, fun z _ => absurd z (Nat.lt_irrefl _), fun z _ => absurd z (Nat.lt_irrefl _)⟩
    | cons _ _ => cases h
  | .cons e r, W, C, x, T, Γ, X, RR, k, h, o, f => by
    unfold chkEs at h
    split at h
    · rename_i y ys
      obtain ⟨h1, h2⟩ := bk h
      obtain ⟨h2, h3⟩ := bk h2
      have qe := chkE_ok e h2 o f
      have qr := chkEs_ok r h3 o f
      refine ⟨la_cons h1 qe.1 qr.1, by rw [List.all_cons, h1, qr.2.1]; rfl, fun _ h9 => ?_, fun _ h9 => ?_⟩
      all_goals (rw [List.all_cons] at h9; obtain ⟨h0, h9⟩ := bk h9)
      · cases r with
        | nil =>
          cases ys with
          | nil => exact ⟨fun pos => le_and1 qe.1, fun pos => lw_and1 (qe.2 h0)⟩
          | cons _ _ => unfold chkEs at h3; cases h3
        | cons e2 r2 =>
          cases ys with
          | nil => unfold chkEs at h3; cases h3
          | cons y2 ys2 =>
            have q := qr.2.2.1 (Nat.succ_pos _) h9
            exact ⟨fun pos => le_and qe.1 (q.1 pos), fun pos => lw_and (qe.2 h0) (q.2 pos)⟩
      · cases r with
        | nil =>
          cases ys with
          | nil => exact ⟨fun pos => le_or1 qe.1, fun pos => lw_or1 (qe.2 h0)⟩
          | cons _ _ => unfold chkEs at h3; cases h3
        | cons e2 r2 =>
          cases ys with
          | nil => unfold chkEs at h3; cases h3
          | cons y2 ys2 =>
            have q := qr.2.2.2 (Nat.succ_pos _) h9
            exact ⟨fun pos => le_or qe.1 (q.1 pos), fun pos => lw_or (qe.2 h0) (q.2 pos)⟩
    · cases h
theorem chkKs_ok : ∀ (es : Es) {W : Wd} {C : CK} {x : List Keyword} {T : Tb} {Γ : Gam} {X : Cx} {RR : RRt} {k : Nat}, chkKs W C es x = true → Ok W T Γ X RR k → Fits C X → PK X x (LA T X RR es.len (wpEs Γ es)) ∧ x.length = es.len
  | .nil, W, C, x, T, Γ, X, RR, k, h, o, f => by
    unfold chkKs at h
    cases x with
    | nil => exact ⟨lk_nil, rfl⟩
    | cons _ _ => cases h
  | .cons e r, W, C, x, T, Γ, X, RR, k, h, o, f => by
    unfold chkKs at h
    split at h
    · obtain ⟨h1, h2⟩ := bk h
      have q := chkKs_ok r h2 o f
      exact ⟨lk_cons (chkE_ok e h1 o f).1 q.1, congrArg (· + 1) q.2⟩
    · cases h
theorem chkI_ok : ∀ (it : FF.It) {W : Wd} {C : CK} {x tg : Expr} {T : Tb} {Γ : Gam} {X : Cx} {RR : RRt} {k : Nat}, chkI W C it x tg = true → Ok W T Γ X RR k → Fits C X → PI X tg x (LI T X RR (wpI Γ it))
  | .seq e, W, C, x, tg, T, Γ, X, RR, k, h, o, f => by
    unfold chkI at h
    exact li_seq o.hK (chkE_ok e h o f).1
  | .rng1 a, W, C, x, tg, T, Γ, X, RR, k, h, o, f => by
    unfold chkI at h
    split at h
    · obtain ⟨h, h4⟩ := bk h
      obtain ⟨h, h3⟩ := bk h
      obtain ⟨h1, h2⟩ := bk h
      have e := of_decide_eq_true h1
      subst e
      exact li_rng1 (f.gl h2).1 (o.fr _ (by unfold stdNames; simp)) h3 (chkE_ok a h4 o f).1
    · cases h
  | .rng2 a b, W, C, x, tg, T, Γ, X, RR, k, h, o, f => by
    unfold chkI at h
    split at h
    · obtain ⟨h, h4⟩ := bk h
      obtain ⟨h4, h6⟩ := bk h4
      obtain ⟨h, h5⟩ := bk h
      obtain ⟨h, h3⟩ := bk h
      obtain ⟨h1, h2⟩ := bk h
      have e := of_decide_eq_true h1
      subst e
      exact li_rng2 (f.gl h2).1 (o.fr _ (by unfold stdNames; simp)) h3 h5 (chkE_ok a h4 o f).1 (chkE_ok b h6 o f).1
    · cases h
  | .rng3 _ _ _, W, C, x, tg, T, Γ, X, RR, k, h, o, f => by
    unfold chkI at h
    cases h
  | .zip a b, W, C, x, tg, T, Γ, X, RR, k, h, o, f => by
    unfold chkI at h
    split at h
    · split at h
      · obtain ⟨h, h4⟩ := bk h
        obtain ⟨h4, h6⟩ := bk h4
        obtain ⟨h, h5⟩ := bk h
        obtain ⟨h, h3⟩ := bk h
        obtain ⟨h1, h2⟩ := bk h
        have e := of_decide_eq_true h1
        subst e
        exact li_zip o.hK (f.gl h2).1 (o.fr _ (by unfold stdNames; simp)) h3 h5 (chkE_ok a h4 o f).1 (chkE_ok b h6 o f).1
      · cases h
    · cases h
  | .enum a, W, C, x, tg, T, Γ, X, RR, k, h, o, f => by
    unfold chkI at h
    split at h
    · split at h
      · obtain ⟨h, h4⟩ := bk h
        obtain ⟨h, h3⟩ := bk h
        obtain ⟨h1, h2⟩ := bk h
        have e := of_decide_eq_true h1
        subst e
        exact li_enum o.hK (f.gl h2).1 (o.fr _ (by unfold stdNames; simp)) h3 (chkE_ok a h4 o f).1
      · cases h
    · cases h
end
end FF

namespace FF
open PySem PySem.Spec PyProof.Rows L2

/-- is the new list handed to the name at once -/
def handed (names : List (Str × NameKind)) (x : Str) (p lp : Pos) (s : Scope) : Bool := decide (names.lookup x = some .local) && (p.line == lp.line) && !(s.names.any fun (n, k) => n == x && (k == .local || k == .cell))
def swc (C : CK) (x : Str) (p : Pos) : Expr → Bool
  | .ListComp _ _ s lp => !handed C.names x p lp s
  | .SetComp _ _ _ _ => false
  | .DictComp _ _ _ _ _ => false
  | _ => true
def notLoc (C : CK) : Expr → Bool
  | .Name n _ => !decide (C.names.lookup n = some .local)
  | _ => true
def swpN (C : CK) (es : List Expr) : Expr → Bool
  | .Tuple vs _ _ => !(es.length == 2 || es.length == 3) || vs.length != es.length || vs.all (foldedForSure 8) || es.any (notLoc C)
  | _ => true
theorem fm_lt {α β : Type} {f : α → Option β} : ∀ {l : List α}, (∃ x ∈ l, f x = none) → (l.filterMap f).length < l.length
  | [], h => by obtain ⟨x, hx, _⟩ := h; cases hx
  | a :: r, h => by
    have le : (r.filterMap f).length ≤ r.length := List.length_filterMap_le ..
    rw [List.filterMap_cons]
    cases e : f a with
    | none =>
      show (r.filterMap f).length < r.length + 1
      omega
    | some b =>
      obtain ⟨x, hx, h2⟩ := h
      rcases List.mem_cons.mp hx with q | q
      · subst q; rw [e] at h2; cases h2
      · have := fm_lt (f := f) ⟨x, q, h2⟩
        show (r.filterMap f).length + 1 < r.length + 1
        omega
theorem swc_ok {C : CK} {X : Cx} {x : Str} {p : Pos} {e : Expr} {l : Nat} (f : Fits C X) (h : swc C x p e = true) : swapsWith e (some (.Name x p)) l X.env = pure false := by
  cases e with
  | ListComp elt gs s lp =>
    have h : (!handed C.names x p lp s) = true := h
    have h := nb h
    have hb : X.env.blockKind = .function := by unfold Env.blockKind; rw [f.kd]; rfl
    unfold swapsWith
    simp only [hb, Expr.pos]
    unfold handed at h
    rw [← f.nm] at h
    show (pure (_ && X.env.kindOf x == some .local && _ && _) : Sem Bool) = _
    congr 1
    unfold Env.kindOf
    have e1 : (X.env.scope.names.lookup x == some NameKind.local) = decide (X.env.scope.names.lookup x = some .local) := by
      cases X.env.scope.names.lookup x with
      | none => rfl
      | some k => cases k <;> rfl
    rw [e1]
    simpa using h
  | SetComp _ _ _ _ => cases h
  | DictComp _ _ _ _ _ => cases h
  | _ => rfl
theorem swc_yes {C : CK} {X : Cx} {x : Str} {p lp : Pos} {elt : Expr} {gs : List Comprehension} {s : Scope} {l : Nat} (f : Fits C X) (h : handed C.names x p lp s = true) : swapsWith (.ListComp elt gs s lp) (some (.Name x p)) l X.env = pure true := by
  have hb : X.env.blockKind = .function := by unfold Env.blockKind; rw [f.kd]; rfl
  unfold swapsWith
  simp only [hb, Expr.pos]
  unfold handed at h
  rw [← f.nm] at h
  show (pure (_ && X.env.kindOf x == some .local && _ && _) : Sem Bool) = _
  congr 1
  unfold Env.kindOf
  have e1 : (X.env.scope.names.lookup x == some NameKind.local) = decide (X.env.scope.names.lookup x = some .local) := by
    cases X.env.scope.names.lookup x with
    | none => rfl
    | some k => cases k <;> rfl
  rw [e1]
  simpa using h
theorem swp_no {C : CK} {X : Cx} {es : List Expr} {kk : Nat} {p : Pos} {e : Expr} (fi : Fits C X) (h : swpN C es e = true) : swappedStores [.Tuple es kk p] e X.env = pure none := by
  cases e with
  | Tuple vs k2 p2 =>
    have h : (!(es.length == 2 || es.length == 3) || vs.length != es.length || vs.all (foldedForSure 8) || es.any (notLoc C)) = true := h
    unfold swappedStores
    simp only []
    by_cases h1 : (!(es.length == 2 || es.length == 3) || vs.length != es.length || X.env.blockKind != .function) = true
    · rw [if_pos h1]
    · rw [if_neg h1]
      have h1 := Bool.eq_false_iff.mpr h1
      have h2 : (vs.all (foldedForSure 8) || es.any (notLoc C)) = true := by
        rw [Bool.or_eq_false_iff] at h1
        rw [h1.1, Bool.false_or] at h
        exact h
      split
      · rfl
      · split
        · rfl
        · rename_i h3 h4
          rcases Bool.or_eq_true_iff.mp h2 with h2 | h2
          · first | rfl | rw [if_pos h2]
          · exfalso
            refine h4 ?_
            rw [Bool.or_eq_true_iff]
            left
            obtain ⟨x, hx, hn⟩ := List.any_eq_true.mp h2
            refine bne_iff_ne.mpr (Nat.ne_of_lt (fm_lt ⟨x, hx, ?_⟩))
            cases x with
            | Name n q =>
              have hn : (!decide (C.names.lookup n = some .local)) = true := hn
              have : X.env.kindOf n ≠ some .local := by
                unfold Env.kindOf
                rw [fi.nm]
                exact of_decide_eq_false (nb hn)
              have e2 : (X.env.kindOf n == some NameKind.local) = false := by simpa using this
              simp only [e2, Bool.false_and, Bool.false_eq_true, if_false]
            | _ => rfl
  | _ => rfl
theorem swp_yes {C : CK} {X : Cx} {x y : Str} {px py pt pt2 : Pos} {kt k2 : Nat} {ea eb : Expr} (f : Fits C X) (hx : X.env.scope.names.lookup x = some .local) (hy : X.env.scope.names.lookup y = some .local) (ne : x ≠ y) (hl : (py.line == px.line) = true) (hsa : noStar ea = true) (hsb : noStar eb = true)
    (h1 : ([ea, eb].all (foldedForSure 8)) = false) (h2 : ([ea, eb].all (constantsAlone 8)) = false) : swappedStores [.Tuple [.Name x px, .Name y py] kt pt] (.Tuple [ea, eb] k2 pt2) X.env = pure (some [x, y]) := by
  have hb : X.env.blockKind = .function := by unfold Env.blockKind; rw [f.kd]; rfl
  have kx : X.env.kindOf x = some .local := hx
  have ky : X.env.kindOf y = some .local := hy
  unfold swappedStores
  simp only []
  rw [if_neg (by rw [hb]; simp)]
  split
  · rename_i z
    exfalso
    obtain ⟨e, he, z⟩ := List.any_eq_true.mp z
    have key : noStar e = true := by
      rcases List.mem_cons.mp he with q | q
      · rw [q]; exact hsa
      · rcases List.mem_cons.mp q with q | q
        · rw [q]; exact hsb
        · cases q
    cases e <;> first | (cases key; done) | (cases z; done)
  · have ne' : (y == x) = false := by simpa using fun e => ne e.symm
    have ne2 : (x == y) = false := by simpa using ne
    simp only [List.filterMap_cons, List.filterMap_nil, kx, ky, hl, h1, h2, Expr.pos, List.head?_cons, Option.map_some, Option.getD_some]
    simp [List.eraseDups, List.eraseDupsBy, List.eraseDupsBy.loop, ne', ne2]
theorem swp_yes3 {C : CK} {X : Cx} {x y w : Str} {px py pw pt pt2 : Pos} {kt k2 : Nat} {ea eb ec : Expr} (f : Fits C X) (hx : X.env.scope.names.lookup x = some .local) (hy : X.env.scope.names.lookup y = some .local) (hw : X.env.scope.names.lookup w = some .local) (n1 : x ≠ y) (n2 : x ≠ w) (n3 : y ≠ w) (hl : (py.line == px.line) = true) (hl2 : (pw.line == px.line) = true)
    (hsa : noStar ea = true) (hsb : noStar eb = true) (hsc : noStar ec = true) (h1 : ([ea, eb, ec].all (foldedForSure 8)) = false) (h2 : ([ea, eb, ec].all (constantsAlone 8)) = false) : swappedStores [.Tuple [.Name x px, .Name y py, .Name w pw] kt pt] (.Tuple [ea, eb, ec] k2 pt2) X.env = pure (some [x, y, w]) := by
  have hb : X.env.blockKind = .function := by unfold Env.blockKind; rw [f.kd]; rfl
  have kx : X.env.kindOf x = some .local := hx
  have ky : X.env.kindOf y = some .local := hy
  have kw : X.env.kindOf w = some .local := hw
  unfold swappedStores
  simp only []
  rw [if_neg (by rw [hb]; simp)]
  split
  · rename_i z
    exfalso
    obtain ⟨e, he, z⟩ := List.any_eq_true.mp z
    have key : noStar e = true := by
      rcases List.mem_cons.mp he with q | q
      · rw [q]; exact hsa
      · rcases List.mem_cons.mp q with q | q
        · rw [q]; exact hsb
        · rcases List.mem_cons.mp q with q | q
          · rw [q]; exact hsc
          · cases q
    cases e <;> first | (cases key; done) | (cases z; done)
  · have e1 : (y == x) = false := by simpa using fun e => n1 e.symm
    have e2 : (w == x) = false := by simpa using fun e => n2 e.symm
    have e3 : (w == y) = false := by simpa using fun e => n3 e.symm
    have e4 : (x == y) = false := by simpa using n1
    have e5 : (x == w) = false := by simpa using n2
    have e6 : (y == w) = false := by simpa using n3
    simp only [List.filterMap_cons, List.filterMap_nil, kx, ky, kw, hl, hl2, h1, h2, Expr.pos, List.head?_cons, Option.map_some, Option.getD_some]
    simp [List.eraseDups, List.eraseDupsBy, List.eraseDupsBy.loop, e1, e2, e3, e4, e5, e6]
def rngN0 (C : CK) : List Nat := List.range C.N.length
mutual
def chkS (W : Wd) (C : CK) : S → Stmt → Bool
  | .set i e, st => match st with
    | .Assign [.Name n p] v _ => C.own i n && swc C n p v && chkE W C e v
    | _ => false
  | .set2 i j e, st => match st with
    | .Assign [.Name n p, .Name m q] (.Call ef el ek ep) _ => C.own i n && C.own j m && chkE W C e (.Call ef el ek ep)
    | _ => false
  | .setC i e, st => match st with
    | .Assign [.Name n p] (.ListComp elt [⟨tg, iter, ifs, 0⟩] scope lp) _ => match e with
      | .comp t it c e own => W.cm && C.loc i n && handed C.names n p lp scope && (blkC C.N C.sc scope (ownP C own) && noSet iter && (chkI W C it iter tg && (chkT (C.blk scope) own t tg && (chkC W.blk (C.blk scope) c ifs && chkE W.blk (C.blk scope) e elt))))
      | _ => false
    | _ => false
  | .setOwn i e, st => match st with
    | .Assign [.Name n p] v _ => C.own i n && (match e with
      | .lst es => match v with
        | .List l _ => chkEs W C es l
        | _ => false
      | .bin .add a b => match v with
        | .BinOp l .Add r _ => chkE W C a l && chkE W C b r
        | _ => false
      | _ => false)
    | _ => false
  | .setT ts e, st => match st with
    | .Assign [.Tuple es kk p] v _ => W.cm && chkT C (rngN0 C) (.tup ts) (.Tuple es kk p) && swpN C es v && chkE W C e v
    | _ => false
  | .setP i j a b, st => match st with
    | .Assign [.Tuple [.Name x px, .Name y py] _ _] (.Tuple [u, v] _ _) _ => W.cm && C.loc i x && C.loc j y && decide (i ≠ j) && decide (x ≠ y) && (py.line == px.line) && noStar u && noStar v && !([u, v].all (foldedForSure 8)) && !([u, v].all (constantsAlone 8)) && (chkE W C a u && chkE W C b v)
    | _ => false
  | .setPO i j a es, st => match st with
    | .Assign [.Tuple [.Name x px, .Name y py] _ _] (.Tuple [u, .List l lp] _ _) _ => W.cm && C.loc i x && C.loc j y && decide (i ≠ j) && decide (x ≠ y) && (py.line == px.line) && noStar u && noStar (.List l lp) && !([u, .List l lp].all (foldedForSure 8)) && !([u, .List l lp].all (constantsAlone 8)) && (chkE W C a u && chkEs W C es l)
    | _ => false
  | .setP3 i j l a b c, st => match st with
    | .Assign [.Tuple [.Name x px, .Name y py, .Name z pz] _ _] (.Tuple [u, v, w] _ _) _ => W.cm && C.loc i x && C.loc j y && C.loc l z && (decide (i ≠ j) && decide (i ≠ l) && decide (j ≠ l)) && (decide (x ≠ y) && decide (x ≠ z) && decide (y ≠ z)) && (py.line == px.line) && (pz.line == px.line) && noStar u && noStar v && noStar w && !([u, v, w].all (foldedForSure 8)) && !([u, v, w].all (constantsAlone 8)) && (chkE W C a u && (chkE W C b v && chkE W C c w))
    | _ => false
  | .setFld c o f e, st => match st with
    | .Assign [.Attribute y n _] v _ => decide (W.tbl[f]? = some n) && decide ((c, n) ∈ W.flds) && noComp v && (chkE W C o y && chkE W C e v)
    | _ => false
  | .setIdx o i e, st => match st with
    | .Assign [.Subscript x y _] v _ => noSlice y && (chkE W C o x && (chkE W C i y && chkE W C e v))
    | _ => false
  | .expr e, st => match st with
    | .Expr v _ => noComp v && chkE W C e v
    | _ => false
  | .app i e, st => match st with
    | .Expr (.Call (.Attribute (.Name x _) m ap) [v] [] cp) _ => decide (m = ("append" : Str)) && C.see i x && (ap.endLine == cp.line) && noStar v && chkE W C e v
    | _ => false
  | .ext i e, st => match st with
    | .Expr (.Call (.Attribute (.Name x _) m ap) [v] [] cp) _ => decide (m = ("extend" : Str)) && C.see i x && (ap.endLine == cp.line) && noStar v && chkE W C e v
    | _ => false
  | .ret e, st => match st with
    | .Return (some v) _ => chkE W C e v
    | _ => false
  | .retN, st => match st with
    | .Return none _ => true
    | _ => false
  | .ite c a b, st => match st with
    | .If t x y _ => tst t && (chkE W C c t && (chkSs W C a x && chkSs W C b y))
    | _ => false
  | .whl c b, st => match st with
    | .While t x [] _ => W.cm && tst t && (chkE W C c t && chkSs W C b x)
    | _ => false
  | .for_ t it b, st => match st with
    | .For tg iter x [] _ => W.cm && noSet iter && (chkI W C it iter tg && (chkT C (rngN0 C) t tg && chkSs W C b x))
    | _ => false
  | .try_ b hs, st => match st with
    | .Try x (h1 :: r) [] [] _ => W.cm && (chkSs W.tr C b x && chkH W C hs (h1 :: r))
    | _ => false
  | .raise c e, st => match st with
    | .Raise (some (.Call (.Name y _) [v] [] _)) none _ => W.cm && decide ((c, y) ∈ W.rss) && C.gl y && noStar v && chkE W C e v
    | _ => false
  | .never, _ => false
  | .pass, st => match st with
    | .Pass _ => true
    | _ => false
  | .cont, st => match st with
    | .Continue _ => true
    | _ => false
  | .frz _, _ => false
def chkSs (W : Wd) (C : CK) : Ss → List Stmt → Bool
  | .nil, l => l.isEmpty
  | .cons s r, l => match s with
    | .frz _ => chkSs W C r l
    | .never => true
    | s => match l with
      | st :: rest => chkS W C s st && chkSs W C r rest
      | [] => false
def chkH (W : Wd) (C : CK) : Hs → List ExceptHandler → Bool
  | .nil, l => l.isEmpty
  | .cons c n b r, l => match l with
    | .ExceptHandler (some (.Name x _)) nm (st :: rest) _ :: ks => decide ((c, x) ∈ W.hcl) && C.gl x && (match n with
      | none => (match nm with | none => true | some _ => false)
      | some i => (match nm with | some y => C.loc i y | none => false)) && (chkSs W.hot C b (st :: rest) && chkH W C r ks)
    | _ => false
end
/-- what a body's running leans on -/
structure Run (W : Wd) (X : Cx) : Prop where
  hp : W.cm = true → PassesOwn (model X.prog X.w) X.A X.env X.xe
  stk : W.cm = true → X.stack = X.env :: X.outer ∧ X.env.frame = some X.env.locals
theorem Run.hot {W : Wd} {X : Cx} {e : Addr} {pn : List (Addr × Obj)} : Run W.hot (X.suite e pn) := ⟨fun z => (by cases z), fun z => (by cases z)⟩
theorem Fits.suite {C : CK} {X : Cx} (f : Fits C X) {e : Addr} {pn : List (Addr × Obj)} : Fits C (X.suite e pn) := ⟨f.N, f.nd, f.nm, f.kd, f.fn⟩
theorem Fits.tr {C : CK} {X : Cx} (f : Fits C X) {pn : List (Addr × Obj)} {xe : Value → Shared → Prop} : Fits C (X.tr pn xe) := ⟨f.N, f.nd, f.nm, f.kd, f.fn⟩

theorem sole_sub {x y e : Expr} {p : Pos} {l : Nat} {env : PySem.Env} : swapsWithSole [.Subscript x y p] e l env = pure false := by cases e <;> rfl
theorem sole_tup {es : List Expr} {kk : Nat} {e : Expr} {p : Pos} {l : Nat} {env : PySem.Env} : swapsWithSole [.Tuple es kk p] e l env = pure false := by cases e <;> rfl
theorem swp_sub {x y e : Expr} {p : Pos} {env : PySem.Env} : swappedStores [.Subscript x y p] e env = pure none := by cases e <;> rfl
theorem le_setIdx0 {eo ei : Expr} {p : Pos} {env : PySem.Env} (h : noSlice ei = true) : ∀ v, assign (.Subscript eo ei p) env v = (do
      let ov ← holding [v] (eval eo env)
      let iv ← holding [v, ov] (eval ei env)
      standAt p
      holding [v, ov, iv] (setItem ov iv v)
      release [v, ov, iv] []) := by
  intro _
  cases ei <;> first | rfl | cases h
mutual
theorem chkS_ok : ∀ (s : S) {W : Wd} {C : CK} {x : Stmt} {T : Tb} {Γ : Gam} {X : Cx} {RR : RRt} {k : Nat}, chkS W C s x = true → Ok W T Γ X RR k → Fits C X → Run W X → PS X x (LS T X RR (wpS Γ s))
  | .set i e, W, C, x, T, Γ, X, RR, k, h, o, f, hp => by
    unfold chkS at h
    split at h
    · obtain ⟨h, h3⟩ := bk h
      obtain ⟨h1, h2⟩ := bk h
      obtain ⟨a1, a2, a3⟩ := f.own h1
      exact ls_set (f.N ▸ f.nd) a1 a2 a3 (swc_ok f h2) (chkE_ok e h3 o f).1
    · cases h
  | .set2 i j e, W, C, x, T, Γ, X, RR, k, h, o, f, hp => by
    unfold chkS at h
    split at h
    · obtain ⟨h, h3⟩ := bk h
      obtain ⟨h1, h2⟩ := bk h
      obtain ⟨a1, a2, a3⟩ := f.own h1
      obtain ⟨b1, b2, b3⟩ := f.own h2
      exact ls_set2 (f.N ▸ f.nd) a1 a2 a3 b1 b2 b3 (chkE_ok e h3 o f).1
    · cases h
  | .setC i e, W, C, x, T, Γ, X, RR, k, h, o, f, hp => by
    unfold chkS at h
    split at h
    · rename_i n p elt tg iter ifs scope lp pos
      split at h
      · rename_i t it c e own
        obtain ⟨h, h7⟩ := bk h
        obtain ⟨h8, h9⟩ := bk h
        obtain ⟨hcm, h8⟩ := bk h8
        have calm := o.calm hcm
        obtain ⟨h1, h2⟩ := bk h7
        obtain ⟨h1, h3⟩ := bk h1
        obtain ⟨h2, h4⟩ := bk h2
        obtain ⟨h4, h5⟩ := bk h4
        obtain ⟨h5, h6⟩ := bk h5
        have ok := blk_ok f h1
        obtain ⟨a1, a2⟩ := f.loc h8
        have ob := fun s H (A : Addr) (cl : List (Str × Addr)) fp F0 G0 => o.blk s H scope (compEnvC scope cl A X.env) fp F0 G0
        have fb := fun s H (A : Addr) (cl : List (Str × Addr)) fp => f.blk s H scope ok.kind A cl fp
        have q := ls_setC (RR := RR) (Γ := Γ) (T := T) (t := t) (it := it) (c := c) (e := e) (elt := elt) (pos := pos) (i := i) (y := n) (py := p) (lp := lp) calm (f.N ▸ f.nd) a1 a2 (swc_yes f h9) (chkI_ok it h2 o f) ok
          (fun s H A cl fp => by rw [ownP_snd]; exact chkT_ok t h4 o.hK calm (fb s H A cl fp))
          (fun s H A cl fp => chkC_ok c h5 (fun F0 G0 => ob s H A cl fp F0 G0) (fb s H A cl fp))
          (fun s H A cl fp => PE.ex (α := Hp × Hp) fun a => (chkE_ok e h6 (ob s H A cl fp a.1 a.2) (fb s H A cl fp)).1) (fold_ok h3)
        rw [ownP_snd] at q
        exact q
      · cases h
    · cases h
  | .setOwn i e, W, C, x, T, Γ, X, RR, k, h, o, f, hp => by
    unfold chkS at h
    split at h
    · obtain ⟨h1, h2⟩ := bk h
      obtain ⟨a1, a2, a3⟩ := f.own h1
      split at h2
      · split at h2
        · exact ls_setOwn (f.N ▸ f.nd) a1 a2 a3 rfl (lf_lst (chkEs_ok _ h2 o f).1)
        · cases h2
      · split at h2
        · obtain ⟨h2, h3⟩ := bk h2
          exact ls_setOwn (f.N ▸ f.nd) a1 a2 a3 rfl (lf_add o.hK (chkE_ok _ h2 o f).1 (chkE_ok _ h3 o f).1)
        · cases h2
      · cases h2
    · cases h
  | .setT ts e, W, C, x, T, Γ, X, RR, k, h, o, f, hp => by
    unfold chkS at h
    split at h
    · obtain ⟨h, h3⟩ := bk h
      obtain ⟨h1, h2⟩ := bk h
      obtain ⟨hcm, h1⟩ := bk h1
      exact ls_setT (chkT_ok _ h1 o.hK (o.calm hcm) f) sole_tup (swp_no f h2) (chkE_ok e h3 o f).1
    · cases h
  | .setP i j a b, W, C, x, T, Γ, X, RR, k, h, o, f, hp => by
    unfold chkS at h
    split at h
    · obtain ⟨h, h10⟩ := bk h
      obtain ⟨h10, h11⟩ := bk h10
      obtain ⟨h, h9⟩ := bk h
      obtain ⟨h, h8⟩ := bk h
      obtain ⟨h, h7⟩ := bk h
      obtain ⟨h, h6⟩ := bk h
      obtain ⟨h, h5⟩ := bk h
      obtain ⟨h, h4⟩ := bk h
      obtain ⟨h, h3⟩ := bk h
      obtain ⟨h1, h2⟩ := bk h
      obtain ⟨hcm, h1⟩ := bk h1
      obtain ⟨a1, a2⟩ := f.loc h1
      obtain ⟨b1, b2⟩ := f.loc h2
      exact ls_setP (o.calm hcm) (f.N ▸ f.nd) a1 b1 (of_decide_eq_true h3) a2 b2 h6 h7 (swp_yes f a2 b2 (of_decide_eq_true h4) h5 h6 h7 (nb h8) (nb h9)) rfl (chkE_ok a h10 o f).1 (chkE_ok b h11 o f).1
    · cases h
  | .setPO i j a es, W, C, x, T, Γ, X, RR, k, h, o, f, hp => by
    unfold chkS at h
    split at h
    · obtain ⟨h, h10⟩ := bk h
      obtain ⟨h10, h11⟩ := bk h10
      obtain ⟨h, h9⟩ := bk h
      obtain ⟨h, h8⟩ := bk h
      obtain ⟨h, h7⟩ := bk h
      obtain ⟨h, h6⟩ := bk h
      obtain ⟨h, h5⟩ := bk h
      obtain ⟨h, h4⟩ := bk h
      obtain ⟨h, h3⟩ := bk h
      obtain ⟨h1, h2⟩ := bk h
      obtain ⟨hcm, h1⟩ := bk h1
      obtain ⟨a1, a2⟩ := f.loc h1
      obtain ⟨b1, b2⟩ := f.loc h2
      exact ls_setPO (o.calm hcm) (f.N ▸ f.nd) a1 b1 (of_decide_eq_true h3) a2 b2 h6 h7 (swp_yes f a2 b2 (of_decide_eq_true h4) h5 h6 h7 (nb h8) (nb h9)) rfl (chkE_ok a h10 o f).1 (lf_lst (chkEs_ok _ h11 o f).1)
    · cases h
  | .setP3 i j l a b c, W, C, x, T, Γ, X, RR, k, h, o, f, hp => by
    unfold chkS at h
    split at h
    · obtain ⟨h, hE⟩ := bk h
      obtain ⟨e1, hE⟩ := bk hE
      obtain ⟨e2, e3⟩ := bk hE
      obtain ⟨h, g2⟩ := bk h
      obtain ⟨h, g1⟩ := bk h
      obtain ⟨h, s3⟩ := bk h
      obtain ⟨h, s2⟩ := bk h
      obtain ⟨h, s1⟩ := bk h
      obtain ⟨h, l2⟩ := bk h
      obtain ⟨h, l1⟩ := bk h
      obtain ⟨h, hn⟩ := bk h
      obtain ⟨hn, n3⟩ := bk hn
      obtain ⟨n1, n2⟩ := bk hn
      obtain ⟨h, hi⟩ := bk h
      obtain ⟨hi, i3⟩ := bk hi
      obtain ⟨i1, i2⟩ := bk hi
      obtain ⟨h, v3⟩ := bk h
      obtain ⟨h, v2⟩ := bk h
      obtain ⟨hcm, v1⟩ := bk h
      obtain ⟨a1, a2⟩ := f.loc v1
      obtain ⟨b1, b2⟩ := f.loc v2
      obtain ⟨c1, c2⟩ := f.loc v3
      exact ls_setP3 (o.calm hcm) (f.N ▸ f.nd) a1 b1 c1 (of_decide_eq_true i1) (of_decide_eq_true i2) (of_decide_eq_true i3) a2 b2 c2 s1 s2 s3 (swp_yes3 f a2 b2 c2 (of_decide_eq_true n1) (of_decide_eq_true n2) (of_decide_eq_true n3) l1 l2 s1 s2 s3 (nb g1) (nb g2)) rfl (chkE_ok a e1 o f).1 (chkE_ok b e2 o f).1 (chkE_ok c e3 o f).1
    · cases h
  | .setFld c a n e, W, C, x, T, Γ, X, RR, k, h, o, f, hp => by
    unfold chkS at h
    split at h
    · rename_i y m p v pos
      obtain ⟨h, h4⟩ := bk h
      obtain ⟨h4, h5⟩ := bk h4
      obtain ⟨h, h3⟩ := bk h
      obtain ⟨h1, h2⟩ := bk h
      exact ls_setFld o.hK (o.tbl ▸ of_decide_eq_true h1) (o.flds _ (of_decide_eq_true h2)) (by cases v <;> first | rfl | cases h3) (chkE_ok a h4 o f).1 (chkE_ok e h5 o f).1
    · cases h
  | .setIdx a b e, W, C, x, T, Γ, X, RR, k, h, o, f, hp => by
    unfold chkS at h
    split at h
    · obtain ⟨h0, h1⟩ := bk h
      obtain ⟨h1, h2⟩ := bk h1
      obtain ⟨h2, h3⟩ := bk h2
      exact ls_setIdx (le_setIdx0 h0) sole_sub swp_sub (chkE_ok a h1 o f).1 (chkE_ok b h2 o f).1 (chkE_ok e h3 o f).1
    · cases h
  | .expr e, W, C, x, T, Γ, X, RR, k, h, o, f, hp => by
    unfold chkS at h
    split at h
    · obtain ⟨h1, h2⟩ := bk h
      exact ls_expr (by rename_i v _; cases v <;> first | rfl | cases h1) (chkE_ok e h2 o f).1
    · cases h
  | .app i e, W, C, x, T, Γ, X, RR, k, h, o, f, hp => by
    unfold chkS at h
    split at h
    · obtain ⟨h, h5⟩ := bk h
      obtain ⟨h, h4⟩ := bk h
      obtain ⟨h, h3⟩ := bk h
      obtain ⟨h1, h2⟩ := bk h
      have e1 := of_decide_eq_true h1
      subst e1
      obtain ⟨a1, a2, a3, a4⟩ := f.see h2
      exact ls_app o.hK a1 a2 a3 a4 h3 h4 rfl (chkE_ok e h5 o f).1
    · cases h
  | .ext i e, W, C, x, T, Γ, X, RR, k, h, o, f, hp => by
    unfold chkS at h
    split at h
    · obtain ⟨h, h5⟩ := bk h
      obtain ⟨h, h4⟩ := bk h
      obtain ⟨h, h3⟩ := bk h
      obtain ⟨h1, h2⟩ := bk h
      have e1 := of_decide_eq_true h1
      subst e1
      obtain ⟨a1, a2, a3, a4⟩ := f.see h2
      exact ls_ext o.hK a1 a2 a3 a4 h3 h4 rfl (chkE_ok e h5 o f).1
    · cases h
  | .ret e, W, C, x, T, Γ, X, RR, k, h, o, f, hp => by
    unfold chkS at h
    split at h
    · exact ls_ret (chkE_ok e h o f).1
    · cases h
  | .retN, W, C, x, T, Γ, X, RR, k, h, o, f, hp => by
    unfold chkS at h
    split at h
    · exact ls_retN
    · cases h
  | .ite c a b, W, C, x, T, Γ, X, RR, k, h, o, f, hp => by
    unfold chkS at h
    split at h
    · obtain ⟨h1, h2⟩ := bk h
      obtain ⟨h2, h3⟩ := bk h2
      obtain ⟨h3, h4⟩ := bk h3
      exact ls_ite ((chkE_ok c h2 o f).2 h1) (chkSs_ok a h3 o f hp) (chkSs_ok b h4 o f hp)
    · cases h
  | .whl c b, W, C, x, T, Γ, X, RR, k, h, o, f, hp => by
    unfold chkS at h
    split at h
    · obtain ⟨h1, h2⟩ := bk h
      obtain ⟨hcm, h1⟩ := bk h1
      obtain ⟨h2, h3⟩ := bk h2
      exact ls_whl (hp.hp hcm) ((chkE_ok c h2 o f).2 h1) (chkSs_ok b h3 o f hp)
    · cases h
  | .for_ t it b, W, C, x, T, Γ, X, RR, k, h, o, f, hp => by
    unfold chkS at h
    split at h
    · obtain ⟨h1, h2⟩ := bk h
      obtain ⟨hcm, h1⟩ := bk h1
      obtain ⟨h2, h3⟩ := bk h2
      obtain ⟨h3, h4⟩ := bk h3
      exact ls_for (hp.hp hcm) (o.calm hcm) (chkI_ok it h2 o f) (chkT_ok t h3 o.hK (o.calm hcm) f) (chkSs_ok b h4 o f hp) (fold_ok h1)
    · cases h
  | .try_ b hs, W, C, x, T, Γ, X, RR, k, h, o, f, hp => by
    unfold chkS at h
    split at h
    · obtain ⟨h1, h2⟩ := bk h
      obtain ⟨h2, h3⟩ := bk h2
      obtain ⟨s1, s2⟩ := hp.stk h1
      exact ls_try o.hK s1 s2 (f.N ▸ f.nd) o.tk o.exm (fun pn xe R2 tk pas sF eG => chkSs_ok b h2 (o.tr pn xe R2 tk sF eG) f.tr ⟨fun _ => pas, hp.stk⟩) (chkH_ok hs h3 o f)
    · cases h
  | .raise c e, W, C, x, T, Γ, X, RR, k, h, o, f, hp => by
    unfold chkS at h
    split at h
    · obtain ⟨h, h5⟩ := bk h
      obtain ⟨h, h4⟩ := bk h
      obtain ⟨h, h3⟩ := bk h
      obtain ⟨h1, h2⟩ := bk h
      obtain ⟨g1, g2⟩ := f.gl h3
      obtain ⟨j, jk, q1, q2⟩ := o.rss _ (of_decide_eq_true h2)
      exact ls_raise o.hK (o.calm h1) q1 ((o.room h1).mono jk) g1 q2 o.tk h4 g2 (chkE_ok e h5 o f).1
    · cases h
  | .never, W, C, x, T, Γ, X, RR, k, h, o, f, hp => by
    unfold chkS at h
    cases h
  | .pass, W, C, x, T, Γ, X, RR, k, h, o, f, hp => by
    unfold chkS at h
    split at h
    · exact ls_pass
    · cases h
  | .cont, W, C, x, T, Γ, X, RR, k, h, o, f, hp => by
    unfold chkS at h
    split at h
    · exact ls_cont
    · cases h
  | .frz _, W, C, x, T, Γ, X, RR, k, h, o, f, hp => by
    unfold chkS at h
    cases h
theorem chkSs_ok : ∀ (s : Ss) {W : Wd} {C : CK} {x : List Stmt} {T : Tb} {Γ : Gam} {X : Cx} {RR : RRt} {k : Nat}, chkSs W C s x = true → Ok W T Γ X RR k → Fits C X → Run W X → PSs X x (LS T X RR (wpSs Γ s))
  | .nil, W, C, x, T, Γ, X, RR, k, h, o, f, hp => by
    unfold chkSs at h
    cases x with
    | nil => exact lss_nil
    | cons _ _ => cases h
  | .cons s r, W, C, x, T, Γ, X, RR, k, h, o, f, hp => by
    unfold chkSs at h
    split at h
    · exact lss_frz (chkSs_ok r h o f hp)
    · exact lss_never
    · split at h
      · obtain ⟨h1, h2⟩ := bk h
        exact lss_cons (chkS_ok s h1 o f hp) (chkSs_ok r h2 o f hp)
      · cases h
theorem chkH_ok : ∀ (hs : Hs) {W : Wd} {C : CK} {x : List ExceptHandler} {T : Tb} {Γ : Gam} {X : Cx} {RR : RRt} {k : Nat}, chkH W C hs x = true → Ok W T Γ X RR k → Fits C X → HdsN X x (hdsL T Γ hs)
  | .nil, W, C, x, T, Γ, X, RR, k, h, o, f => by
    unfold chkH at h
    cases x with
    | nil => exact .nil
    | cons _ _ => cases h
  | .cons c n b r, W, C, x, T, Γ, X, RR, k, h, o, f => by
    unfold chkH at h
    split at h
    · rename_i y p1 nm st rest p2 ks
      obtain ⟨h, h4⟩ := bk h
      obtain ⟨h4, h5⟩ := bk h4
      obtain ⟨h, h3⟩ := bk h
      obtain ⟨h1, h2⟩ := bk h
      obtain ⟨g1, g2⟩ := f.gl h2
      have nmc : Names X y (.ref (T.cA c)) := ⟨g1, g2, .inl (o.hcl _ (of_decide_eq_true h1))⟩
      have su : ∀ (e : Addr) (oe : Obj) (cls : Value) (d : Option Addr) (pn : List (Addr × Obj)), Zc cls d oe → (∃ vs, oe.data = .fields vs) → PSs (X.suite e ((e, oe) :: pn)) (st :: rest) (HSt T Γ n b e cls d) :=
        fun e oe cls d pn z fv => suite_ok z fv fun F0 G0 => chkSs_ok b h4 (o.hot e ((e, oe) :: pn) F0 G0) f.suite Run.hot
      have tl := chkH_ok r h5 o f
      cases n with
      | none =>
        cases nm with
        | none => exact .only nmc su tl
        | some _ => cases h3
      | some i =>
        cases nm with
        | none => cases h3
        | some z =>
          obtain ⟨a1, a2⟩ := f.loc h3
          exact .as_ nmc a1 a2 su tl
    · cases h
end
/-- a def's body, checked, keeps what its reading says -/
theorem start_at : ∀ {vs : List D} {n : Nat} {i : Nat}, (start n vs).at i = match vs[i]? with | some d => .val d | none => .un := by
  intro vs n i
  unfold start
  induction vs generalizing i n with
  | nil =>
    show Env.at (List.replicate (n - 0) Slot.un) i = .un
    generalize n - 0 = m
    induction m generalizing i with
    | zero => rfl
    | succ m ih =>
      cases i with
      | zero => rfl
      | succ i => exact ih
  | cons d ds ih =>
    cases i with
    | zero => rfl
    | succ i =>
      have e : n - (d :: ds).length = (n - 1) - ds.length := by rw [List.length_cons]; omega
      show Env.at (ds.map .val ++ List.replicate (n - (d :: ds).length) .un) i = _
      rw [e]
      exact ih
theorem sr_start {T : Tb} {F G : Hp} {h : AH} {H : Hp} {N : List Str} {ds : List D} {vs : List V} (sh : SH T F G h H) (r : Reps T F ds vs) (hl : ds.length ≤ N.length) : SR T ⟨[], F, G⟩ F G (FF.start N.length ds) h (L2.start N vs) H := by
  have e := r.length
  refine ⟨⟨sh, ?_, fun i => ?_, fun i j l m a _ e1 _ _ => ?_⟩, Same.refl _, rfl⟩
  · unfold FF.start L2.start
    rw [List.length_append, List.length_map, List.length_replicate, List.length_append, List.length_map, List.length_replicate, e]
  · rw [start_at]
    cases q : ds[i]? with
    | none => trivial
    | some d =>
      obtain ⟨v, hv, rv⟩ := r.get q
      refine ⟨v, ?_, rv⟩
      unfold L2.start
      obtain ⟨hi, _⟩ := List.getElem?_eq_some_iff.mp hv
      rw [List.getElem?_append_left (by rw [List.length_map]; exact hi), List.getElem?_map, hv]
      rfl
  · rw [start_at] at e1
    split at e1 <;> cases e1
def ckOf (N : List Str) (sc : Scope) : CK := ⟨N, sc.names, fun _ => true⟩
theorem OkG.mono {W : Wd} {T : Tb} {Γ : Gam} {P : Program} {w : World} {mg : Str → Option Value} {base : Heap} {j k : Nat} (o : OkG W T Γ P w mg base j) (h : j ≤ k) : OkG W T Γ P w mg base k := by
  refine ⟨o.fr, fun p hp => ⟨(o.fns p hp).1.mono h, (o.fns p hp).2⟩, fun p hp => ⟨?_, (o.fnK p hp).2⟩, fun p hp => ⟨?_, (o.fnD p hp).2⟩, o.cons, o.tbl, fun z => ⟨fun n hn ex => ((o.cv z).1 n hn ex).mono h, (o.cv z).2⟩, fun p hp => ?_, fun p hp => ⟨?_, (o.mets p hp).2⟩, o.flds, o.iso, fun p hp => ?_, o.hcl, o.exm, o.xfs, fun p hp => ⟨(o.hfs p hp).1.mono (Nat.succ_le_succ h), (o.hfs p hp).2⟩⟩
  · obtain ⟨⟨fd, ps, F, b⟩, kp⟩ := (o.fnK p hp).1
    exact ⟨⟨fd, ps, F.mono h, b⟩, kp⟩
  · obtain ⟨⟨fd, ps, dvs, us, F, b, r, d⟩, kp⟩ := (o.fnD p hp).1
    exact ⟨⟨fd, ps, dvs, us, F.mono h, b, r, d⟩, kp⟩
  · obtain ⟨i, hi, q⟩ := o.mks p hp
    exact ⟨i, Nat.le_trans hi h, q⟩
  · obtain ⟨⟨fd, ps, F, b⟩, me⟩ := (o.mets p hp).1
    exact ⟨⟨fd, ps, F.mono h, b⟩, me⟩
  · obtain ⟨i, hi, q⟩ := o.rss p hp
    exact ⟨i, Nat.le_trans hi h, q⟩
/-- how a lambda within a def is called -/
def lamq (qual : Str) : Str := qual ++ ".<locals>." ++ "<lambda>"
/-- a def in which lambdas stand: its code object, the table -/
structure LamD (T : Tb) (mg : Str → Option Value) (base : Heap) (qual : Str) (fd : FuncData) : Prop where
  ex : ∃ c P, fd.code = .ref c ∧ LamX.TabB base mg c P ∧ (P, lamq qual) ∈ T.lam ∧ ∀ p ∈ T.lam, p.1 = P → p.2 = lamq qual
theorem good_of0 {W : Wd} {T : Tb} {Γ : Gam} {P : Program} {w : World} {mg : Str → Option Value} {base : Heap} {k k2 n : Nat} {x qual : Str} {params : Arguments} {body : List Stmt} {scope : Scope} {dvs : List V} {kws : List (Str × V)} {fd : FuncData} {N ps : List Str} {f : Fd}
    (F : FunD T.K x qual params body scope dvs kws (T.fA n) fd) (S : FnScope N ps scope) (og : OkG W T Γ P w mg base k) (hnp : f.np = ps.length) (hns : f.ns = N.length) (hc : chkSs W (ckOf N scope) f.body body = true) (hb : BodyOkD Γ f (Γ.fn n))
    (hk : k ≤ k2) (ha : (W.act || W.acts) = false) (hl : W.lm = true → k + 2 ≤ k2 ∧ LamD T mg base qual fd) :
    FnOk P w T.K mg base (L2.CX P w) (k2 + 1) (T.fA n) fd ps (prom T (Γ.fn n)) := by
  obtain ⟨oc, od, dV, kV, doc, pm, an, cdv, ct, osl, efd, lk, hcd, _, _⟩ := F.ex
  subst efd
  refine fn_of lk hcd S (fun vs H Q E h => ?_) fun A outer s H vs Q E hr h => ?_
  · obtain ⟨F0, G0, h0, ds, Qd, Rd, r, sh, sp, _⟩ := h
    rw [← r.length, ← hnp]
    exact (hb ds h0 Qd Rd sp).1
  · obtain ⟨F0, G0, h0, ds, Qd, Rd, r, sh, sp, kq, kr⟩ := h
    obtain ⟨l, wp⟩ := hb ds h0 Qd Rd sp
    have hpl : ps.length ≤ N.length := by
      have := congrArg List.length S.pre
      rw [List.length_take] at this
      omega
    let X := cxOf (L2.CX P w) P w T.K mg base N qual scope (T.fA n) cdv A outer s H E
    have tk : Takes X (WR T X ⟨F0, G0, fun x _ h => ∃ h', AH.Sub h' h ∧ Rd x h'⟩) := by
      refine Takes.imp (takes_of (X := X) (E := E) rfl rfl rfl rfl) fun cls d τ H' q => ?_
      obtain ⟨F1, G1, σ1, h1, e, dd, v, rfl, rfl, sr, e1, rv, h2, sub, q⟩ := q
      have eG : G1 = G0 := sr.lG
      subst eG
      exact kr e h2 F1 H' dd v sr.lF (sr.sh.less sub) e1 rv q
    obtain ⟨ha1, ha2⟩ := Bool.or_eq_false_iff.mp ha
    have o2 := og.mono hk
    have ok : Ok W T Γ X ⟨F0, G0, fun x _ h => ∃ h', AH.Sub h' h ∧ Rd x h'⟩ k2 := ⟨rfl, o2.fr, hr.units, fun _ => hr, tk, fun _ => rfl, o2.fns, o2.fnK, o2.fnD, o2.cons, o2.tbl, o2.cv, o2.mks, o2.mets, o2.flds, o2.iso, o2.rss, o2.hcl, o2.exm, o2.xfs, fun z => (by
      obtain ⟨q1, q2⟩ := hl z
      obtain ⟨c, P', e1, e2, e3, e4⟩ := q2.ex
      exact ⟨k, c, P', q1, og.blk, og.hfs, e2, e1, e3, e4⟩), fun z => (by rw [z] at ha1; cases ha1), fun z => (by rw [z] at ha2; cases ha2)⟩
    have fits : Fits (ckOf N scope) X := ⟨rfl, S.nd, rfl, S.kind, fun _ _ => rfl⟩
    refine ⟨_, chkSs_ok f.body hc ok fits ⟨fun _ => passes_of (X := X) rfl, fun _ => ⟨rfl, rfl⟩⟩, ?_⟩
    refine ⟨F0, G0, FF.start N.length ds, h0, (fun _ h => ∃ h', AH.Sub h' h ∧ Qd .non h'), (fun d h => ∃ h', AH.Sub h' h ∧ Qd d h'), (fun _ _ => False), sr_start sh r (by rw [l, hnp]; exact hpl), ?_, ?_, ?_, ?_⟩
    · rw [hns] at wp; exact wp
    · rintro σ' h' τ' F' H' s' sr' ⟨h2, sub, q⟩
      exact kq .non h2 _ F' H' s' (sr'.sh.less sub) .non q
    · rintro d h' v σ' τ' F' H' s' sr' rv ⟨h2, sub, q⟩
      exact kq d h2 v F' H' s' (sr'.sh.less sub) rv q
    · intro σ' h' τ' F' H' s' sr' q
      exact q.elim
theorem good_of {W : Wd} {T : Tb} {Γ : Gam} {P : Program} {w : World} {mg : Str → Option Value} {base : Heap} {k n : Nat} {x qual : Str} {params : Arguments} {body : List Stmt} {scope : Scope} {dvs : List V} {kws : List (Str × V)} {fd : FuncData} {N ps : List Str} {f : Fd}
    (F : FunD T.K x qual params body scope dvs kws (T.fA n) fd) (S : FnScope N ps scope) (og : OkG W T Γ P w mg base k) (hnp : f.np = ps.length) (hns : f.ns = N.length) (hc : chkSs W (ckOf N scope) f.body body = true) (hb : BodyOkD Γ f (Γ.fn n)) (hpw : (W.lm || W.act || W.acts) = false := by rfl) :
    FnOk P w T.K mg base (L2.CX P w) (k + 1) (T.fA n) fd ps (prom T (Γ.fn n)) := by
  rw [Bool.or_assoc] at hpw
  obtain ⟨h1, h2⟩ := Bool.or_eq_false_iff.mp hpw
  exact good_of0 F S og hnp hns hc hb (Nat.le_refl k) h2 fun z => by rw [z] at h1; cases h1
/-- .. one in which lambdas stand -/
theorem good_ofL {W : Wd} {T : Tb} {Γ : Gam} {P : Program} {w : World} {mg : Str → Option Value} {base : Heap} {k n : Nat} {x qual : Str} {params : Arguments} {body : List Stmt} {scope : Scope} {dvs : List V} {kws : List (Str × V)} {fd : FuncData} {N ps : List Str} {f : Fd}
    (F : FunD T.K x qual params body scope dvs kws (T.fA n) fd) (S : FnScope N ps scope) (og : OkG W T Γ P w mg base k) (hnp : f.np = ps.length) (hns : f.ns = N.length) (hc : chkSs W (ckOf N scope) f.body body = true) (hb : BodyOkD Γ f (Γ.fn n)) (hl : LamD T mg base qual fd) (ha : (W.act || W.acts) = false := by rfl) :
    FnOk P w T.K mg base (L2.CX P w) (k + 3) (T.fA n) fd ps (prom T (Γ.fn n)) :=
  good_of0 F S og hnp hns hc hb (Nat.le_add_right k 2) ha fun _ => ⟨Nat.le_refl _, hl⟩
/-- the code object's place is told in what never changes -/
theorem code_in {T : Tb} {F G : Hp} {h : AH} {H : Hp} {c : Addr} {q : Str} (sh : SH T F G h H) (hc : H c = some (LamX.CodeO c q)) : ∃ F1, Same F F1 ∧ SH T F1 G h H ∧ (F1 c = some (LamX.CodeO c q) ∨ G c = some (LamX.CodeO c q)) := by
  cases e : G c with
  | some o =>
    refine ⟨F, Same.refl _, sh, .inr ?_⟩
    have := sh.sG c o e
    rw [hc] at this
    rw [← this]
  | none =>
    have fk : Same F (upd F c (LamX.CodeO c q)) := fun b o z => by
      by_cases hb : b = c
      · subst hb
        have := sh.sF b o z
        rw [hc] at this
        rw [upd_same, ← this]
      · rw [upd_ne hb]; exact z
    refine ⟨upd F c (LamX.CodeO c q), fk, ⟨fun b o z => ?_, sh.sG, fun b => ?_, fun a d z => ?_, sh.tb.go (fun _ _ z _ _ => z) (fun b ps z => upd_tbl (fun ps => LamX.codeO_ne ps) z) fun _ _ z => z⟩, .inl upd_same⟩
    · by_cases hb : b = c
      · subst hb; rw [upd_same] at z; rw [hc, z]
      · rw [upd_ne hb] at z; exact sh.sF b o z
    · by_cases hb : b = c
      · subst hb; exact .inr e
      · rw [upd_ne hb]; exact sh.dis b
    · obtain ⟨e1, e2, e3⟩ := sh.cell a d z
      have ne : a ≠ c := fun z => by
        subst z
        obtain ⟨o, ho, w⟩ := e3.which
        rw [hc] at ho
        cases ho
        rcases w with ⟨_, z⟩ | ⟨_, _, _, z⟩ <;> cases z
      exact ⟨by rw [upd_ne ne]; exact e1, e2, e3.mono fk rfl⟩
theorem givesL_of {W : Wd} {T : Tb} {Γ : Gam} {P : Program} {w : World} {mg : Str → Option Value} {base : Heap} {k : Nat} {x a : Str} {bg : List Stmt} {sg : Scope} {g : Addr} {cdg : Value} {N : List Str} {f : Fd} {sp : HSpec}
    (S : FnScope N [a] sg) (hN : N[0]? = some a) (og : OkG W T Γ P w mg base k) (hns : f.ns = N.length) (hc : chkSs W (ckOf N sg) f.body bg = true) (hb : BodyOkH Γ f sp) (hpw : (W.lm || W.act) = false) : GivesL P w T mg base k sp N x sg g cdg bg a := by
  intro A outer fa c' q s H E tl Q hr act hco pr
  obtain ⟨F, G, h, actd, Qd, Rd, sh, spd, kq, kr, ka⟩ := pr
  obtain ⟨F1, s1, sh1, hc1⟩ := code_in sh hco
  obtain ⟨l, wp⟩ := hb fa actd h Qd Rd spd
  obtain ⟨h1, h2⟩ := Bool.or_eq_false_iff.mp hpw
  let X := cxOf (L2.CX P w) P w T.K mg base N x sg g cdg A outer s H E
  let RR : RRt := ⟨F1, G, fun x _ h => Rd x h⟩
  have tk : Takes X (WR T X RR) := by
    refine Takes.imp (takes_of (X := X) (E := E) rfl rfl rfl rfl) fun cls d τ H' q => ?_
    obtain ⟨F2, G2, σ2, h2, e, dd, v, rfl, rfl, sr, e1, rv, q⟩ := q
    have eG : G2 = G := sr.lG
    subst eG
    exact kr e h2 F2 H' dd v (s1.trans sr.lF) sr.sh e1 rv q
  have acts : ∀ pn xe (R2 : RRt), Takes (X.tr pn xe) (WR T (X.tr pn xe) R2) → Same F1 R2.F0 → R2.G0 = G → ActOk T (Γ.given fa actd) (X.tr pn xe) R2 := by
    intro pn xe R2 tk2 sF eG y p1 p2 hy
    have ey : a = y := Option.some.inj (hN.symm.trans hy)
    subst ey
    refine PE.imp (act (WR T (X.tr pn xe) R2) pn xe p1 p2 tk2) fun τ HZ Q' h3 => ?_
    obtain ⟨F2, G2, σ, h2, Qd2, sr, w2, k2⟩ := h3
    have w3 : (match σ.at 0 with | .val (.ref a) => a = fa ∧ actd h2 Qd2 (fun x h' => R2.R x σ h') | _ => False) := w2
    clear w2
    have eG2 : G2 = R2.G0 := sr.lG
    have code : HZ c' = some (LamX.CodeO c' q) := by
      rcases hc1 with z | z
      · exact sr.sh.sF _ _ (sr.lF _ _ (sF _ _ z))
      · exact sr.sh.sG _ _ (by rw [eG2, eG]; exact z)
    cases e0 : σ.at 0 with
    | val d =>
      rw [e0] at w3
      obtain ⟨v, e1, r⟩ := sr.val e0
      cases r with
      | ref =>
        obtain ⟨rfl, w4⟩ := w3
        obtain ⟨G', sh', back⟩ := sr.call
        refine ⟨e1, code, ka F2 G' h2 HZ Qd2 _ _ _ (s1.trans (sF.trans sr.lF)) sh' w4 (fun d h' v F' H' s sh r q => k2 d h' v F' H' s (back F' h' H' s sh) r q) fun x h' F' H' dd v s sh e rv q => ?_⟩
        exact ⟨F', G2, σ, h', x, dd, v, rfl, rfl, back F' h' H' s sh, e, rv, q⟩
      | _ => exact False.elim w3
    | _ => rw [e0] at w3; exact False.elim w3
  have ok : Ok W T (Γ.given fa actd) X RR k := ⟨rfl, og.fr, hr.units, fun _ => hr, tk, fun _ => rfl, og.fns, og.fnK, og.fnD, og.cons, og.tbl, og.cv, og.mks, og.mets, og.flds, og.iso, og.rss, og.hcl, og.exm, og.xfs, fun z => (by rw [z] at h1; cases h1), fun z => (by rw [z] at h2; cases h2), fun _ => acts⟩
  have fits : Fits (ckOf N sg) X := ⟨rfl, S.nd, rfl, S.kind, fun _ _ => rfl⟩
  refine ⟨_, chkSs_ok f.body hc ok fits ⟨fun _ => passes_of (X := X) rfl, fun _ => ⟨rfl, rfl⟩⟩, ?_⟩
  have h1l : 1 ≤ N.length := by
    cases N with
    | nil => cases hN
    | cons _ _ => exact Nat.succ_le_succ (Nat.zero_le _)
  refine ⟨F1, G, FF.start N.length [.ref fa], h, (fun _ h => Qd .non h), Qd, (fun _ _ => False), sr_start (vs := [.ref fa]) sh1 (.cons .ref .nil) h1l, ?_, ?_, ?_, ?_⟩
  · rw [hns] at wp; exact wp
  · rintro σ' h' τ' F' H' s' sr' q
    exact kq .non h' _ F' H' (s1.trans s') sr'.sh .non q
  · rintro d h' v σ' τ' F' H' s' sr' rv q
    exact kq d h' v F' H' (s1.trans s') sr'.sh rv q
  · intro σ' h' τ' F' H' s' sr' q
    exact q.elim
end FF

namespace FF
open PySem PySem.Spec PyProof.Rows L2

/-! ### a law's defs, one above another -/
/-- the specifications by number -/
def gamOf (tab : List (Nat × Spec)) (sub : List ((Nat × Nat) × Bool) := []) (hf : List (Nat × HSpec) := []) : Gam := { fn := fun n ds h Q R => match tab.lookup n with | some sp => sp ds h Q R | none => False, clo := fun _ _ _ _ _ _ => False, sub := fun a b => sub.lookup (a, b), hf := fun n act h Q R => match hf.lookup n with | some sp => sp act h Q R | none => False }
theorem gam_hf {tab : List (Nat × Spec)} {sub : List ((Nat × Nat) × Bool)} {hf : List (Nat × HSpec)} {n : Nat} {sp : HSpec} (h : hf.lookup n = some sp) : (gamOf tab sub hf).hf n = sp := by
  unfold gamOf
  funext act h0 Q R
  simp only [h]
theorem gam_at {tab : List (Nat × Spec)} {sub : List ((Nat × Nat) × Bool)} {hf : List (Nat × HSpec)} {n : Nat} {sp : Spec} (h : tab.lookup n = some sp) : (gamOf tab sub hf).fn n = sp := by
  unfold gamOf
  funext ds h0 Q R
  simp only [h]
theorem gam_in {tab : List (Nat × Spec)} {sub : List ((Nat × Nat) × Bool)} {hf : List (Nat × HSpec)} {n : Nat} (h : ∃ ds h Q R, (gamOf tab sub hf).fn n ds h Q R) : n ∈ tab.map (·.1) := by
  obtain ⟨ds, h0, Q, R, q⟩ := h
  unfold gamOf at q
  cases e : tab.lookup n with
  | none => simp only [e] at q
  | some sp =>
    clear q
    induction tab with
    | nil => cases e
    | cons p r ih =>
      obtain ⟨m, s⟩ := p
      by_cases c : n = m
      · subst c; simp
      · have : (n == m) = false := by simpa using c
        rw [List.lookup_cons, this] at e
        exact List.mem_cons_of_mem _ (ih e)
theorem mem_lk {β : Type} {n : Nat} {b : β} : ∀ {l : List (Nat × β)}, l.lookup n = some b → (n, b) ∈ l
  | [], e => by cases e
  | (m, c) :: r, e => by
    by_cases h : n = m
    · subst h
      rw [List.lookup_cons, beq_self_eq_true] at e
      cases e
      exact List.mem_cons_self
    · have : (n == m) = false := by simpa using h
      rw [List.lookup_cons, this] at e
      exact List.mem_cons_of_mem _ (mem_lk e)
theorem mem_lk2 {β : Type} {n : Nat × Nat} {b : β} : ∀ {l : List ((Nat × Nat) × β)}, l.lookup n = some b → (n, b) ∈ l
  | [], e => by cases e
  | (m, c) :: r, e => by
    by_cases h : n = m
    · subst h
      rw [List.lookup_cons, beq_self_eq_true] at e
      cases e
      exact List.mem_cons_self
    · have : (n == m) = false := by simpa using h
      rw [List.lookup_cons, this] at e
      exact List.mem_cons_of_mem _ (mem_lk2 e)
/-- the machine's names, by the defs' places -/
def tbOf (K : PySem.W.Frag) (ats : List (Nat × Str × Option Str)) (at0 : Str × Option Str) (cls : Nat → Str) (tbl : List Str) (nd : tbl.Nodup) (xf : Nat → Str) (lam : List (Addr × Str) := []) : Tb :=
  ⟨K, fun c => He.ga K (cls c), fun n => He.fAd K ((ats.lookup n).getD at0), tbl, nd, xf, lam⟩
section
variable {P : Program} {w : World} {T : Tb} {Γ : Gam} {mg : Str → Option Value} {base : Heap}
def Lv (P : Program) (w : World) (T : Tb) (Γ : Gam) (mg : Str → Option Value) (base : Heap) (k : Nat) (L : List (Nat × Str)) : Prop := ∀ p ∈ L, Good P w T mg base k p.1 (Γ.fn p.1) ∧ mg p.2 = some (.ref (T.fA p.1))
theorem Lv.nil {k : Nat} : Lv P w T Γ mg base k [] := fun _ h => by cases h
theorem Lv.cons {k n : Nat} {x : Str} {L : List (Nat × Str)} (l : Lv P w T Γ mg base k L) (g : Good P w T mg base (k + 1) n (Γ.fn n)) (e : mg x = some (.ref (T.fA n))) : Lv P w T Γ mg base (k + 1) ((n, x) :: L) := fun p h => by
  rcases List.mem_cons.mp h with q | q
  · subst q; exact ⟨g, e⟩
  · exact ⟨(l p q).1.mono (Nat.le_succ k), (l p q).2⟩
theorem Lv.up {k : Nat} {L : List (Nat × Str)} (l : Lv P w T Γ mg base k L) : Lv P w T Γ mg base (k + 1) L := fun p h => ⟨(l p h).1.mono (Nat.le_succ k), (l p h).2⟩
theorem GoodK.mono {j k n m : Nat} {ks : List Str} {perm : List Nat} {sp : Spec} (g : GoodK P w T mg base j n m ks perm sp) (h : j ≤ k) : GoodK P w T mg base k n m ks perm sp := by
  obtain ⟨⟨fd, ps, F, b⟩, kp⟩ := g
  exact ⟨⟨fd, ps, F.mono h, b⟩, kp⟩
/-- a def of no defaults -/
theorem good_mk {W : Wd} {k n : Nat} {x qual : Str} {params : Arguments} {body : List Stmt} {scope : Scope} {kws : List (Str × V)} {fd : FuncData} {N ps : List Str} {f : Fd}
    (F : FunD T.K x qual params body scope [] kws (T.fA n) fd) (S : FnScope N ps scope) (og : OkG W T Γ P w mg base k) (hnp : f.np = ps.length) (hns : f.ns = N.length) (hc : chkSs W (ckOf N scope) f.body body = true) (hb : BodyOkD Γ f (Γ.fn n))
    (bd : ∀ (kV doc pm : Value) (an : Option Addr) (cdv ct : Value) (us : List Value), us.length = ps.length → bindArgs (PySem.W.fnOf x qual params body scope .none kV doc pm an cdv ct) ⟨us, []⟩ = pure (ps.zip us)) (hpw : (W.lm || W.act || W.acts) = false := by rfl) : Good P w T mg base (k + 1) n (Γ.fn n) :=
  ⟨⟨fd, ps, good_of F S og hnp hns hc hb hpw, F.bindsN bd⟩, F.kp⟩
theorem goodK_mk {W : Wd} {k n m : Nat} {ks : List Str} {perm : List Nat} {x qual : Str} {params : Arguments} {body : List Stmt} {scope : Scope} {kws : List (Str × V)} {fd : FuncData} {N ps : List Str} {f : Fd}
    (F : FunD T.K x qual params body scope [] kws (T.fA n) fd) (S : FnScope N ps scope) (og : OkG W T Γ P w mg base k) (hnp : f.np = ps.length) (hns : f.ns = N.length) (hc : chkSs W (ckOf N scope) f.body body = true) (hb : BodyOkD Γ f (Γ.fn n))
    (bd : ∀ (kV doc pm : Value) (an : Option Addr) (cdv ct : Value) (us ws : List Value), us.length = m → ws.length = ks.length → bindArgs (PySem.W.fnOf x qual params body scope .none kV doc pm an cdv ct) ⟨us, ks.zip ws⟩ = pure (ps.zip (perm.filterMap ((us ++ ws)[·]?)))) (hpw : (W.lm || W.act || W.acts) = false := by rfl) : GoodK P w T mg base (k + 1) n m ks perm (Γ.fn n) := by
  refine ⟨⟨fd, ps, good_of F S og hnp hns hc hb hpw, fun s us ws _ h1 h2 => ?_⟩, F.kp⟩
  obtain ⟨oc, od, dV, kV, doc, pm, an, cdv, ct, osl, rfl, lk, hcd, hD, hK⟩ := F.ex
  rcases hD with ⟨_, rfl⟩ | ⟨e, _⟩
  · exact .of_eq (bd kV doc pm an cdv ct us ws h1 h2)
  · exact absurd rfl e
theorem GoodD.mono {j k n : Nat} {dv : List D} {sp : Spec} (g : GoodD P w T mg base j n dv sp) (h : j ≤ k) : GoodD P w T mg base k n dv sp := by
  obtain ⟨⟨fd, ps, dvs, us, F, b, r, d⟩, kp⟩ := g
  exact ⟨⟨fd, ps, dvs, us, F.mono h, b, r, d⟩, kp⟩
/-- a def whose keyword-only parameters have defaults, called by its others alone -/
theorem goodD_mk {W : Wd} {k n j : Nat} {dv : List D} {x qual : Str} {params : Arguments} {body : List Stmt} {scope : Scope} {kws : List (Str × V)} {fd : FuncData} {N ps : List Str} {f : Fd}
    (F : FunD T.K x qual params body scope [] kws (T.fA n) fd) (S : FnScope N ps scope) (og : OkG W T Γ P w mg base k) (hnp : f.np = ps.length) (hns : f.ns = N.length) (hc : chkSs W (ckOf N scope) f.body body = true) (hb : BodyOkD Γ f (Γ.fn n))
    (hk : kws ≠ []) (hn : j + kws.length = ps.length) (hd : ∀ F, Reps T F dv (kws.map (·.2)))
    (bd : ∀ (D : Addr) (doc pm : Value) (an : Option Addr) (cdv ct : Value) (us ks : List Value), us.length = j → ks.length = kws.length →
      KwChain D ((kws.map (·.1)).zip ks) (bindArgs (PySem.W.fnOf x qual params body scope .none (.ref D) doc pm an cdv ct) ⟨us, []⟩) (ps.zip (us ++ ks))) (hpw : (W.lm || W.act || W.acts) = false := by rfl) : GoodD P w T mg base (k + 1) n dv (Γ.fn n) := by
  obtain ⟨ds, r, b⟩ := F.binds0 j hk hn bd
  exact ⟨⟨fd, ps, kws.map (·.2), ds, good_of F S og hnp hns hc hb hpw, b, r, hd⟩, F.kp⟩
/-- the statements of a class -/
def clsBody (s : Stmt) : List Stmt := match s with
  | .ClassDef _ _ _ b _ _ _ _ _ _ _ => b
  | _ => []
/-- a method -/
theorem goodM_mk {W : Wd} {k n c : Nat} {m : Str} {x qual : Str} {params : Arguments} {body : List Stmt} {scope : Scope} {kws : List (Str × V)} {fd : FuncData} {N ps : List Str} {f : Fd}
    (F : FunD T.K x qual params body scope [] kws (T.fA n) fd) (S : FnScope N ps scope) (og : OkG W T Γ P w mg base k) (hnp : f.np = ps.length) (hns : f.ns = N.length) (hc : chkSs W (ckOf N scope) f.body body = true) (hb : BodyOkD Γ f (Γ.fn n)) (me : Meth T.K (T.cA c) m (T.fA n))
    (bd : ∀ (kV doc pm : Value) (an : Option Addr) (cdv ct : Value) (us : List Value), us.length = ps.length → bindArgs (PySem.W.fnOf x qual params body scope .none kV doc pm an cdv ct) ⟨us, []⟩ = pure (ps.zip us)) (hpw : (W.lm || W.act || W.acts) = false := by rfl) : GoodM P w T mg base (k + 1) n c m (Γ.fn n) :=
  ⟨⟨fd, ps, good_of F S og hnp hns hc hb hpw, F.bindsN bd⟩, me⟩
/-- a class that is made by its __init__ -/
theorem goodI_mk {W : Wd} {k n c : Nat} {x qual : Str} {params : Arguments} {body : List Stmt} {scope : Scope} {kws : List (Str × V)} {fd : FuncData} {N ps : List Str} {f : Fd}
    (F : FunD T.K x qual params body scope [] kws (T.fA n) fd) (S : FnScope N ps scope) (og : OkG W T Γ P w mg base k) (hnp : f.np = ps.length) (hns : f.ns = N.length) (hc : chkSs W (ckOf N scope) f.body body = true) (hb : BodyOkD Γ f (Γ.fn n)) (mk : Mk T.K (T.cA c) (T.fA n)) (cl : Cls T.K (T.cA c))
    (bd : ∀ (kV doc pm : Value) (an : Option Addr) (cdv ct : Value) (us : List Value), us.length = ps.length → bindArgs (PySem.W.fnOf x qual params body scope .none kV doc pm an cdv ct) ⟨us, []⟩ = pure (ps.zip us)) (hpw : (W.lm || W.act || W.acts) = false := by rfl) : GoodI P w T mg base (k + 1) n c (Γ.fn n) :=
  ⟨⟨fd, ps, good_of F S og hnp hns hc hb hpw, F.bindsN bd⟩, mk, cl⟩
theorem GoodM.mono {j k n c : Nat} {m : Str} {sp : Spec} (g : GoodM P w T mg base j n c m sp) (h : j ≤ k) : GoodM P w T mg base k n c m sp := by
  obtain ⟨⟨fd, ps, F, b⟩, me⟩ := g
  exact ⟨⟨fd, ps, F.mono h, b⟩, me⟩
theorem GoodI.mono {j k n c : Nat} {sp : Spec} (g : GoodI P w T mg base j n c sp) (h : j ≤ k) : GoodI P w T mg base k n c sp := by
  obtain ⟨⟨fd, ps, F, b⟩, mk, cl⟩ := g
  exact ⟨⟨fd, ps, F.mono h, b⟩, mk, cl⟩
/-- the __init__ of an own exception: the base's, then one field -/
def isXInit (b f sf ar : Str) : List Stmt → Bool
  | [.Expr (.Call (.Attribute (.Name b' _) i' ip) [.Name s' _, .Constant (.str _) _ _] [] cp) _, .Assign [.Attribute (.Name s2 _) f' _] (.Name a' _) _] => decide (b' = b) && decide (i' = ("__init__" : Str)) && decide (s' = sf) && decide (s2 = sf) && decide (f' = f) && decide (a' = ar) && (ip.endLine == cp.line)
  | _ => false
theorem goodX_mk {c : Nat} {b f sf ar : Str} {B fI : Addr} {x qual : Str} {params : Arguments} {body : List Stmt} {scope : Scope} {fd : FuncData}
    (F : FunD T.K x qual params body scope [] [] fI fd) (S : FnScope [sf, ar] [sf, ar] scope) (hbody : isXInit b f sf ar body = true) (hs : scope.names.lookup sf = some .local) (ha : scope.names.lookup ar = some .local) (hg : scope.names.lookup b = some .globalImplicit)
    (hd : ((sf == ("__debug__" : Str)) || (sf == ("__classdict__" : Str)) || (ar == ("__debug__" : Str)) || (ar == ("__classdict__" : Str)) || (b == ("__debug__" : Str))) = false) (ox : OexA T.K (T.cA c)) (na : PySem.W.findIn T.K (.ref (T.cA c)) f = some none) (xfe : T.xf c = f)
    (bE : BaseE T.K B) (gB : mg b = some (.ref B)) (iC : PySem.W.findIn T.K (.ref (T.cA c)) "__init__" = some (some (.ref fI))) (tI : PySem.W.typeIn T.K (.ref fI) = some (.type "function"))
    (bd : ∀ (kV doc pm : Value) (an : Option Addr) (cdv ct : Value) (us : List Value), us.length = [sf, ar].length → bindArgs (PySem.W.fnOf x qual params body scope .none kV doc pm an cdv ct) ⟨us, []⟩ = pure ([sf, ar].zip us)) : GoodX P w T mg base 1 c := by
  subst xfe
  refine ⟨ox, fI, fd, [sf, ar], iC, tI, F.ok S (fun vs H Q E h => ?_) (fun cdv A outer s H vs Q E hr h => ?_), F.bindsN bd⟩
  · obtain ⟨e, v, rfl, _⟩ := h
    rfl
  unfold isXInit at hbody
  split at hbody
  · rename_i b' p1 i' ip s' p2 m0 j0 p3 cp p4 s2 p5 f' p6 a' p7 p8
    obtain ⟨hbody, h7⟩ := bk hbody
    obtain ⟨hbody, h6⟩ := bk hbody
    obtain ⟨hbody, h5⟩ := bk hbody
    obtain ⟨hbody, h4⟩ := bk hbody
    obtain ⟨hbody, h3⟩ := bk hbody
    obtain ⟨h1, h2⟩ := bk hbody
    have e1 := of_decide_eq_true h1
    have e2 := of_decide_eq_true h2
    have e3 := of_decide_eq_true h3
    have e4 := of_decide_eq_true h4
    have e5 := of_decide_eq_true h5
    have e6 := of_decide_eq_true h6
    subst e1 e2 e3 e5 e6
    simp only [Bool.or_eq_false_iff] at hd
    obtain ⟨⟨⟨⟨d1, d2⟩, d3⟩, d4⟩, d5⟩ := hd
    let X := cxOf (L2.CX P w) P w T.K mg base [s', a'] qual scope fI cdv A outer s H E
    have vs0 : ∀ {p : Pos}, PE X (.Name s' p) (tVar 0) := fun {p} => pe_var (X := X) (i := 0) rfl (.inl hs) d1 d2
    have vs1 : ∀ {p : Pos}, PE X (.Name a' p) (tVar 1) := fun {p} => pe_var (X := X) (i := 1) rfl (.inl ha) d3 d4
    have hg' : Gl X b' := hg
    obtain ⟨pl, hm⟩ := meth_ok (o := .Name b' p1) (e := .Name b' p1) (m := ("__init__" : Str)) (apos := ip) (pos := cp) (es := [.Name s' p2, .Constant (.str m0) j0 p3]) (env := X.env) rfl h7 rfl (show 2 < 30 by decide)
    have st1 := ps_expr (pos := p4) (pe_aeinit (X := X) (pl := pl) hg' gB bE (pa_cons (vs0 (p := p2)) (pa_cons (pe_str (X := X) (x := m0) (j := j0) (pos := p3)) pa_nil rfl) rfl) d5 hm rfl rfl) rfl
    subst e4
    have st2 := ps_ast (X := X) (f := T.xf c) (p := p6) (pos := p8) (vs0 (p := p5)) (vs1 (p := p7)) rfl
    refine ⟨_, pss_cons st1 (pss_one st2), ?_⟩
    obtain ⟨e, v, rfl, he, q⟩ := h
    exact ⟨.ref e, rfl, e, T.cA c, [.str m0], rfl, (show 1 ≤ 1000 by decide), ox, he, v, rfl, .ref e, rfl, e, T.cA c, rfl, ox, na, he, fun dx n ne => q dx n ne⟩
  · cases hbody
theorem FnScope.by {N ps : List Str} {sc : Scope} (h : ((match sc.kind with | .function => true | _ => false) && !sc.isCoroutine && !sc.isGenerator && decide N.Nodup && decide (N.take ps.length = ps) && (ps.all fun x => (match sc.names.lookup x with | some .local => true | some .cell => true | _ => false)) && (sc.names.all fun y => match y.2 with | .free => false | _ => true)) = true) : FnScope N ps sc := by
  obtain ⟨h, h7⟩ := bk h
  obtain ⟨h, h6⟩ := bk h
  obtain ⟨h, h5⟩ := bk h
  obtain ⟨h, h4⟩ := bk h
  obtain ⟨h, h3⟩ := bk h
  obtain ⟨h1, h2⟩ := bk h
  refine ⟨?_, nb h2, nb h3, of_decide_eq_true h4, of_decide_eq_true h5, fun x hx => ?_, fun y hy e => ?_⟩
  · split at h1
    · assumption
    · cases h1
  · have := List.all_eq_true.mp h6 x hx
    split at this
    · exact .inl (by assumption)
    · exact .inr (by assumption)
    · cases this
  · have := List.all_eq_true.mp h7 y hy
    rw [e] at this
    cases this
end
/-! ### the head's facts, wider -/
abbrev FrB : Type := PySem.W.Frag → Bool
def asF (g : Addr → Option Obj) (n : Nat) : List Addr := cStatics :: He.asD g n
abbrev AlF : Type := He.AlD × Bool
def obsF (n : Nat) (fa : List He.Fa) (fn : List He.DefD) (ex : List FrB) (g : Addr → Option Obj) : AlF := (He.obsD fa fn (He.frG g (asF g n)), ex.all fun f => f (He.frG g (asF g n)))
structure SaysF (fa : List He.Fa) (fn : List He.DefD) (ex : List FrB) (K : PySem.W.Frag) : Prop where
  d : He.SaysD fa fn K
  x : (ex.all fun f => f K) = true
def hookF (n : Nat) (fa : List He.Fa) (fn : List He.DefD) (ex : List FrB) : PySem.W.Hook where
  α := AlF
  obs := fun s => obsF n fa fn ex s.heap.get?
  val := fun _ => (He.valD fn, true)
  says := fun _ h => ∃ K : PySem.W.Frag, K.In h ∧ SaysF fa fn ex K
  of := fun _ _ e => ⟨_, He.frG_in, ⟨congrArg (fun z : AlF => z.1) e, congrArg (fun z : AlF => z.2) e⟩⟩
  keeps := fun _ _ _ ⟨K, hK, c⟩ k => ⟨K, PySem.W.Frag.In.keeps hK k, c⟩
theorem obsF_eq {n : Nat} {fa : List He.Fa} {fn : List He.DefD} {ex : List FrB} {g : Addr → Option Obj} {s : Shared} (h : ∀ a, g a = s.heap.get? a) : obsF n fa fn ex g = (hookF n fa fn ex).obs s := by
  have e : g = s.heap.get? := funext h
  rw [e] <;> rfl
theorem SaysF.ex {fa : List He.Fa} {fn : List He.DefD} {ex : List FrB} {K : PySem.W.Frag} (c : SaysF fa fn ex K) (i : Nat) {f : FrB} (h : ex[i]? = some f := by rfl) : f K = true := List.all_eq_true.mp c.x f (List.mem_of_getElem? h)
/-- facts of an exception's class -/
def exF (b x f : Str) : FrB := fun K => oexB K (He.ga K x) && (decide (PySem.W.findIn K (.ref (He.ga K x)) f = some none) && (decide (PySem.W.findIn K (.ref (He.ga K x)) "__init__" = some (some (.ref (He.ma K (He.ga K x) "__init__")))) &&
  (decide (PySem.W.typeIn K (.ref (He.ma K (He.ga K x) "__init__")) = some (.type "function")) && xfB K (He.ga K x))))
def baF (b : Str) : FrB := fun K => decide (PySem.W.specialIn K (.ref (He.ga K b)) "__getattribute__" = some (some (.builtin "type.__getattribute__"))) && (PySem.W.readsIn K (He.ga K b) (.type "type") && (match PySem.W.findCls K (.ref (He.ga K b)) (.type "type") "__init__" with
  | some (.val (.builtin i)) => decide (i = "ArithmeticError.__init__")
  | _ => false))
theorem baF_ok {b : Str} {K : PySem.W.Frag} (h : baF b K = true) : BaseE K (He.ga K b) := by
  obtain ⟨h1, h⟩ := bk h
  obtain ⟨h2, h3⟩ := bk h
  refine ⟨of_decide_eq_true h1, h2, ?_⟩
  split at h3
  · rename_i i e
    rw [e, of_decide_eq_true h3]
  · cases h3
def subF (x y : Str) (v : Bool) : FrB := fun K => decide (PySem.W.exmOne K (.ref (He.ga K x)) (.ref (He.ga K y)) = some v)
def isoF (x : Str) : FrB := fun K => isoB K (He.ga K x)
/-! ### the law's argument -/
theorem reps_ints {T : Tb} {F : Hp} {l : List Int} : Reps T F (l.map .int) (l.map V.int) := by
  induction l with
  | nil => exact .nil
  | cons i r ih => exact .cons .int ih
/-- all but the tables -/
def noTbl (H : Hp) : Hp := fun b => match H b with
  | some (.tbl _) => none
  | o => o
theorem noTbl_at {H : Hp} {b : Addr} {o : HO} (h : H b = some o) (n : ∀ ps, o ≠ .tbl ps) : noTbl H b = some o := by
  unfold noTbl
  rw [h]
  cases o <;> first | rfl | exact absurd rfl (n _)
theorem noTbl_of {H : Hp} {b : Addr} {o : HO} (h : noTbl H b = some o) : H b = some o ∧ ∀ ps, o ≠ .tbl ps := by
  unfold noTbl at h
  cases e : H b with
  | none => rw [e] at h; cases h
  | some u =>
    rw [e] at h
    cases u with
    | tbl ps => cases h
    | _ => cases h; exact ⟨rfl, fun ps z => by cases z⟩
theorem law_prom {T : Tb} {sp : Spec} {H : Hp} {a : Addr} {ns : List Int} (hs : SqL T.K H a (ns.map V.int)) (h : ∀ Q R, (∀ h', Q (.bl true) h') → sp [.lst (ns.map .int)] (fun _ => none) Q R) (ht : LamX.Tabs T.lam H) : prom T sp [.ref a] H (fun v _ => v = .bl true) (fun _ _ _ => False) := by
  have hs' : SqL T.K (noTbl H) a (ns.map V.int) := by
    rcases hs with (q | ⟨o, q⟩) | q
    · exact .inl (.inl (noTbl_at q fun _ z => by cases z))
    · exact .inl (.inr ⟨o, noTbl_at q fun _ z => by cases z⟩)
    · exact .inr q
  refine ⟨noTbl H, fun _ => none, fun _ => none, [.lst (ns.map .int)], fun d _ => d = .bl true, fun _ _ => False, .cons (.lst hs' reps_ints) .nil, ⟨fun b o e => (noTbl_of e).1, fun b o e => (by cases e), fun b => .inr rfl, fun a c e => (by cases e), ht, fun b ps e => (noTbl_of e).2 ps rfl, fun b ps e => (by cases e)⟩, h _ _ fun _ => rfl, fun d h' v F' H' _ _ r q => ?_, fun x h' F' H' dd v _ _ _ _ q => q⟩
  subst q
  cases r
  rfl
/-- the law's end: what is left of it when its def keeps its specification at every list of integers -/
theorem law_end {l : PySem.W.OpenLaw} {k : Nat} {q : Program} {loose : List Str} {XP : (Str → Option Value) → Heap → Prop} {YP : World → Heap → Prop} {d : DefRec} {x : Str} (hn : l.most = some 63) (hdf : d.params.defaults = []) (hr : Room k callerA)
    (F : ∀ (w : World) (mg : Str → Option Value) (fa : Addr) (h : Heap), YP w h → h.Ns mainGlobals mg → mg d.name = some (.ref fa) → ∃ (T : Tb) (fd : FuncData) (sp : Spec), T.K.In h ∧ (∀ (s : Shared) (u : Value), BindsTo s fd ⟨[u], []⟩ [(x, u)]) ∧
      (∀ (ns : List Int) Q R, ns.length ≤ 63 → (∀ h', Q (.bl true) h') → sp [.lst (ns.map .int)] (fun _ => none) Q R) ∧ T.lam = [] ∧ ∀ base : Heap, T.K.In base → base.Ns mainGlobals mg → FnOk l.prog w T.K mg base (L2.CX l.prog w) k fa fd [x] (prom T sp)) :
    PySem.W.WalkO q loose XP YP l.row.toRowW d [] (fun f vs => PySem.call f vs) := by
  refine Att.attach_call hn hdf ?_
  intro w s0 s1 mg mb fa o pm cd doc a vs ns G Y ho hd hcd hmg hobj hints hlen hg
  obtain ⟨T, fd, sp, hK, hb, hsp, hL, hF⟩ := F w mg fa _ Y G.T.g hmg
  have sz : ns.length ≤ sizeLine := Nat.le_trans hlen (by decide)
  refine law_call hK G.T.g G.T.b G.T.builtins G.T.nolimit hg hobj hints sz hr hF hb (fun H _ hS => law_prom hS (fun Q R => hsp ns Q R hlen) (by rw [hL]; exact fun p hp => by cases hp)) ?_
  intro H e s' z
  obtain ⟨_, _, _, _, _, _, _, _, _, _, _, _, z⟩ := z
  exact z
/-! ### laws in which lambdas stand -/
section
variable {P : Program} {w : World} {T : Tb} {Γ : Gam} {mg : Str → Option Value} {base : Heap}
theorem goodL_mk {W : Wd} {k n : Nat} {x qual : Str} {params : Arguments} {body : List Stmt} {scope : Scope} {kws : List (Str × V)} {fd : FuncData} {N ps : List Str} {f : Fd}
    (F : FunD T.K x qual params body scope [] kws (T.fA n) fd) (S : FnScope N ps scope) (og : OkG W T Γ P w mg base k) (hnp : f.np = ps.length) (hns : f.ns = N.length) (hc : chkSs W (ckOf N scope) f.body body = true) (hb : BodyOkD Γ f (Γ.fn n)) (hl : LamD T mg base qual fd)
    (bd : ∀ (kV doc pm : Value) (an : Option Addr) (cdv ct : Value) (us : List Value), us.length = ps.length → bindArgs (PySem.W.fnOf x qual params body scope .none kV doc pm an cdv ct) ⟨us, []⟩ = pure (ps.zip us)) (ha : (W.act || W.acts) = false := by rfl) : Good P w T mg base (k + 3) n (Γ.fn n) :=
  ⟨⟨fd, ps, good_ofL F S og hnp hns hc hb hl ha, F.bindsN bd⟩, F.kp⟩
theorem goodH_mk {W : Wd} {k n : Nat} {x a : Str} {params : Arguments} {body : List Stmt} {scope : Scope} {fd : FuncData} {N : List Str} {f : Fd}
    (F : FunD T.K x x params body scope [] [] (T.fA n) fd) (S : FnScope N [a] scope) (og : OkG W T Γ P w mg base k) (hns : f.ns = N.length) (hc : chkSs W (ckOf N scope) f.body body = true) (hb : BodyOkH Γ f (Γ.hf n)) (hN : N[0]? = some a) (hv : (ckOf N scope).see 0 a = true)
    (bd : ∀ (kV doc pm : Value) (an : Option Addr) (cdv ct : Value) (us : List Value), us.length = [a].length → bindArgs (PySem.W.fnOf x x params body scope .none kV doc pm an cdv ct) ⟨us, []⟩ = pure ([a].zip us)) (hpw : (W.lm || W.act) = false := by rfl) : GoodH P w T mg base k n (Γ.hf n) := by
  have b := F.bindsN bd
  unfold CK.see at hv
  obtain ⟨hv, h4⟩ := bk hv
  obtain ⟨hv, h3⟩ := bk hv
  obtain ⟨h1, h2⟩ := bk hv
  refine ⟨x, a, params, body, scope, fd, N, F, S, hN, ?_, nb h3, nb h4, b, fun cdv => givesL_of S hN og hns hc hb hpw⟩
  unfold Vis
  have h2 : (match scope.names.lookup a with | some .local => true | some .cell => true | some .free => true | _ => false) = true := h2
  cases e : scope.names.lookup a with
  | none => rw [e] at h2; cases h2
  | some k => rw [e] at h2; cases k <;> first | exact .inl rfl | exact .inr (.inl rfl) | exact .inr (.inr rfl) | cases h2
theorem lamD_of {x qual : Str} {params : Arguments} {body : List Stmt} {scope : Scope} {dvs : List V} {kws : List (Str × V)} {fd : FuncData} {p : He.Defn} (F : FunD T.K x qual params body scope dvs kws (He.fAd T.K p) fd) (TB : LamX.TabB base mg (He.cT T.K p).1 (He.cT T.K p).2)
    (hm : ((He.cT T.K p).2, lamq qual) ∈ T.lam) (hu : ∀ q ∈ T.lam, q.1 = (He.cT T.K p).2 → q.2 = lamq qual) : LamD T mg base qual fd := by
  obtain ⟨oc, od, dV, kV, doc, pm, an, cdv, ct, osl, rfl, lk, hcd, _, _⟩ := F.ex
  have : ∃ c, cdv = .ref c := by
    cases cdv with
    | ref c => exact ⟨c, rfl⟩
    | _ => unfold PySem.W.codeIn at hcd; cases hcd
  obtain ⟨c, rfl⟩ := this
  have e := He.codeOf_eq lk rfl
  refine ⟨(He.cT T.K p).1, (He.cT T.K p).2, ?_, TB, hm, hu⟩
  show Value.ref c = .ref (He.codeOf T.K p)
  rw [e]
end
/-- no two defs have one table -/
def disB (tf : List He.Defn) : FrB := fun K => tf.all fun p => tf.all fun q => decide ((He.cT K p).2 ≠ (He.cT K q).2) || decide (p = q)
def lamL (K : PySem.W.Frag) (tf : List (He.Defn × Str)) : List (Addr × Str) := tf.map fun p => ((He.cT K p.1).2, lamq p.2)
theorem lamL_one {K : PySem.W.Frag} {tf : List (He.Defn × Str)} {p : He.Defn × Str} (hp : p ∈ tf) (hd : disB (tf.map (·.1)) K = true) (inj : ∀ q ∈ tf, q.1 = p.1 → q.2 = p.2) : ∀ q ∈ lamL K tf, q.1 = (He.cT K p.1).2 → q.2 = lamq p.2 := by
  intro q hq e
  obtain ⟨r, hr, rfl⟩ := List.mem_map.mp hq
  have h1 := List.all_eq_true.mp (List.all_eq_true.mp hd r.1 (List.mem_map.mpr ⟨r, hr, rfl⟩)) p.1 (List.mem_map.mpr ⟨p, hp, rfl⟩)
  rcases Bool.or_eq_true_iff.mp h1 with z | z
  · exact absurd e (of_decide_eq_true z)
  · show lamq r.2 = lamq p.2
    rw [inj r hr (of_decide_eq_true z)]
def obsLm (n : Nat) (fa : List He.Fa) (fn : List He.DefD) (ex : List FrB) (tf : List He.Defn) (g : Addr → Option Obj) : AlF := (He.obsD fa fn (He.frT g (asF g n)), (ex.all fun f => f (He.frT g (asF g n))) && He.tabsB g tf (He.frT g (asF g n)))
structure SaysL (fa : List He.Fa) (fn : List He.DefD) (ex : List FrB) (tf : List He.Defn) (h : Heap) (K : PySem.W.Frag) : Prop where
  f : SaysF fa fn ex K
  hd : ∀ p ∈ tf, PySem.W.codeHdIn K (He.cT K p).1 (He.cT K p).2 = true
  out : ∀ p ∈ tf, K.lookup (He.cT K p).2 = none
  empty : ∀ p ∈ tf, h.get? (He.cT K p).2 = some { cls := .none, data := .fields #[] }
theorem saysL_of {n : Nat} {fa : List He.Fa} {fn : List He.DefD} {ex : List FrB} {tf : List He.Defn} {h : Heap} (e : obsLm n fa fn ex tf h.get? = (He.valD fn, true)) : SaysL fa fn ex tf h (He.frT h.get? (asF h.get? n)) := by
  have e1 : He.obsD fa fn (He.frT h.get? (asF h.get? n)) = He.valD fn := congrArg (fun z : AlF => z.1) e
  have e2 : ((ex.all fun f => f (He.frT h.get? (asF h.get? n))) && He.tabsB h.get? tf (He.frT h.get? (asF h.get? n))) = true := congrArg (fun z : AlF => z.2) e
  generalize hK : He.frT h.get? (asF h.get? n) = K at e1 e2
  obtain ⟨h1, h2⟩ := bk e2
  have at_ : ∀ p ∈ tf, PySem.W.codeHdIn K (He.cT K p).1 (He.cT K p).2 = true ∧ ∃ o, h.get? (He.cT K p).2 = some o ∧ He.emptyTab o = true := by
    intro p hp
    obtain ⟨h3, h4⟩ := bk (List.all_eq_true.mp h2 p hp)
    refine ⟨h3, ?_⟩
    cases q : h.get? (He.cT K p).2 with
    | none => rw [q] at h4; cases h4
    | some o => rw [q] at h4; exact ⟨o, rfl, h4⟩
  refine ⟨⟨e1, h1⟩, fun p hp => (at_ p hp).1, fun p hp => ?_, fun p hp => ?_⟩
  · obtain ⟨_, o, q, z⟩ := at_ p hp
    rw [← hK] at q ⊢
    exact He.frT_none q z
  · obtain ⟨_, o, q, z⟩ := at_ p hp
    rw [q, He.emptyTab_eq z]
def hookLm (n : Nat) (fa : List He.Fa) (fn : List He.DefD) (ex : List FrB) (tf : List He.Defn) : PySem.W.Hook where
  α := AlF
  obs := fun s => obsLm n fa fn ex tf s.heap.get?
  val := fun _ => (He.valD fn, true)
  says := fun _ h => ∃ K : PySem.W.Frag, K.In h ∧ SaysL fa fn ex tf h K
  of := fun _ _ e => ⟨_, He.frT_in, saysL_of e⟩
  keeps := fun _ _ _ ⟨K, hK, c⟩ k => ⟨K, PySem.W.Frag.In.keeps hK k, c.f, c.hd, c.out, fun p hp => k _ _ (c.empty p hp)⟩
theorem obsLm_eq {n : Nat} {fa : List He.Fa} {fn : List He.DefD} {ex : List FrB} {tf : List He.Defn} {g : Addr → Option Obj} {s : Shared} (h : ∀ a, g a = s.heap.get? a) : obsLm n fa fn ex tf g = (hookLm n fa fn ex tf).obs s := by
  have e : g = s.heap.get? := funext h
  rw [e] <;> rfl
/-- the end of a law in which lambdas stand -/
theorem law_endL {l : PySem.W.OpenLaw} {k : Nat} {q : Program} {loose : List Str} {XP : (Str → Option Value) → Heap → Prop} {YP : World → Heap → Prop} {d : DefRec} {x : Str} (hn : l.most = some 63) (hdf : d.params.defaults = []) (hr : Room k callerA)
    (F : ∀ (w : World) (mg : Str → Option Value) (fa : Addr) (h : Heap), YP w h → h.Ns mainGlobals mg → mg d.name = some (.ref fa) → ∃ (T : Tb) (fd : FuncData) (sp : Spec) (tf : List (He.Defn × Str)), T.K.In h ∧ T.lam = lamL T.K tf ∧ (∀ p ∈ tf.map (·.1), h.get? (He.cT T.K p).2 = some { cls := .none, data := .fields #[] }) ∧
      (∀ p ∈ tf.map (·.1), T.K.lookup (He.cT T.K p).2 = none) ∧ (∀ p ∈ tf.map (·.1), PySem.W.codeHdIn T.K (He.cT T.K p).1 (He.cT T.K p).2 = true) ∧ (∀ (s : Shared) (u : Value), BindsTo s fd ⟨[u], []⟩ [(x, u)]) ∧
      (∀ (ns : List Int) Q R, ns.length ≤ 63 → (∀ h', Q (.bl true) h') → sp [.lst (ns.map .int)] (fun _ => none) Q R) ∧
      ∀ base : Heap, T.K.In base → base.Ns mainGlobals mg → (∀ p ∈ tf.map (·.1), LamX.TabB base mg (He.cT T.K p).1 (He.cT T.K p).2) → FnOk l.prog w T.K mg base (L2.CX l.prog w) k fa fd [x] (prom T sp)) :
    PySem.W.WalkO q loose XP YP l.row.toRowW d [] (fun f vs => PySem.call f vs) := by
  refine LamX.walk_ofTsE (CX := fun w => L2.CX l.prog w) (x := x) (k := k) hn (by decide) hdf hr (fun w mg fa h Y G hmg => ?_) ?_
  · obtain ⟨T, fd, sp, tf, hK, hL, hE, hO, hC, hb, hsp, hF⟩ := F w mg fa h Y G hmg
    refine ⟨T.K, hK, fd, (tf.map (·.1)).map (He.cT T.K), prom T sp, ?_, ?_, ?_, hb, ?_, ?_⟩
    · rintro p hp
      obtain ⟨r, hr, rfl⟩ := List.mem_map.mp hp
      exact hE r hr
    · rintro p hp
      obtain ⟨r, hr, rfl⟩ := List.mem_map.mp hp
      exact hO r hr
    · rintro p hp
      obtain ⟨r, hr, rfl⟩ := List.mem_map.mp hp
      exact PySem.W.codeHd_of_K hK (hC r hr)
    · intro H a ns hl _ hT hS
      refine law_prom hS (fun Q R => hsp ns Q R hl) ?_
      rw [hL]
      rintro p hp
      obtain ⟨r, hr, rfl⟩ := List.mem_map.mp hp
      exact LamX.TabS.nil (hT (He.cT T.K r.1) (List.mem_map.mpr ⟨r.1, List.mem_map.mpr ⟨r, hr, rfl⟩, rfl⟩))
    · intro base hKb hN hTB
      exact hF base hKb hN fun p hp => hTB (He.cT T.K p) (List.mem_map.mpr ⟨p, hp, rfl⟩)
  · intro w H s e s' z
    obtain ⟨_, _, _, _, _, _, _, _, _, _, _, _, z⟩ := z
    exact z
end FF

set_option maxHeartbeats 0
namespace FF
open PySem PySem.Spec PyProof.Rows L2
abbrev tp (i : Nat) : Stmt := PySem.Challenge.pw_farfloats_k06_rounding_in_small_formats.main.body.getD i (.Pass ⟨0, 0, 0, 0⟩)
abbrev tpm (i j : Nat) : Stmt := (clsBody (tp i)).getD j (.Pass ⟨0, 0, 0, 0⟩)
def tfL : List (He.Defn × Str) := [(("_law_right", none), "_law_right")]
def d_is_integer : He.DefD := ⟨("is_integer", none), "is_integer", "is_integer", defArgs (tp 6), defBody (tp 6), defScope (tp 6), [], []⟩
def d_is_between : He.DefD := ⟨("is_between", none), "is_between", "is_between", defArgs (tp 7), defBody (tp 7), defScope (tp 7), [], []⟩
def d_divisor : He.DefD := ⟨("divisor", none), "divisor", "divisor", defArgs (tp 8), defBody (tp 8), defScope (tp 8), [], []⟩
def d_fraction : He.DefD := ⟨("fraction", none), "fraction", "fraction", defArgs (tp 9), defBody (tp 9), defScope (tp 9), [], []⟩
def d_is_number : He.DefD := ⟨("is_number", none), "is_number", "is_number", defArgs (tp 10), defBody (tp 10), defScope (tp 10), [], []⟩
def d_check_number : He.DefD := ⟨("check_number", none), "check_number", "check_number", defArgs (tp 11), defBody (tp 11), defScope (tp 11), [], []⟩
def d_power : He.DefD := ⟨("power", none), "power", "power", defArgs (tp 12), defBody (tp 12), defScope (tp 12), [], []⟩
def d_minus : He.DefD := ⟨("minus", none), "minus", "minus", defArgs (tp 13), defBody (tp 13), defScope (tp 13), [], []⟩
def d_times : He.DefD := ⟨("times", none), "times", "times", defArgs (tp 14), defBody (tp 14), defScope (tp 14), [], []⟩
def d_over : He.DefD := ⟨("over", none), "over", "over", defArgs (tp 15), defBody (tp 15), defScope (tp 15), [], []⟩
def d_is_less : He.DefD := ⟨("is_less", none), "is_less", "is_less", defArgs (tp 16), defBody (tp 16), defScope (tp 16), [], []⟩
def d_size_of : He.DefD := ⟨("size_of", none), "size_of", "size_of", defArgs (tp 17), defBody (tp 17), defScope (tp 17), [], []⟩
def d_Format_init : He.DefD := ⟨("Format", some "__init__"), "__init__", "Format.__init__", defArgs (tpm 21 0), defBody (tpm 21 0), defScope (tpm 21 0), [], []⟩
def d_check_format : He.DefD := ⟨("check_format", none), "check_format", "check_format", defArgs (tp 22), defBody (tp 22), defScope (tp 22), [], []⟩
def d_exponent : He.DefD := ⟨("exponent", none), "exponent", "exponent", defArgs (tp 23), defBody (tp 23), defScope (tp 23), [], []⟩
def d_unit_exponent : He.DefD := ⟨("unit_exponent", none), "unit_exponent", "unit_exponent", defArgs (tp 24), defBody (tp 24), defScope (tp 24), [], []⟩
def d_most_order : He.DefD := ⟨("most_order", none), "most_order", "most_order", defArgs (tp 25), defBody (tp 25), defScope (tp 25), [], []⟩
def d_value_of : He.DefD := ⟨("value_of", none), "value_of", "value_of", defArgs (tp 26), defBody (tp 26), defScope (tp 26), [], []⟩
def d_greatest : He.DefD := ⟨("greatest", none), "greatest", "greatest", defArgs (tp 27), defBody (tp 27), defScope (tp 27), [], []⟩
def d_is_far : He.DefD := ⟨("is_far", none), "is_far", "is_far", defArgs (tp 28), defBody (tp 28), defScope (tp 28), [], []⟩
def d_unit : He.DefD := ⟨("unit", none), "unit", "unit", defArgs (tp 29), defBody (tp 29), defScope (tp 29), [], []⟩
def d_check_mode : He.DefD := ⟨("check_mode", none), "check_mode", "check_mode", defArgs (tp 32), defBody (tp 32), defScope (tp 32), [], []⟩
def d_to_integer : He.DefD := ⟨("to_integer", none), "to_integer", "to_integer", defArgs (tp 33), defBody (tp 33), defScope (tp 33), [], []⟩
def d_sign_of : He.DefD := ⟨("sign_of", none), "sign_of", "sign_of", defArgs (tp 34), defBody (tp 34), defScope (tp 34), [], []⟩
def d_rounded_once : He.DefD := ⟨("rounded_once", none), "rounded_once", "rounded_once", defArgs (tp 35), defBody (tp 35), defScope (tp 35), [], []⟩
def d_rounded : He.DefD := ⟨("rounded", none), "rounded", "rounded", defArgs (tp 36), defBody (tp 36), defScope (tp 36), [], []⟩
def d_steps_away : He.DefD := ⟨("steps_away", none), "steps_away", "steps_away", defArgs (tp 37), defBody (tp 37), defScope (tp 37), [], []⟩
def d_l_source_of : He.DefD := ⟨("_law_source_of", none), "_law_source_of", "_law_source_of", defArgs (tp 39), defBody (tp 39), defScope (tp 39), [], []⟩
def d_l_next : He.DefD := ⟨("_law_next", none), "_law_next", "_law_next", defArgs (tp 40), defBody (tp 40), defScope (tp 40), [], []⟩
def d_l_cell_at : He.DefD := ⟨("_law_cell_at", none), "_law_cell_at", "_law_cell_at", defArgs (tp 42), defBody (tp 42), defScope (tp 42), [], []⟩
def d_l_common : He.DefD := ⟨("_law_common", none), "_law_common", "_law_common", defArgs (tp 43), defBody (tp 43), defScope (tp 43), [], []⟩
def d_l_number : He.DefD := ⟨("_law_number", none), "_law_number", "_law_number", defArgs (tp 44), defBody (tp 44), defScope (tp 44), [], []⟩
def d_l_power : He.DefD := ⟨("_law_power", none), "_law_power", "_law_power", defArgs (tp 45), defBody (tp 45), defScope (tp 45), [], []⟩
def d_l_nearest : He.DefD := ⟨("_law_nearest", none), "_law_nearest", "_law_nearest", defArgs (tp 46), defBody (tp 46), defScope (tp 46), [], []⟩
def d_l_placed : He.DefD := ⟨("_law_placed", none), "_law_placed", "_law_placed", defArgs (tp 47), defBody (tp 47), defScope (tp 47), [], []⟩
def d_l_told : He.DefD := ⟨("_law_told", none), "_law_told", "_law_told", defArgs (tp 48), defBody (tp 48), defScope (tp 48), [], []⟩
def d_l_right : He.DefD := ⟨("_law_right", none), "_law_right", "_law_right", defArgs (tp 49), defBody (tp 49), defScope (tp 49), [], []⟩
def d_law : He.DefD := ⟨("law", none), "law", "law", defArgs (tp 50), defBody (tp 50), defScope (tp 50), [], []⟩
def dx_InvalidFormat : He.DefD := ⟨("InvalidFormat", some "__init__"), "__init__", "InvalidFormat.__init__", defArgs (tpm 2 0), defBody (tpm 2 0), defScope (tpm 2 0), [], []⟩
def dx_InvalidBound : He.DefD := ⟨("InvalidBound", some "__init__"), "__init__", "InvalidBound.__init__", defArgs (tpm 3 0), defBody (tpm 3 0), defScope (tpm 3 0), [], []⟩
def dx_Overflow : He.DefD := ⟨("Overflow", some "__init__"), "__init__", "Overflow.__init__", defArgs (tpm 4 0), defBody (tpm 4 0), defScope (tpm 4 0), [], []⟩
def fnL : List He.DefD := [d_is_integer, d_is_between, d_divisor, d_fraction, d_is_number, d_check_number, d_power, d_minus, d_times, d_over, d_is_less, d_size_of, d_Format_init, d_check_format, d_exponent, d_unit_exponent, d_most_order, d_value_of, d_greatest, d_is_far, d_unit, d_check_mode, d_to_integer, d_sign_of, d_rounded_once, d_rounded, d_steps_away, d_l_source_of, d_l_next, d_l_cell_at, d_l_common, d_l_number, d_l_power, d_l_nearest, d_l_placed, d_l_told, d_l_right, d_law, dx_InvalidFormat, dx_InvalidBound, dx_Overflow]
def faL : List He.Fa := [.glo "is_integer", .glo "is_between", .glo "divisor", .glo "fraction", .glo "is_number", .glo "check_number", .glo "power", .glo "minus", .glo "times", .glo "over", .glo "is_less", .glo "size_of", .glo "check_format", .glo "exponent", .glo "unit_exponent", .glo "most_order", .glo "value_of", .glo "greatest", .glo "is_far", .glo "unit", .glo "check_mode", .glo "to_integer", .glo "sign_of", .glo "rounded_once", .glo "rounded", .glo "steps_away", .glo "_law_source_of", .glo "_law_next", .glo "_law_cell_at", .glo "_law_common", .glo "_law_number", .glo "_law_power", .glo "_law_nearest", .glo "_law_placed", .glo "_law_told", .glo "_law_right", .glo "law", .free "abs", .free "int", .free "len", .free "max", .free "min", .free "sum", .free "all", .free "any", .free "range", .free "zip", .free "enumerate", .free "isinstance", .free "bool", .free "str", .free "tuple", .free "list", .free "divmod", .glo "Format", .cls "Format", .mkr "Format", .noat "Format" "precision", .noat "Format" "low", .noat "Format" "high", .int "MOST_PRECISION" 100, .int "MOST_EXPONENT" 200, .glo "MODES", .glo "InvalidFormat", .glo "FloatsError", .glo "InvalidBound", .glo "Overflow"]
def exL : List FrB := [isoF "Format", fun K => He.tupB K "MODES" [(.str (sOf [101, 118, 101, 110])), (.str (sOf [97, 119, 97, 121])), (.str (sOf [100, 111, 119, 110])), (.str (sOf [117, 112])), (.str (sOf [122, 101, 114, 111]))], baF "FloatsError", exF "FloatsError" "InvalidFormat" "part", exF "FloatsError" "InvalidBound" "argument", exF "FloatsError" "Overflow" "sign", subF "Overflow" "Overflow" true, subF "Overflow" "FloatsError" true, disB (tfL.map (·.1))]
abbrev Rr : PySem.W.OpenRow := PySem.W.OpenLaw.row PySem.Challenge.rw_farfloats_k06_rounding_in_small_formats
abbrev hk : PySem.W.Hook := hookLm 6 faL fnL exL (tfL.map (·.1))
def ob (s : PySem.W.SharedT) : AlF := obsLm 6 faL fnL exL (tfL.map (·.1)) (HandSHeadRun.getT s)
theorem ob_eq (s : PySem.W.SharedT) : ob s = hk.obs s.abs := obsLm_eq (HandSHeadRun.getT_eq s)
theorem run_ (w : World) : HandSHeadRun.RunEq Rr (PySem.W.view Rr.prog [50]) hk ob 6000 [("FloatsError" : Str), ("InvalidFormat" : Str), ("InvalidBound" : Str), ("Overflow" : Str), ("is_integer" : Str), ("is_between" : Str), ("divisor" : Str), ("fraction" : Str), ("is_number" : Str), ("check_number" : Str), ("power" : Str), ("minus" : Str), ("times" : Str), ("over" : Str), ("is_less" : Str), ("size_of" : Str), ("Format" : Str), ("check_format" : Str), ("exponent" : Str), ("unit_exponent" : Str), ("most_order" : Str), ("value_of" : Str), ("greatest" : Str), ("is_far" : Str), ("unit" : Str), ("check_mode" : Str), ("to_integer" : Str), ("sign_of" : Str), ("rounded_once" : Str), ("rounded" : Str), ("steps_away" : Str), ("_law_source_of" : Str), ("_law_next" : Str), ("_law_one" : Str), ("_law_cell_at" : Str), ("_law_common" : Str), ("_law_number" : Str), ("_law_power" : Str), ("_law_nearest" : Str), ("_law_placed" : Str), ("_law_told" : Str), ("_law_right" : Str), ("MOST_PRECISION" : Str), ("MOST_EXPONENT" : Str), ("MODES" : Str)] w := by
  intro os
  kernel_rfl
end FF

namespace FF
theorem ixL0 {x : D} {l : List D} : ixP (x :: l).length 0 = some 0 := by
  unfold ixP
  rw [if_pos (by decide), if_pos (by rw [List.length_cons]; omega)]; rfl
theorem ixL1 {x y : D} {l : List D} : ixP (x :: y :: l).length 1 = some 1 := by
  unfold ixP
  rw [if_pos (by decide), if_pos (by rw [List.length_cons, List.length_cons]; omega)]; rfl
theorem ixL2 {x y z : D} {l : List D} : ixP (x :: y :: z :: l).length 2 = some 2 := by
  unfold ixP
  rw [if_pos (by decide), if_pos (by rw [List.length_cons, List.length_cons, List.length_cons]; omega)]; rfl
/-! ### sizes -/
def Sz (p : Nat) (i : Int) : Prop := i.natAbs < 2 ^ p
theorem bitsI_le {i : Int} {p : Nat} (h : Sz p i) : bitsI i ≤ p := by
  unfold bitsI
  by_cases e : i = 0
  · rw [if_pos e]; exact Nat.zero_le _
  · rw [if_neg e]
    have := (Nat.log2_lt (n := i.natAbs) (k := p) (by omega)).mpr h
    omega
theorem mul_ok {i j : Int} {p q : Nat} (hi : Sz p i) (hj : Sz q j) (h : p + q ≤ 134217728) : mulOk i j := .inl (by
  have := bitsI_le hi
  have := bitsI_le hj
  omega)
theorem Sz.mono {p q : Nat} {i : Int} (h : Sz p i) (l : p ≤ q) : Sz q i := Nat.lt_of_lt_of_le h (Nat.pow_le_pow_right (by decide) l)
theorem Sz.add {p : Nat} {i j : Int} (hi : Sz p i) (hj : Sz p j) : Sz (p + 1) (i + j) := by
  unfold Sz at *
  have := Int.natAbs_add_le i j
  have : 2 ^ (p + 1) = 2 * 2 ^ p := by rw [Nat.pow_succ, Nat.mul_comm]
  omega
theorem Sz.sub {p : Nat} {i j : Int} (hi : Sz p i) (hj : Sz p j) : Sz (p + 1) (i - j) := by
  have : i - j = i + -j := Int.sub_eq_add_neg
  rw [this]
  exact hi.add (by unfold Sz at *; rw [Int.natAbs_neg]; exact hj)
theorem Sz.mul {p q : Nat} {i j : Int} (hi : Sz p i) (hj : Sz q j) : Sz (p + q) (i * j) := by
  unfold Sz at *
  rw [Int.natAbs_mul, Nat.pow_add]
  exact Nat.mul_lt_mul'' hi hj
theorem abs_div {i j : Int} (hj : 0 < j) : (i / j).natAbs ≤ i.natAbs := by
  have h1 := Int.ediv_mul_add_emod i j
  have h2 := Int.emod_nonneg i (show j ≠ 0 by omega)
  have h3 := Int.emod_lt_of_pos i hj
  by_cases hi : 0 ≤ i
  · have a := Int.ediv_nonneg hi (Int.le_of_lt hj)
    have b := Int.ediv_le_self j hi
    omega
  · have a : i / j < 0 := Int.ediv_neg_of_neg_of_pos (by omega) hj
    have b : i ≤ i / j := by
      apply Int.le_of_not_gt
      intro z
      have e : i / j + 1 ≤ i := by omega
      have h4 : (-(i / j + 1)) * 1 ≤ (-(i / j + 1)) * j := Int.mul_le_mul_of_nonneg_left (by omega) (by omega)
      have h5 : (-(i / j + 1)) * j = -(i / j * j) - j := by rw [Int.neg_mul, Int.add_mul, Int.one_mul]; omega
      omega
    omega
theorem Sz.div {p : Nat} {i j : Int} (hi : Sz p i) (hj : 0 < j) : Sz p (i / j) := Nat.lt_of_le_of_lt (abs_div hj) hi
theorem Sz.mod {p : Nat} {i j : Int} (hj : Sz p j) (h0 : 0 < j) : Sz p (i % j) := by
  unfold Sz at *
  have h2 := Int.emod_nonneg i (show j ≠ 0 by omega)
  have h3 := Int.emod_lt_of_pos i h0
  omega
theorem fdiv_pos {i j : Int} (h : 0 < j) : i.fdiv j = i / j := Int.fdiv_eq_ediv_of_nonneg i (Int.le_of_lt h)
theorem fmod_pos {i j : Int} (h : 0 < j) : i.fmod j = i % j := Int.fmod_eq_emod_of_nonneg i (Int.le_of_lt h)
/-! ### sums -/
def sumI : Nat → (Nat → Int) → Int
  | 0, _ => 0
  | n + 1, f => sumI n f + f n
theorem sumI_congr {f g : Nat → Int} : ∀ {n : Nat}, (∀ i, i < n → f i = g i) → sumI n f = sumI n g
  | 0, _ => rfl
  | n + 1, h => by
    show sumI n f + f n = sumI n g + g n
    rw [sumI_congr (n := n) fun i hi => h i (by omega), h n (by omega)]
theorem sumI_add {f g : Nat → Int} : ∀ {n : Nat}, sumI n (fun i => f i + g i) = sumI n f + sumI n g
  | 0 => rfl
  | n + 1 => by
    show sumI n (fun i => f i + g i) + (f n + g n) = (sumI n f + f n) + (sumI n g + g n)
    rw [sumI_add (n := n)]; omega
theorem sumI_mul {c : Int} {f : Nat → Int} : ∀ {n : Nat}, sumI n (fun i => c * f i) = c * sumI n f
  | 0 => (Int.mul_zero c).symm
  | n + 1 => by
    show sumI n (fun i => c * f i) + c * f n = c * (sumI n f + f n)
    rw [sumI_mul (n := n), Int.mul_add]
theorem sumI_const {c : Int} : ∀ {n : Nat}, sumI n (fun _ => c) = n * c
  | 0 => (Int.zero_mul c).symm
  | n + 1 => by
    show sumI n (fun _ => c) + c = ((n + 1 : Nat) : Int) * c
    rw [sumI_const (n := n), Int.natCast_add, Int.add_mul]; simp
theorem sumI_zero {f : Nat → Int} {n : Nat} (h : ∀ i, i < n → f i = 0) : sumI n f = 0 := by
  rw [sumI_congr h, sumI_const]; simp
theorem sumI_append {f : Nat → Int} {m : Nat} : ∀ {n : Nat}, sumI (m + n) f = sumI m f + sumI n (fun i => f (m + i))
  | 0 => by simp [sumI]
  | n + 1 => by
    show sumI (m + n) f + f (m + n) = sumI m f + (sumI n (fun i => f (m + i)) + f (m + n))
    rw [sumI_append (n := n)]; omega
theorem sumI_front {f : Nat → Int} {n : Nat} : sumI (n + 1) f = f 0 + sumI n (fun i => f (i + 1)) := by
  rw [Nat.add_comm n 1, sumI_append]
  have : ∀ i, f (1 + i) = f (i + 1) := fun i => by rw [Nat.add_comm]
  simp only [this]
  show (0 + f 0) + _ = _
  omega
theorem sumI_rev {f : Nat → Int} : ∀ {n : Nat}, sumI n f = sumI n (fun i => f (n - 1 - i))
  | 0 => rfl
  | n + 1 => by
    rw [sumI_front (f := fun i => f (n + 1 - 1 - i))]
    show sumI n f + f n = f (n + 1 - 1 - 0) + sumI n (fun i => f (n + 1 - 1 - (i + 1)))
    have e : sumI n (fun i => f (n + 1 - 1 - (i + 1))) = sumI n (fun i => f (n - 1 - i)) := sumI_congr fun i hi => by rw [show n + 1 - 1 - (i + 1) = n - 1 - i by omega]
    rw [e, ← sumI_rev (n := n)]
    simp only [Nat.add_sub_cancel, Nat.sub_zero]
    omega
theorem sumI_swap {f : Nat → Nat → Int} {m : Nat} : ∀ {n : Nat}, sumI n (fun i => sumI m (fun j => f i j)) = sumI m (fun j => sumI n (fun i => f i j))
  | 0 => (sumI_zero (n := m) fun _ _ => rfl).symm
  | n + 1 => by
    show sumI n (fun i => sumI m (fun j => f i j)) + sumI m (fun j => f n j) = sumI m (fun j => sumI n (fun i => f i j) + f n j)
    rw [sumI_swap (n := n), sumI_add]
/-- twice the sum of 0 .. n-1 -/
theorem sumI_id : ∀ {n : Nat}, 2 * sumI n (fun i => (i : Int)) = n * (n - 1)
  | 0 => rfl
  | n + 1 => by
    show 2 * (sumI n (fun i => (i : Int)) + n) = ((n + 1 : Nat) : Int) * (((n + 1 : Nat) : Int) - 1)
    have := sumI_id (n := n)
    have e : ((n + 1 : Nat) : Int) * (((n + 1 : Nat) : Int) - 1) = (n : Int) * (n - 1) + 2 * n := by
      have e1 : ((n + 1 : Nat) : Int) = (n : Int) + 1 := by omega
      rw [e1]
      have e2 : (n : Int) + 1 - 1 = n := by omega
      rw [e2, Int.add_mul, Int.mul_sub, Int.mul_one, Int.one_mul]; omega
    rw [e, Int.mul_add, this]
def ind (p : Prop) [Decidable p] : Int := if p then 1 else 0
theorem cnt1 {x m : Int} (hm : 0 < m) : ∀ {N : Nat}, 0 ≤ x → x / m ≤ N → sumI N (fun j => ind (((j : Int) + 1) * m ≤ x)) = x / m := by
  have key : ∀ {N : Nat}, 0 ≤ x → sumI N (fun j => ind (((j : Int) + 1) * m ≤ x)) = min (N : Int) (x / m) := by
    intro N hx
    have h0 := Int.ediv_nonneg hx (Int.le_of_lt hm)
    induction N with
    | zero => show (0 : Int) = min ((0 : Nat) : Int) (x / m); omega
    | succ N ih =>
      show sumI N (fun j => ind (((j : Int) + 1) * m ≤ x)) + ind (((N : Int) + 1) * m ≤ x) = _
      rw [ih]
      by_cases c : ((N : Int) + 1) * m ≤ x
      · have := (Int.le_ediv_iff_mul_le hm).mpr c
        unfold ind
        rw [if_pos c]; omega
      · have : ¬ ((N : Int) + 1) ≤ x / m := fun z => c ((Int.le_ediv_iff_mul_le hm).mp z)
        unfold ind
        rw [if_neg c]; omega
  intro N hx hN
  rw [key hx]; omega
/-! ### sums of floors -/
def FL (n : Nat) (a b m : Int) : Int := sumI n fun i => (a * i + b) / m
theorem FL_red {n : Nat} {a b m : Int} (hm : 0 < m) : FL n a b m = (n : Int) * (n - 1) / 2 * (a / m) + n * (b / m) + FL n (a % m) (b % m) m := by
  have e : ∀ i : Nat, (a * i + b) / m = (a / m) * i + b / m + ((a % m) * i + b % m) / m := fun i => by
    have h1 := Int.ediv_mul_add_emod a m
    have h2 := Int.ediv_mul_add_emod b m
    have : a * i + b = ((a % m) * i + b % m) + m * ((a / m) * i + b / m) := by
      conv => lhs; rw [← h1, ← h2]
      rw [Int.add_mul, Int.mul_add]
      have : a / m * m * i = m * (a / m * i) := by rw [Int.mul_comm (a / m) m, Int.mul_assoc]
      rw [this, Int.mul_comm (b / m) m]; omega
    rw [this, Int.add_mul_ediv_left _ _ (by omega)]; omega
  unfold FL
  rw [sumI_congr fun i _ => e i, sumI_add, sumI_add, sumI_mul, sumI_const]
  have s := sumI_id (n := n)
  have : (n : Int) * (n - 1) / 2 = sumI n (fun i => (i : Int)) := by rw [← s]; exact Int.mul_ediv_cancel_left _ (by decide)
  rw [this, Int.mul_comm (a / m)]
theorem FL_turn {n : Nat} {a b m : Int} (hm : 0 < m) (ha : 0 ≤ a) (ha' : a < m) (hb : 0 ≤ b) (hb' : b < m) : FL n a b m = FL ((a * n + b) / m).toNat m ((a * n + b) % m) a := by
  have ht : 0 ≤ a * n + b := Int.add_nonneg (Int.mul_nonneg ha (Int.natCast_nonneg _)) hb
  have hN := Int.ediv_nonneg ht (Int.le_of_lt hm)
  have hd := Int.ediv_mul_add_emod (a * n + b) m
  generalize ht' : a * n + b = top at *
  obtain ⟨N, eN⟩ := Int.eq_ofNat_of_zero_le hN
  rw [eN, Int.toNat_natCast]
  have e1 : FL n a b m = sumI n fun i => sumI N fun j => ind (((j : Int) + 1) * m ≤ a * i + b) := by
    unfold FL
    refine sumI_congr fun i hi => ?_
    have h1 : 0 ≤ a * i + b := Int.add_nonneg (Int.mul_nonneg ha (Int.natCast_nonneg _)) hb
    refine (cnt1 hm h1 ?_).symm
    rw [← eN]
    refine Int.ediv_le_ediv hm ?_
    rw [← ht']
    have : a * (i : Int) ≤ a * n := Int.mul_le_mul_of_nonneg_left (by omega) ha
    omega
  rw [e1, sumI_swap, sumI_rev]
  unfold FL
  refine sumI_congr fun j hj => ?_
  have em := Int.emod_nonneg top (show m ≠ 0 by omega)
  have em2 := Int.emod_lt_of_pos top hm
  have cj : (((N - 1 - j : Nat) : Int) + 1) = N - j := by omega
  rw [cj]
  rw [eN] at hd
  by_cases a0 : a = 0
  · subst a0
    -- then the top is b < m, so N = 0
    exfalso
    have : top < m := by rw [← ht']; simp; exact hb'
    have hh : top / m = 0 := Int.ediv_eq_zero_of_lt ht this
    omega
  · have ap : 0 < a := by omega
    rw [sumI_rev]
    have x0 : m * (j : Int) + top % m = top - ((N : Int) - j) * m := by
      rw [Int.sub_mul, Int.mul_comm m]; omega
    have xx : 0 ≤ m * (j : Int) + top % m := Int.add_nonneg (Int.mul_nonneg (Int.le_of_lt hm) (Int.natCast_nonneg _)) em
    rw [← cnt1 (N := n) ap xx ?_]
    · refine sumI_congr fun i hi => ?_
      have ci : ((n - 1 - i : Nat) : Int) = n - 1 - i := by omega
      rw [ci]
      have q : (((N : Int) - j) * m ≤ a * (n - 1 - i) + b) ↔ (((i : Int) + 1) * a ≤ m * (j : Int) + top % m) := by
        rw [x0, ← ht']
        have : a * ((n : Int) - 1 - i) = a * n - (i + 1) * a := by
          rw [Int.mul_sub, Int.mul_sub, Int.add_mul, Int.mul_one, Int.one_mul, Int.mul_comm a i]; omega
        rw [this]; omega
      unfold ind
      by_cases c : ((N : Int) - j) * m ≤ a * (n - 1 - i) + b
      · rw [if_pos c, if_pos (q.mp c)]
      · rw [if_neg c, if_neg (fun z => c (q.mpr z))]
    · have hc : m * (j : Int) + top % m < a * n := by
        have : m ≤ ((N : Int) - j) * m := by
          have := Int.mul_le_mul_of_nonneg_right (show (1 : Int) ≤ (N : Int) - j by omega) (Int.le_of_lt hm)
          omega
        rw [x0, ← ht']; omega
      have := Int.ediv_lt_of_lt_mul ap (show m * (j : Int) + top % m < (n : Int) * a by rw [Int.mul_comm (n : Int) a]; exact hc)
      omega
/-! ### a whole round -/
theorem sumI_mod_shift {f : Int → Int} {m : Int} {a b : Int} {n : Nat} (hn : (n : Int) * a % m = 0) (hm : m ≠ 0) : sumI n (fun i => f ((a * i + (b + a)) % m)) = sumI n (fun i => f ((a * i + b) % m)) := by
  have h1 : sumI (n + 1) (fun i => f ((a * i + b) % m)) = sumI n (fun i => f ((a * i + b) % m)) + f ((a * n + b) % m) := rfl
  have h2 := sumI_front (f := fun i => f ((a * i + b) % m)) (n := n)
  have e : (a * (n : Int) + b) % m = (a * ((0 : Nat) : Int) + b) % m := by
    have : a * (n : Int) % m = 0 := by rw [Int.mul_comm]; exact hn
    rw [Int.add_emod, this]; simp
  have e2 : sumI n (fun i => f ((a * ((i + 1 : Nat) : Int) + b) % m)) = sumI n (fun i => f ((a * i + (b + a)) % m)) := sumI_congr fun i _ => by
    have : a * ((i + 1 : Nat) : Int) + b = a * i + (b + a) := by
      have : ((i + 1 : Nat) : Int) = i + 1 := by omega
      rw [this, Int.mul_add]; omega
    rw [this]
  rw [h1, e] at h2
  rw [e2] at h2
  omega
/-- along a whole round each residue comes once: what is added up over them is the same -/
theorem round_sum {f : Int → Int} {m : Nat} {a b a' : Int} (hm : 0 < m) (hg : a * a' % m = 1 % m) : sumI m (fun i => f ((a * i + b) % m)) = sumI m (fun r => f r) := by
  have m0 : (m : Int) ≠ 0 := by omega
  have U : ∀ b, sumI m (fun i => f ((a * i + (b + a)) % m)) = sumI m (fun i => f ((a * i + b) % m)) := fun b => sumI_mod_shift (by rw [Int.mul_comm]; exact Int.mul_emod_left _ _) m0
  have Un : ∀ (k : Nat) b, sumI m (fun i => f ((a * i + (b + a * k)) % m)) = sumI m (fun i => f ((a * i + b) % m)) := by
    intro k
    induction k with
    | zero => intro b; simp
    | succ k ih =>
      intro b
      have : b + a * ((k + 1 : Nat) : Int) = (b + a * k) + a := by
        have : ((k + 1 : Nat) : Int) = k + 1 := by omega
        rw [this, Int.mul_add]; omega
      rw [this, U, ih]
  -- one step of b
  have V : ∀ b, sumI m (fun i => f ((a * i + (b + 1)) % m)) = sumI m (fun i => f ((a * i + b) % m)) := by
    intro b
    rw [← Un (a' % m).toNat b]
    refine sumI_congr fun i _ => ?_
    have nn : 0 ≤ a' % m := Int.emod_nonneg _ m0
    rw [Int.toNat_of_nonneg nn]
    have : (a * ↑i + (b + 1)) % ↑m = (a * ↑i + (b + a * (a' % ↑m))) % ↑m := by
      have h1 : a * (a' % m) % m = 1 % m := by rw [Int.mul_emod, Int.emod_emod_of_dvd _ (Int.dvd_refl _), ← Int.mul_emod]; exact hg
      rw [← Int.add_assoc, ← Int.add_assoc, Int.add_emod, ← h1, ← Int.add_emod]
    rw [this]
  have W : ∀ (k : Nat) b, sumI m (fun i => f ((a * i + (b + k)) % m)) = sumI m (fun i => f ((a * i + b) % m)) := by
    intro k
    induction k with
    | zero => intro b; simp
    | succ k ih =>
      intro b
      have : b + ((k + 1 : Nat) : Int) = (b + k) + 1 := by omega
      rw [this, V, ih]
  -- added up over m values of b
  have T1 : sumI m (fun k => sumI m (fun i => f ((a * i + (b + k)) % m))) = m * sumI m (fun i => f ((a * i + b) % m)) := by
    rw [sumI_congr fun k _ => W k b, sumI_const]
  have R : ∀ c : Int, sumI m (fun k => f (((1 : Int) * k + c) % m)) = sumI m (fun k => f (((1 : Int) * k + 0) % m)) := by
    intro c
    have S : ∀ c : Int, sumI m (fun k => f (((1 : Int) * k + (c + 1)) % m)) = sumI m (fun k => f (((1 : Int) * k + c) % m)) := fun c => sumI_mod_shift (by rw [Int.mul_one]; exact Int.emod_self) m0
    have S2 : ∀ (k : Nat) (c : Int), sumI m (fun i => f (((1 : Int) * i + (c + k)) % m)) = sumI m (fun i => f (((1 : Int) * i + c) % m)) := by
      intro k
      induction k with
      | zero => intro c; simp
      | succ k ih =>
        intro c
        have : c + ((k + 1 : Nat) : Int) = (c + k) + 1 := by omega
        rw [this, S, ih]
    have := S2 (c % m).toNat 0
    rw [Int.toNat_of_nonneg (Int.emod_nonneg _ m0)] at this
    rw [← this]
    refine sumI_congr fun i _ => ?_
    congr 1
    rw [Int.zero_add, Int.add_emod, Int.add_emod ((1 : Int) * i) (c % m), Int.emod_emod_of_dvd _ (Int.dvd_refl _)]
  have T2 : sumI m (fun k => sumI m (fun i => f ((a * i + (b + k)) % m))) = m * sumI m (fun r => f r) := by
    rw [sumI_swap]
    have : ∀ i : Nat, i < m → sumI m (fun j => f ((a * i + (b + j)) % m)) = sumI m (fun r => f r) := by
      intro i _
      have h1 : sumI m (fun j => f ((a * i + (b + j)) % m)) = sumI m (fun k => f (((1 : Int) * k + (a * i + b)) % m)) := sumI_congr fun j _ => by
        congr 2
        omega
      rw [h1, R]
      refine sumI_congr fun r hr => ?_
      congr 1
      rw [Int.one_mul, Int.add_zero]
      exact Int.emod_eq_of_lt (by omega) (by omega)
    rw [sumI_congr this, sumI_const]
  have := T1.symm.trans T2
  exact Int.eq_of_mul_eq_mul_left m0 this
/-! ### a for loop by its invariant -/
theorem forL_inv {Γ : Gam} {b : Ss} {bind : D → Env → (Env → Prop) → Prop} {I : Nat → Env → AH → Prop} {P : Post} : ∀ (ds : List D) {j : Nat} {σ : Env} {h : AH},
    (∀ d ∈ ds, ∀ j σ h, I j σ h → ∀ P' : Post, (∀ σ' h', I (j + 1) σ' h' → P'.nx σ' h') → (∀ σ' h', I (j + 1) σ' h' → P'.ct σ' h') → P'.rt = P.rt → P'.R = P.R → bind d σ fun σ' => wpSs Γ b σ' h P') →
    I j σ h → (∀ σ h, I (j + ds.length) σ h → P.nx σ h) → forL (fun σ h P => wpSs Γ b σ h P) bind ds σ h P
  | [], _, σ, h, _, i, k => k σ h i
  | d :: r, j, σ, h, hs, i, k => by
    have e : j + (r.length + 1) = j + 1 + r.length := by omega
    have rest : ∀ σ' h', I (j + 1) σ' h' → forL (fun σ h P => wpSs Γ b σ h P) bind r σ' h' P := fun σ' h' i' => forL_inv r (fun d hd => hs d (List.mem_cons_of_mem _ hd)) i' fun σ h i => k σ h (by rw [List.length_cons, e]; exact i)
    exact hs d List.mem_cons_self j σ h i _ rest rest rfl rfl
/-- the same, by what has been walked -/
theorem forL_pre {Γ : Gam} {b : Ss} {bind : D → Env → (Env → Prop) → Prop} {I : List D → Env → AH → Prop} {P : Post} : ∀ (ds : List D) {pre : List D} {σ : Env} {h : AH},
    (∀ d ∈ ds, ∀ pre σ h, I pre σ h → ∀ P' : Post, (∀ σ' h', I (pre ++ [d]) σ' h' → P'.nx σ' h') → (∀ σ' h', I (pre ++ [d]) σ' h' → P'.ct σ' h') → P'.rt = P.rt → P'.R = P.R → bind d σ fun σ' => wpSs Γ b σ' h P') →
    I pre σ h → (∀ σ h, I (pre ++ ds) σ h → P.nx σ h) → forL (fun σ h P => wpSs Γ b σ h P) bind ds σ h P
  | [], pre, σ, h, _, i, k => k σ h (by rw [List.append_nil]; exact i)
  | d :: r, pre, σ, h, hs, i, k => by
    have rest : ∀ σ' h', I (pre ++ [d]) σ' h' → forL (fun σ h P => wpSs Γ b σ h P) bind r σ' h' P := fun σ' h' i' => forL_pre r (fun d hd => hs d (List.mem_cons_of_mem _ hd)) i' fun σ h i => k σ h (by rw [List.append_assoc] at i; exact i)
    exact hs d List.mem_cons_self pre σ h i _ rest rest rfl rfl
end FF

namespace FF
/-! ### fractions without common divisors -/
abbrev gg (n d : Int) : Int := (Int.gcd n d : Int)
def fr (n d : Int) : Int × Int := (n / gg n d, d / gg n d)
theorem gg_pos {n d : Int} (h : 0 < d) : 0 < gg n d := by
  have : Int.gcd n d ≠ 0 := fun e => by
    have := (Int.gcd_eq_zero_iff.mp e).2
    omega
  show (0 : Int) < (Int.gcd n d : Int)
  omega
theorem fr_mul {n d : Int} : n = gg n d * (fr n d).1 ∧ d = gg n d * (fr n d).2 := by
  constructor
  · show n = gg n d * (n / gg n d)
    rw [Int.mul_ediv_cancel' (Int.gcd_dvd_left ..)]
  · show d = gg n d * (d / gg n d)
    rw [Int.mul_ediv_cancel' (Int.gcd_dvd_right ..)]
theorem pos_of_mul {a b : Int} (ha : 0 < a) (h : 0 < a * b) : 0 < b := by
  apply Classical.byContradiction
  intro z
  have := Int.mul_le_mul_of_nonneg_left (show b ≤ 0 by omega) (Int.le_of_lt ha)
  omega
theorem fr_pos {n d : Int} (h : 0 < d) : 0 < (fr n d).2 := pos_of_mul (gg_pos h) (by rw [← fr_mul.2]; exact h)
theorem fr_scale {a b k : Int} (hk : 0 < k) (hb : 0 < b) : fr (k * a) (k * b) = fr a b := by
  have e : gg (k * a) (k * b) = k * gg a b := by
    show ((Int.gcd (k * a) (k * b) : Nat) : Int) = k * ((Int.gcd a b : Nat) : Int)
    rw [Int.gcd_mul_left, Int.natCast_mul]
    congr 1
    omega
  unfold fr
  rw [e, Int.mul_ediv_mul_of_pos _ _ hk, Int.mul_ediv_mul_of_pos _ _ hk]
theorem fr_of {a b c d : Int} (hb : 0 < b) (hd : 0 < d) (h : a * d = c * b) : fr a b = fr c d := by
  have e1 := fr_scale (a := a) hd hb
  have e2 := fr_scale (a := c) hb hd
  rw [← e1, ← e2, Int.mul_comm d a, h, Int.mul_comm c b, Int.mul_comm d b]
theorem fr_eq {a b c d : Int} (hb : 0 < b) (hd : 0 < d) : fr a b = fr c d ↔ a * d = c * b := by
  refine ⟨fun h => ?_, fr_of hb hd⟩
  obtain ⟨h1, h2⟩ := fr_mul (n := a) (d := b)
  obtain ⟨h3, h4⟩ := fr_mul (n := c) (d := d)
  rw [h] at h1 h2
  generalize gg a b = g at *
  generalize gg c d = k at *
  generalize fr c d = x at *
  obtain ⟨x, y⟩ := x
  have h1 : a = g * x := h1
  have h2 : b = g * y := h2
  have h3 : c = k * x := h3
  have h4 : d = k * y := h4
  rw [h1, h2, h3, h4]
  rw [Int.mul_assoc, Int.mul_assoc, Int.mul_left_comm x k y, Int.mul_left_comm g k, Int.mul_left_comm x g y]
theorem mul_lt_iff {a b k : Int} (hk : 0 < k) : k * a < k * b ↔ a < b := by
  constructor
  · intro h
    apply Classical.byContradiction
    intro z
    have := Int.mul_le_mul_of_nonneg_left (show b ≤ a by omega) (Int.le_of_lt hk)
    omega
  · exact fun h => Int.mul_lt_mul_of_pos_left h hk
theorem mul_le_iff {a b k : Int} (hk : 0 < k) : k * a ≤ k * b ↔ a ≤ b := by
  have := mul_lt_iff (a := b) (b := a) hk
  omega
theorem fr_lt {a b c d : Int} (hb : 0 < b) (hd : 0 < d) : (fr a b).1 * (fr c d).2 < (fr c d).1 * (fr a b).2 ↔ a * d < c * b := by
  obtain ⟨h1, h2⟩ := fr_mul (n := a) (d := b)
  obtain ⟨h3, h4⟩ := fr_mul (n := c) (d := d)
  have g1 := gg_pos (n := a) hb
  have g2 := gg_pos (n := c) hd
  generalize gg a b = g at *
  generalize gg c d = k at *
  generalize fr a b = x at *
  generalize fr c d = y at *
  rw [h1, h2, h3, h4]
  have e1 : g * x.1 * (k * y.2) = (g * k) * (x.1 * y.2) := by rw [Int.mul_assoc, Int.mul_assoc, Int.mul_left_comm x.1 k]
  have e2 : k * y.1 * (g * x.2) = (g * k) * (y.1 * x.2) := by rw [Int.mul_assoc, Int.mul_left_comm y.1 g, ← Int.mul_assoc, Int.mul_comm k g, Int.mul_assoc]
  rw [e1, e2, mul_lt_iff (Int.mul_pos g1 g2)]
theorem Sz.fr1 {p : Nat} {n d : Int} (h : Sz p n) (hd : 0 < d) : Sz p (fr n d).1 := h.div (gg_pos hd)
theorem Sz.fr2 {p : Nat} {n d : Int} (h : Sz p d) (hd : 0 < d) : Sz p (fr n d).2 := h.div (gg_pos hd)
theorem fr_zero {d : Int} (h : 0 < d) : fr 0 d = (0, 1) := by
  have e : gg 0 d = d := by
    show ((Int.gcd 0 d : Nat) : Int) = d
    rw [Int.gcd_zero_left]
    omega
  unfold fr
  rw [e, Int.zero_ediv, Int.ediv_self (by omega)]
theorem fr_neg {n d : Int} (h : 0 < d) : fr (-n) d = (-(fr n d).1, (fr n d).2) := by
  have e : gg (-n) d = gg n d := by
    show ((Int.gcd (-n) d : Nat) : Int) = ((Int.gcd n d : Nat) : Int)
    rw [Int.neg_gcd]
  have hd := Int.gcd_dvd_left (a := n) (b := d)
  unfold fr
  rw [e]
  congr 1
  exact Int.neg_ediv_of_dvd hd
theorem gcd_fmod {a b : Int} : Int.gcd b (a.fmod b) = Int.gcd a b := by
  rw [Int.fmod_def, Int.gcd_comm, ← Int.gcd_comm b a]
  have : a - b * a.fdiv b = a + b * (-(a.fdiv b)) := by rw [Int.mul_neg]; omega
  rw [this, Int.gcd_comm, Int.gcd_add_mul_left_right]
/-! ### powers of two -/
def up (k : Int) : Int := 2 ^ k.toNat
def dn (k : Int) : Int := 2 ^ (-k).toNat
theorem two_pos (n : Nat) : (0 : Int) < 2 ^ n := Int.pow_pos (by decide)
theorem up_pos {k : Int} : 0 < up k := two_pos _
theorem dn_pos {k : Int} : 0 < dn k := two_pos _
theorem up_dn (i j : Nat) : up ((i : Int) - j) * 2 ^ j = dn ((i : Int) - j) * 2 ^ i := by
  unfold up dn
  rw [← Int.pow_add, ← Int.pow_add]
  congr 1
  omega
/-- 2 ** k is at most n / d -/
def le2 (k n d : Int) : Prop := up k * d ≤ n * dn k
theorem le2_iff {n d : Int} (i j : Nat) : le2 ((i : Int) - j) n d ↔ 2 ^ i * d ≤ n * 2 ^ j := by
  unfold le2
  have e := up_dn i j
  have p := dn_pos (k := (i : Int) - j)
  have q := two_pos j
  generalize up ((i : Int) - j) = u at *
  generalize dn ((i : Int) - j) = v at *
  generalize (2 : Int) ^ i = x at *
  generalize (2 : Int) ^ j = y at *
  rw [← mul_le_iff (a := u * d) q, ← mul_le_iff (a := x * d) p]
  have e1 : y * (u * d) = v * (x * d) := by rw [← Int.mul_assoc, Int.mul_comm y u, e, Int.mul_assoc]
  have e2 : y * (n * v) = v * (n * y) := by rw [Int.mul_comm n v, Int.mul_comm n y, ← Int.mul_assoc, Int.mul_comm y v, Int.mul_assoc]
  rw [e1, e2]
theorem le2_at {k n d : Int} (i j : Nat) (h : k = (i : Int) - j) : le2 k n d ↔ 2 ^ i * d ≤ n * 2 ^ j := by subst h; exact le2_iff i j
theorem pow_le {i j : Nat} (h : i ≤ j) : (2 : Int) ^ i ≤ 2 ^ j := by
  obtain ⟨k, rfl⟩ := Nat.exists_eq_add_of_le h
  rw [Int.pow_add]
  have := two_pos i
  have h2 := two_pos k
  have := Int.mul_le_mul_of_nonneg_left (show (1 : Int) ≤ 2 ^ k by omega) (Int.le_of_lt this)
  omega
theorem le2.mono {k k' n d : Int} (h : le2 k' n d) (l : k ≤ k') (hd : 0 ≤ d) : le2 k n d := by
  have e1 := le2_at (n := n) (d := d) (k := k) (k + (-k).toNat).toNat (-k).toNat (by omega)
  have e2 := le2_at (n := n) (d := d) (k := k') (k' + (-k).toNat).toNat (-k).toNat (by omega)
  rw [e2] at h
  rw [e1]
  have := Int.mul_le_mul_of_nonneg_right (pow_le (show (k + (-k).toNat).toNat ≤ (k' + (-k).toNat).toNat by omega)) hd
  omega
theorem le2.mono_n {k n n' d : Int} (h : le2 k n d) (l : n ≤ n') : le2 k n' d := by
  unfold le2 at *
  have := Int.mul_le_mul_of_nonneg_right l (Int.le_of_lt (dn_pos (k := k)))
  omega
instance {k n d : Int} : Decidable (le2 k n d) := by unfold le2; exact inferInstance
theorem le2_scale {k n d c : Int} (hc : 0 < c) : le2 k (c * n) (c * d) ↔ le2 k n d := by
  unfold le2
  have e1 : up k * (c * d) = c * (up k * d) := Int.mul_left_comm ..
  have e2 : c * n * dn k = c * (n * dn k) := Int.mul_assoc ..
  rw [e1, e2, mul_le_iff hc]
theorem le2_fr {k n d : Int} (hd : 0 < d) : le2 k (fr n d).1 (fr n d).2 ↔ le2 k n d := by
  have h := fr_mul (n := n) (d := d)
  have g := gg_pos (n := n) hd
  rw [← le2_scale (n := (fr n d).1) g, ← h.1, ← h.2]
theorem Sz.up {k : Int} {N : Nat} (h : k ≤ N) : Sz (N + 1) (up k) := by
  unfold Sz FF.up
  rw [Int.natAbs_pow]
  exact Nat.pow_lt_pow_right (by decide) (by omega)
theorem Sz.dn {k : Int} {N : Nat} (h : -N ≤ k) : Sz (N + 1) (dn k) := by
  unfold Sz FF.dn
  rw [Int.natAbs_pow]
  exact Nat.pow_lt_pow_right (by decide) (by omega)
/-! ### the exponent of the unit -/
def UEx (p lo n d e : Int) : Prop := lo ≤ e ∧ ¬ le2 (e + p) (n.natAbs : Int) d ∧ (e = lo ∨ le2 (e - 1 + p) (n.natAbs : Int) d)
theorem UEx.uniq {p lo n d e e' : Int} (hd : 0 < d) (h : UEx p lo n d e) (h' : UEx p lo n d e') : e = e' := by
  obtain ⟨a1, a2, a3⟩ := h
  obtain ⟨b1, b2, b3⟩ := h'
  rcases Int.lt_trichotomy e e' with z | z | z
  · rcases b3 with q | q
    · omega
    · exact absurd (q.mono (show e + p ≤ e' - 1 + p by omega) (Int.le_of_lt hd)) a2
  · exact z
  · rcases a3 with q | q
    · omega
    · exact absurd (q.mono (show e' + p ≤ e - 1 + p by omega) (Int.le_of_lt hd)) b2
theorem UEx.scale {p lo n d e c : Int} (hc : 0 < c) : UEx p lo (c * n) (c * d) e ↔ UEx p lo n d e := by
  unfold UEx
  have : (((c * n).natAbs : Nat) : Int) = c * ((n.natAbs : Nat) : Int) := by
    rw [Int.natAbs_mul, Int.natCast_mul]
    congr 1
    omega
  rw [this, le2_scale hc, le2_scale hc]
theorem UEx.fr {p lo n d e : Int} (hd : 0 < d) : UEx p lo (fr n d).1 (fr n d).2 e ↔ UEx p lo n d e := by
  have h := fr_mul (n := n) (d := d)
  have g := gg_pos (n := n) hd
  rw [← UEx.scale (n := (FF.fr n d).1) g, ← h.1, ← h.2]
end FF

namespace FF
def k_divisor_1 : Ss := .cons (.setP 0 1 (.var 1) (.bin .mod (.var 0) (.var 1))) .nil
def k_divisor_2 : Ss := .cons (.ret (.bi .abs (.cons (.var 0) .nil))) .nil
def k_divisor_3 : Ss := .cons (.whl (.cmp .ne (.var 1) (.int 0)) k_divisor_1) k_divisor_2
def ir_divisor : Fd := ⟨2, 2, k_divisor_3⟩
def k_fraction_1 : Ss := .cons (.ret (.tup (.cons (.bin .fdiv (.var 0) (.var 2)) (.cons (.bin .fdiv (.var 1) (.var 2)) .nil)))) .nil
def k_fraction_2 : Ss := .cons (.set 2 (.call 23 (.cons (.var 0) (.cons (.var 1) .nil)) [])) k_fraction_1
def k_fraction_3 : Ss := .cons (.ite (.cmp .lt (.var 1) (.int 0)) (.cons (.setP 0 1 (.bin .sub (.int 0) (.var 0)) (.bin .sub (.int 0) (.var 1))) .nil) .nil) k_fraction_2
def ir_fraction : Fd := ⟨2, 3, k_fraction_3⟩
def ir_power : Fd := ⟨1, 1, (.cons (.ret (.ite (.cmp .ge (.var 0) (.int 0)) (.tup (.cons (.bin .shl (.int 1) (.var 0)) (.cons (.int 1) .nil))) (.tup (.cons (.int 1) (.cons (.bin .shl (.int 1) (.bin .sub (.int 0) (.var 0))) .nil))))) .nil)⟩
def ir_times : Fd := ⟨2, 2, (.cons (.ret (.call 24 (.cons (.bin .mul (.idx (.var 0) (.int 0)) (.idx (.var 1) (.int 0))) (.cons (.bin .mul (.idx (.var 0) (.int 1)) (.idx (.var 1) (.int 1))) .nil)) [])) .nil)⟩
def ir_over : Fd := ⟨2, 2, (.cons (.ret (.call 24 (.cons (.bin .mul (.idx (.var 0) (.int 0)) (.idx (.var 1) (.int 1))) (.cons (.bin .mul (.idx (.var 0) (.int 1)) (.idx (.var 1) (.int 0))) .nil)) [])) .nil)⟩
def ir_is_less : Fd := ⟨2, 2, (.cons (.ret (.cmp .lt (.bin .mul (.idx (.var 0) (.int 0)) (.idx (.var 1) (.int 1))) (.bin .mul (.idx (.var 1) (.int 0)) (.idx (.var 0) (.int 1))))) .nil)⟩
def ir_size_of : Fd := ⟨1, 1, (.cons (.ret (.tup (.cons (.bi .abs (.cons (.idx (.var 0) (.int 0)) .nil)) (.cons (.idx (.var 0) (.int 1)) .nil)))) .nil)⟩
def ir_Format_init : Fd := ⟨4, 4, (.cons (.ite (.not (.call 6 (.cons (.var 1) (.cons (.int 2) (.cons (.gcon 0 (.int 100)) .nil))) [])) (.cons (.raise 1 (.str [112, 114, 101, 99, 105, 115, 105, 111, 110])) .nil) .nil) (.cons (.ite (.not (.call 6 (.cons (.var 2) (.cons (.bin .sub (.int 0) (.gcon 1 (.int 200))) (.cons (.gcon 1 (.int 200)) .nil))) [])) (.cons (.raise 1 (.str [108, 111, 119])) .nil) .nil) (.cons (.ite (.not (.call 6 (.cons (.var 3) (.cons (.var 2) (.cons (.gcon 1 (.int 200)) .nil))) [])) (.cons (.raise 1 (.str [104, 105, 103, 104])) .nil) .nil) (.cons (.setFld 2 (.var 0) 0 (.var 1)) (.cons (.setFld 2 (.var 0) 1 (.var 2)) (.cons (.setFld 2 (.var 0) 2 (.var 3)) .nil))))))⟩
def ir_Format_parts : Fd := ⟨1, 1, (.cons (.ret (.tup (.cons (.fld (.var 0) 0) (.cons (.fld (.var 0) 1) (.cons (.fld (.var 0) 2) .nil))))) .nil)⟩
def ir_check_format : Fd := ⟨1, 1, (.cons (.ite (.not (.isin (.var 0) (.obj 2))) (.cons (.raise 0 (.str [102, 111, 114, 109])) .nil) .nil) .nil)⟩
def k_exponent_1 : Ss := .cons (.ret (.ite (.call 27 (.cons (.tup (.cons (.var 1) (.cons (.var 2) .nil))) (.cons (.call 28 (.cons (.var 3) .nil) []) .nil)) []) (.bin .sub (.var 3) (.int 1)) (.var 3))) .nil
def k_exponent_2 : Ss := .cons (.set 3 (.bin .sub (.bits (.var 1)) (.bits (.var 2)))) k_exponent_1
def k_exponent_3 : Ss := .cons (.setT (.cons (.name 1) (.cons (.name 2) .nil)) (.call 26 (.cons (.var 0) .nil) [])) k_exponent_2
def ir_exponent : Fd := ⟨1, 4, k_exponent_3⟩
def ir_unit_exponent : Fd := ⟨2, 2, (.cons (.ite (.cmp .eq (.idx (.var 1) (.int 0)) (.int 0)) (.cons (.ret (.fld (.var 0) 1)) .nil) .nil) (.cons (.ret (.bi .max (.cons (.fld (.var 0) 1) (.cons (.bin .sub (.bin .add (.call 29 (.cons (.var 1) .nil) []) (.int 1)) (.fld (.var 0) 0)) .nil)))) .nil))⟩
def ir_is_far : Fd := ⟨2, 2, (.cons (.ret (.not (.call 27 (.cons (.call 26 (.cons (.var 1) .nil) []) (.cons (.call 28 (.cons (.bin .add (.fld (.var 0) 2) (.fld (.var 0) 0)) .nil) []) .nil)) []))) .nil)⟩
end FF

namespace FF
def ir_is_integer : Fd := ⟨1, 1, (.cons (.ret (.ands (.cons (.isin (.var 0) .int) (.cons (.not (.isin (.var 0) .bool)) .nil)))) .nil)⟩
def ir_floors : Fd := ⟨4, 6, (.cons (.set 4 (.int 0)) (.cons (.whl (.cmp .gt (.var 0) (.int 0)) (.cons (.set 4 (.bin .add (.bin .add (.var 4) (.bin .mul (.bin .fdiv (.bin .mul (.var 0) (.bin .sub (.var 0) (.int 1))) (.int 2)) (.bin .fdiv (.var 1) (.var 3)))) (.bin .mul (.var 0) (.bin .fdiv (.var 2) (.var 3))))) (.cons (.setP 1 2 (.bin .mod (.var 1) (.var 3)) (.bin .mod (.var 2) (.var 3))) (.cons (.set 5 (.bin .add (.bin .mul (.var 1) (.var 0)) (.var 2))) (.cons (.setT (.cons (.name 0) (.cons (.name 2) (.cons (.name 3) (.cons (.name 1) .nil)))) (.tup (.cons (.bin .fdiv (.var 5) (.var 3)) (.cons (.bin .mod (.var 5) (.var 3)) (.cons (.var 1) (.cons (.var 3) .nil)))))) .nil))))) (.cons (.ret (.var 4)) .nil)))⟩
def ir_floors_of : Fd := ⟨5, 5, (.cons (.ret (.call 0 (.cons (.bin .add (.bin .sub (.var 1) (.var 0)) (.int 1)) (.cons (.var 2) (.cons (.bin .add (.bin .mul (.var 2) (.var 0)) (.var 3)) (.cons (.var 4) .nil)))) [])) .nil)⟩
def ir_check_range : Fd := ⟨3, 4, (.cons (.ite (.ors (.cons (.not (.isin (.var 0) .tup)) (.cons (.cmp .ne (.bi .len (.cons (.var 0) .nil)) (.int 3)) (.cons (.not (.bi .all (.cons (.comp (.name 3) (.seq (.var 0)) .nil (.call 1 (.cons (.var 3) .nil) []) [3]) .nil))) (.cons (.cmp .lt (.idx (.var 0) (.int 2)) (.int 1)) .nil))))) (.cons .never .nil) .nil) (.cons (.ite (.not (.call 1 (.cons (.var 1) .nil) [])) (.cons .never .nil) .nil) (.cons (.ite (.not (.call 1 (.cons (.var 2) .nil) [])) (.cons .never .nil) .nil) .nil)))⟩
def ir_floor_sum : Fd := ⟨3, 3, (.cons (.expr (.call 2 (.cons (.var 0) (.cons (.var 1) (.cons (.var 2) .nil))) [])) (.cons (.ret (.call 3 (.cons (.var 1) (.cons (.var 2) (.cons (.idx (.var 0) (.int 0)) (.cons (.idx (.var 0) (.int 1)) (.cons (.idx (.var 0) (.int 2)) .nil))))) [])) .nil))⟩
def ir_residue_sum : Fd := ⟨3, 7, (.cons (.expr (.call 2 (.cons (.var 0) (.cons (.var 1) (.cons (.var 2) .nil))) [])) (.cons (.setT (.cons (.name 3) (.cons (.name 4) (.cons (.name 5) .nil))) (.var 0)) (.cons (.set 6 (.bi .max (.cons (.int 0) (.cons (.bin .add (.bin .sub (.var 2) (.var 1)) (.int 1)) .nil)))) (.cons (.ret (.bin .sub (.bin .add (.bin .mul (.var 6) (.var 4)) (.bin .mul (.var 3) (.bin .fdiv (.bin .mul (.var 6) (.bin .add (.var 1) (.var 2))) (.int 2)))) (.bin .mul (.var 5) (.call 3 (.cons (.var 1) (.cons (.var 2) (.cons (.var 3) (.cons (.var 4) (.cons (.var 5) .nil))))) [])))) .nil))))⟩
end FF

namespace FF
theorem BodyOk.d {Γ : Gam} {f : Fd} {sp : Spec} (h : BodyOk Γ f sp) (mono : ∀ ds h Q Q' R R', (∀ d h, Q d h → Q' d h) → (∀ x h, R x h → R' x h) → sp ds h Q R → sp ds h Q' R') : BodyOkD Γ f sp := fun ds h0 Q R s => by
  have := h ds h0 (fun d h => ∃ h', AH.Sub h' h ∧ Q d h') (fun x h => ∃ h', AH.Sub h' h ∧ R x h') (mono _ _ _ _ _ _ (fun d h q => ⟨h, AH.Sub.refl _, q⟩) (fun x h q => ⟨h, AH.Sub.refl _, q⟩) s)
  exact this
/-! ### integers -/
def isInt : D → Option Bool
  | .int _ => some true
  | .bl _ => some false
  | .non => some false
  | .str _ => some false
  | .tup _ => some false
  | .lst _ => some false
  | .odd _ => some false
  | _ => none
def sp_is_integer : Spec := fun ds h Q _ => ∃ d b, ds = [d] ∧ isInt d = some b ∧ Q (.bl b) h
theorem b_is_integer {Γ : Gam} : BodyOk Γ ir_is_integer sp_is_integer := by
  rintro ds h Q R ⟨d, b, rfl, e, q⟩
  refine ⟨rfl, ?_⟩
  show wpSs Γ ir_is_integer.body [.val d] h _
  dsimp only [ir_is_integer, wpSs, wpS, wpE, wpEs, wpAnd, wpOr, wpI, wpF, wpT, wpH, Env.at, Env.put, Env.wipe, Env.nox, Slot.nox, wBin, binI, wCmp, cmpI, wBi, isTy, asL, asLT, bindT, bindTs, intsOf, boolsOf]
  cases d <;> first
    | (exfalso; cases e; done)
    | (have e' := Option.some.inj e; subst e'; exact q)
/-! ### sums of floors -/
def sp_floors : Spec := fun ds h Q _ => ∃ n a b m, ds = [.int n, .int a, .int b, .int m] ∧ 0 < m ∧ Sz 4000 n ∧ Sz 4000 a ∧ Sz 4000 b ∧ Sz 4000 m ∧ Q (.int (FL n.toNat a b m)) h
theorem sz1 : Sz 1 1 := by unfold Sz; decide
theorem bits2 : bitsI 2 ≤ 9000 := by decide
theorem b_floors {Γ : Gam} : BodyOk Γ ir_floors sp_floors := by
  rintro ds h Q R ⟨n, a, b, m, rfl, hm, sn, sa, sb, sm, q⟩
  refine ⟨rfl, ?_⟩
  show wpSs Γ ir_floors.body [.val (.int n), .val (.int a), .val (.int b), .val (.int m), .un, .un] h _
  dsimp only [ir_floors, wpSs, wpS, wpE, wpEs, wpAnd, wpOr, wpI, wpF, wpT, wpH, Env.at, Env.put, Env.wipe, Env.nox, Slot.nox, wBin, binI, wCmp, cmpI, wBi, isTy, asL, asLT, bindT, bindTs, intsOf, boolsOf]
  generalize hT : FL n.toNat a b m = T at q
  refine ⟨fun k σ h' => ∃ n a b m f x, σ = [.val (.int n), .val (.int a), .val (.int b), .val (.int m), .val (.int f), x] ∧ h' = h ∧ k = m.toNat ∧ (0 < n → 0 < m) ∧ 0 ≤ m ∧ Sz 4000 n ∧ Sz 4000 a ∧ Sz 4000 b ∧ Sz 4000 m ∧ f + FL n.toNat a b m = T,
    ⟨m.toNat, n, a, b, m, 0, .un, rfl, rfl, rfl, fun _ => hm, Int.le_of_lt hm, sn, sa, sb, sm, by rw [hT]; omega⟩, ?_⟩
  clear hT hm sn sa sb sm a b m n
  rintro k σ h' ⟨n, a, b, m, f, x, rfl, rfl, rfl, hm, hm0, sn, sa, sb, sm, tot⟩
  dsimp only [wpSs, wpS, wpE, wpEs, wpAnd, wpOr, wpI, wpF, wpT, wpH, Env.at, Env.put, Env.wipe, Env.nox, Slot.nox, wBin, binI, wCmp, cmpI, wBi, isTy, asL, asLT, bindT, bindTs, intsOf, boolsOf]
  by_cases c : 0 < n
  · rw [if_pos (decide_eq_true c)]
    have hm1 := hm c
    clear hm
    have hm := hm1
    have m0 : m ≠ 0 := by omega
    have bm : bitsI m ≤ 9000 := Nat.le_trans (bitsI_le sm) (by decide)
    rw [fdiv_pos hm, fdiv_pos (show (0 : Int) < 2 by decide), fmod_pos hm, fmod_pos hm, fdiv_pos hm, fdiv_pos hm, fmod_pos hm]
    have s1 : Sz 4001 (n - 1) := sn.sub (sz1.mono (by decide))
    have s2 : Sz 8001 (n * (n - 1) / 2) := (sn.mul s1).div (by decide)
    refine ⟨mul_ok sn s1 (by decide), ⟨by decide, bits2⟩, ⟨m0, bm⟩, mul_ok s2 (sa.div hm) (by decide), ⟨m0, bm⟩, mul_ok sn (sb.div hm) (by decide), m0, m0, mul_ok (sm.mod hm) sn (by decide), ⟨m0, bm⟩, m0, (show 4 ≤ SL by decide), ?_⟩
    have ha := Int.emod_nonneg a m0
    have ha' := Int.emod_lt_of_pos a hm
    have hb := Int.emod_nonneg b m0
    have hb' := Int.emod_lt_of_pos b hm
    have ht : 0 ≤ a % m * n + b % m := Int.add_nonneg (Int.mul_nonneg ha (Int.le_of_lt c)) hb
    have hq : (a % m * n + b % m) / m ≤ n := by
      have : a % m * n ≤ (m - 1) * n := Int.mul_le_mul_of_nonneg_right (by omega) (by omega)
      have e2 : (m - 1) * n = m * n - n := by rw [Int.sub_mul, Int.one_mul]
      have : a % m * n + b % m < (n + 1) * m := by rw [Int.add_mul, Int.one_mul, Int.mul_comm n m]; omega
      have := Int.ediv_lt_of_lt_mul hm this
      omega
    have hq0 := Int.ediv_nonneg ht (Int.le_of_lt hm)
    refine ⟨(a % m).toNat, by omega, _, _, _, _, _, _, rfl, rfl, rfl, fun z => ?_, ha, ?_, sm, sm.mod hm, sm.mod hm, ?_⟩
    · have ne : a % m ≠ 0 := fun e => by
        rw [e] at z
        have : (0 * n + b % m) / m = 0 := Int.ediv_eq_zero_of_lt (by omega) (by omega)
        omega
      omega
    · unfold Sz at *; omega
    · obtain ⟨N, rfl⟩ := Int.eq_ofNat_of_zero_le (Int.le_of_lt c)
      rw [Int.toNat_natCast] at tot
      rw [FL_red hm, FL_turn hm ha ha' hb hb'] at tot
      omega
  · rw [if_neg (by simpa using c)]
    have : n.toNat = 0 := by omega
    rw [this] at tot
    have : f = T := by
      have z : FL 0 a b m = 0 := rfl
      omega
    rw [this]
    exact q

def FR (first last a b m : Int) : Int := FL (last - first + 1).toNat a (a * first + b) m
def sp_floors_of : Spec := fun ds h Q _ => ∃ u v a b m, ds = [.int u, .int v, .int a, .int b, .int m] ∧ 0 < m ∧ Sz 1900 u ∧ Sz 1900 v ∧ Sz 1900 a ∧ Sz 1900 b ∧ Sz 1900 m ∧ Q (.int (FR u v a b m)) h
theorem b_floors_of {Γ : Gam} (h0 : Γ.fn 0 = sp_floors) : BodyOk Γ ir_floors_of sp_floors_of := by
  rintro ds h Q R ⟨u, v, a, b, m, rfl, hm, su, sv, sa, sb, sm, q⟩
  refine ⟨rfl, ?_⟩
  show wpSs Γ ir_floors_of.body [.val (.int u), .val (.int v), .val (.int a), .val (.int b), .val (.int m)] h _
  dsimp only [ir_floors_of, wpSs, wpS, wpE, wpEs, wpAnd, wpOr, wpI, wpF, wpT, wpH, Env.at, Env.put, Env.wipe, Env.nox, Slot.nox, wBin, binI, wCmp, cmpI, wBi, isTy, asL, asLT, bindT, bindTs, intsOf, boolsOf]
  rw [h0]
  refine ⟨mul_ok sa su (by decide), _, _, _, _, rfl, hm, ((sv.sub su).add (sz1.mono (by decide))).mono (by decide), sa.mono (by decide), ((sa.mul su).add (sb.mono (by decide))).mono (by decide), sm.mono (by decide), q⟩
/-! ### ranges -/
theorem loopC_map {step : D → AH → (Option D → AH → Prop) → Prop} {g : D → D} {h : AH} : ∀ {ds acc : List D} {K : List D → AH → Prop}, (∀ d ∈ ds, ∀ K : Option D → AH → Prop, K (some (g d)) h → step d h K) → acc.length + ds.length ≤ SL → K (acc ++ ds.map g) h → loopC step ds acc h K
  | [], acc, K, _, _, q => by
    show K acc h
    simpa using q
  | d :: r, acc, K, hs, hl, q => by
    refine hs d List.mem_cons_self _ ⟨?_, ?_⟩
    · rw [List.length_cons] at hl; omega
    · refine loopC_map (g := g) (fun d hd => hs d (List.mem_cons_of_mem _ hd)) ?_ ?_
      · rw [List.length_append, List.length_cons] at *; simp at *; omega
      · simpa using q
theorem boolsOf_map {l : List Bool} : boolsOf (l.map .bl) = some l := by
  induction l with
  | nil => rfl
  | cons b r ih =>
    show (match boolsOf (r.map .bl) with | some l => some (b :: l) | none => none) = _
    rw [ih]
theorem intsOf_map {l : List Int} : intsOf (l.map .int) = some l := by
  induction l with
  | nil => rfl
  | cons b r ih =>
    show (match intsOf (r.map .int) with | some l => some (b :: l) | none => none) = _
    rw [ih]
/-- a right line and right integers: nothing is raised -/
def sp_check_range : Spec := fun ds h Q _ => ∃ a b m u v, ds = [.tup [.int a, .int b, .int m], .int u, .int v] ∧ 0 < m ∧ Q .non h
theorem b_check_range {Γ : Gam} (h1 : Γ.fn 1 = sp_is_integer) : BodyOk Γ ir_check_range sp_check_range := by
  rintro ds h Q R ⟨a, b, m, u, v, rfl, hm, q⟩
  refine ⟨rfl, ?_⟩
  show wpSs Γ ir_check_range.body [.val (.tup [.int a, .int b, .int m]), .val (.int u), .val (.int v), .un] h _
  dsimp only [ir_check_range, wpSs, wpS, wpE, wpEs, wpAnd, wpOr, wpI, wpF, wpT, wpH, Env.at, Env.put, Env.wipe, Env.nox, Slot.nox, wBin, binI, wCmp, cmpI, wBi, isTy, asL, asLT, bindT, bindTs, intsOf, boolsOf]
  rw [h1]
  have e1 : ∀ (l : List D) , D.pln 60 (.int (l.length : Nat)) = true := fun _ => rfl
  have e3 : D.eqb (.int ((([D.int a, D.int b, D.int m] : List D).length : Nat) : Int)) (.int 3) = true := rfl
  refine ⟨⟨rfl, rfl⟩, ?_⟩
  have e4 : (!D.eqb (.int ((([D.int a, D.int b, D.int m] : List D).length : Nat) : Int)) (.int 3)) = false := rfl
  refine loopC_map (g := fun _ => .bl true) (fun d hd K k => ?_) (show 0 + 3 ≤ SL by decide) ?_
  · have hi : isInt d = some true := by
      rcases List.mem_cons.mp hd with e | hd
      · subst e; rfl
      · rcases List.mem_cons.mp hd with e | hd
        · subst e; rfl
        · rcases List.mem_cons.mp hd with e | hd
          · subst e; rfl
          · cases hd
    exact ⟨d, true, rfl, hi, k⟩
  · have lt : decide (m < 1) = false := by simp; omega
    show (if decide (m < 1) = true then False else _)
    rw [lt]
    refine ⟨_, true, rfl, rfl, ?_⟩
    exact ⟨_, true, rfl, rfl, q⟩
def sp_floor_sum : Spec := fun ds h Q _ => ∃ a b m u v, ds = [.tup [.int a, .int b, .int m], .int u, .int v] ∧ 0 < m ∧ Sz 1900 u ∧ Sz 1900 v ∧ Sz 1900 a ∧ Sz 1900 b ∧ Sz 1900 m ∧ Q (.int (FR u v a b m)) h
theorem b_floor_sum {Γ : Gam} (h2 : Γ.fn 2 = sp_check_range) (h3 : Γ.fn 3 = sp_floors_of) : BodyOk Γ ir_floor_sum sp_floor_sum := by
  rintro ds h Q R ⟨a, b, m, u, v, rfl, hm, su, sv, sa, sb, sm, q⟩
  refine ⟨rfl, ?_⟩
  show wpSs Γ ir_floor_sum.body [.val (.tup [.int a, .int b, .int m]), .val (.int u), .val (.int v)] h _
  dsimp only [ir_floor_sum, wpSs, wpS, wpE, wpEs, wpAnd, wpOr, wpI, wpF, wpT, wpH, Env.at, Env.put, Env.wipe, Env.nox, Slot.nox, wBin, binI, wCmp, cmpI, wBi, isTy, asL, asLT, bindT, bindTs, intsOf, boolsOf]
  rw [h2, h3]
  refine ⟨a, b, m, u, v, rfl, hm, ?_⟩
  exact ⟨u, v, a, b, m, rfl, hm, su, sv, sa, sb, sm, q⟩
def RR0 (first last a b m : Int) : Int := sumI (last - first + 1).toNat fun i => (a * (first + i) + b) % m
theorem RR0_eq {u v a b m : Int} (hm : 0 < m) : max 0 (v - u + 1) * b + a * (max 0 (v - u + 1) * (u + v) / 2) - m * FR u v a b m = RR0 u v a b m := by
  unfold RR0 FR FL
  have e : ∀ i : Nat, (a * (u + i) + b) % m = (a * (i : Int) + (a * u + b)) - m * ((a * i + (a * u + b)) / m) := fun i => by
    have h1 := Int.ediv_mul_add_emod (a * i + (a * u + b)) m
    have : a * (u + i) + b = a * i + (a * u + b) := by rw [Int.mul_add]; omega
    rw [this, Int.mul_comm m]; omega
  generalize hk : (v - u + 1).toNat = k
  have e2 : max 0 (v - u + 1) = (k : Int) := by omega
  rw [e2, sumI_congr fun i _ => e i]
  have e3 : ∀ i : Nat, (a * (i : Int) + (a * u + b)) - m * ((a * i + (a * u + b)) / m) = (a * (i : Int) + (a * u + b)) + (-m) * ((a * i + (a * u + b)) / m) := fun i => by rw [Int.neg_mul]; omega
  rw [sumI_congr fun i _ => e3 i, sumI_add, sumI_mul, sumI_add, sumI_mul, sumI_const, Int.neg_mul]
  have s := sumI_id (n := k)
  have key : (k : Int) * (u + v) / 2 = sumI k (fun i => (i : Int)) + k * u := by
    have : (k : Int) * (u + v) = 2 * (sumI k (fun i => (i : Int)) + k * u) := by
      rw [Int.mul_add 2, s]
      by_cases c : 0 ≤ v - u + 1
      · have : v = u + (k : Int) - 1 := by omega
        rw [this]
        rw [Int.mul_add, Int.mul_sub, Int.mul_sub, Int.mul_add, ← Int.mul_assoc, Int.mul_comm 2 (k : Int)]
        have : (k : Int) * 2 * u = k * u + k * u := by rw [Int.mul_comm (k : Int) 2, Int.mul_assoc]; omega
        rw [this]; omega
      · have : k = 0 := by omega
        subst this
        simp
    rw [this]
    exact Int.mul_ediv_cancel_left _ (by decide)
  rw [key, Int.mul_add]
  have ee : sumI k Nat.cast = sumI k (fun i => (i : Int)) := rfl
  try rw [ee]
  have : (k : Int) * (a * u + b) = k * b + a * (k * u) := by
    rw [Int.mul_add, ← Int.mul_assoc, Int.mul_comm (k : Int) a, Int.mul_assoc]; omega
  rw [this]; omega
def sp_residue_sum : Spec := fun ds h Q _ => ∃ a b m u v, ds = [.tup [.int a, .int b, .int m], .int u, .int v] ∧ 0 < m ∧ Sz 1900 u ∧ Sz 1900 v ∧ Sz 1900 a ∧ Sz 1900 b ∧ Sz 1900 m ∧ (∀ h', h' = h → Q (.int (RR0 u v a b m)) h')
theorem sz_FR {u v a b m : Int} (hm : 0 < m) (su : Sz 1900 u) (sv : Sz 1900 v) (sa : Sz 1900 a) (sb : Sz 1900 b) (sm : Sz 1900 m) : Sz 9000 (FR u v a b m) := by
  have e := RR0_eq (u := u) (v := v) (a := a) (b := b) hm
  have hr : (RR0 u v a b m).natAbs < 2 ^ 3900 := by
    have key : ∀ k : Nat, 0 ≤ sumI k (fun i => (a * (u + i) + b) % m) ∧ sumI k (fun i => (a * (u + i) + b) % m) ≤ k * m := by
      intro k
      induction k with
      | zero => exact ⟨Int.le_refl _, by show (0 : Int) ≤ _; simp⟩
      | succ k ih =>
        have h1 := Int.emod_nonneg (a * (u + k) + b) (show m ≠ 0 by omega)
        have h2 := Int.emod_lt_of_pos (a * (u + k) + b) hm
        have : ((k + 1 : Nat) : Int) * m = k * m + m := by
          have : ((k + 1 : Nat) : Int) = k + 1 := by omega
          rw [this, Int.add_mul, Int.one_mul]
        refine ⟨?_, ?_⟩
        · show 0 ≤ sumI k (fun i => (a * (u + i) + b) % m) + (a * (u + k) + b) % m
          omega
        · show sumI k (fun i => (a * (u + i) + b) % m) + (a * (u + k) + b) % m ≤ _
          rw [this]; omega
    obtain ⟨k1, k2⟩ := key (v - u + 1).toNat
    have s1 : Sz 1902 (((v - u + 1).toNat : Int)) := by
      have := (sv.sub su).add (sz1.mono (show 1 ≤ 1901 by decide))
      unfold Sz at *; omega
    have s2 := s1.mul sm
    have s3 := s2.mono (show 1902 + 1900 ≤ 3900 by decide)
    unfold Sz at s3
    unfold RR0
    have : (((v - u + 1).toNat : Int) * m).natAbs = ((v - u + 1).toNat : Int) * m := by
      have : 0 ≤ ((v - u + 1).toNat : Int) * m := Int.mul_nonneg (Int.natCast_nonneg _) (Int.le_of_lt hm)
      omega
    omega
  have sk : Sz 1902 (max 0 (v - u + 1)) := by
    have := (sv.sub su).add (sz1.mono (show 1 ≤ 1901 by decide))
    unfold Sz at *; omega
  have s1 : Sz 8000 (max 0 (v - u + 1) * b + a * (max 0 (v - u + 1) * (u + v) / 2)) :=
    (((sk.mul sb).mono (show _ ≤ 7000 by decide)).add ((sa.mul ((sk.mul (su.add sv)).div (by decide))).mono (show _ ≤ 7000 by decide))).mono (by decide)
  have s2 : Sz 8001 (m * FR u v a b m) := by
    have : m * FR u v a b m = (max 0 (v - u + 1) * b + a * (max 0 (v - u + 1) * (u + v) / 2)) - RR0 u v a b m := by omega
    rw [this]
    exact s1.sub (Sz.mono hr (by decide))
  have : (FR u v a b m).natAbs ≤ (m * FR u v a b m).natAbs := by
    rw [Int.natAbs_mul]
    exact Nat.le_mul_of_pos_left _ (by omega)
  exact Sz.mono (Nat.lt_of_le_of_lt this s2) (by decide)
theorem b_residue_sum {Γ : Gam} (h2 : Γ.fn 2 = sp_check_range) (h3 : Γ.fn 3 = sp_floors_of) : BodyOk Γ ir_residue_sum sp_residue_sum := by
  rintro ds h Q R ⟨a, b, m, u, v, rfl, hm, su, sv, sa, sb, sm, q⟩
  refine ⟨rfl, ?_⟩
  show wpSs Γ ir_residue_sum.body [.val (.tup [.int a, .int b, .int m]), .val (.int u), .val (.int v), .un, .un, .un, .un] h _
  dsimp only [ir_residue_sum, wpSs, wpS, wpE, wpEs, wpAnd, wpOr, wpI, wpF, wpT, wpH, Env.at, Env.put, Env.wipe, Env.nox, Slot.nox, wBin, binI, wCmp, cmpI, wBi, isTy, asL, asLT, bindT, bindTs, intsOf, boolsOf]
  rw [h2, h3]
  refine ⟨a, b, m, u, v, rfl, hm, ?_⟩
  have sk : Sz 1902 (max 0 (v - u + 1)) := by
    have := (sv.sub su).add (sz1.mono (show 1 ≤ 1901 by decide))
    unfold Sz at *; omega
  have s5 := (sk.mul (su.add sv)).div (show (0 : Int) < 2 by decide)
  rw [fdiv_pos (show (0 : Int) < 2 by decide)]
  refine ⟨mul_ok sk sb (by decide), mul_ok sk (su.add sv) (by decide), ⟨by decide, bits2⟩, mul_ok sa s5 (by decide), u, v, a, b, m, rfl, hm, su, sv, sa, sb, sm, mul_ok sm (sz_FR hm su sv sa sb sm) (by decide), ?_⟩
  rw [RR0_eq hm]
  exact q h rfl
theorem m_is_integer : ∀ ds h Q Q' R R', (∀ d h, Q d h → Q' d h) → (∀ x h, R x h → R' x h) → sp_is_integer ds h Q R → sp_is_integer ds h Q' R' := by
  rintro ds h Q Q' R R' k _ ⟨a1, a2, a3, a4, q⟩
  exact ⟨a1, a2, a3, a4, k _ _ q⟩
theorem m_floors : ∀ ds h Q Q' R R', (∀ d h, Q d h → Q' d h) → (∀ x h, R x h → R' x h) → sp_floors ds h Q R → sp_floors ds h Q' R' := by
  rintro ds h Q Q' R R' k _ ⟨a1, a2, a3, a4, a5, a6, a7, a8, a9, a10, q⟩
  exact ⟨a1, a2, a3, a4, a5, a6, a7, a8, a9, a10, k _ _ q⟩
theorem m_floors_of : ∀ ds h Q Q' R R', (∀ d h, Q d h → Q' d h) → (∀ x h, R x h → R' x h) → sp_floors_of ds h Q R → sp_floors_of ds h Q' R' := by
  rintro ds h Q Q' R R' k _ ⟨a1, a2, a3, a4, a5, a6, a7, a8, a9, a10, a11, a12, q⟩
  exact ⟨a1, a2, a3, a4, a5, a6, a7, a8, a9, a10, a11, a12, k _ _ q⟩
theorem m_check_range : ∀ ds h Q Q' R R', (∀ d h, Q d h → Q' d h) → (∀ x h, R x h → R' x h) → sp_check_range ds h Q R → sp_check_range ds h Q' R' := by
  rintro ds h Q Q' R R' k _ ⟨a1, a2, a3, a4, a5, a6, a7, q⟩
  exact ⟨a1, a2, a3, a4, a5, a6, a7, k _ _ q⟩
theorem m_floor_sum : ∀ ds h Q Q' R R', (∀ d h, Q d h → Q' d h) → (∀ x h, R x h → R' x h) → sp_floor_sum ds h Q R → sp_floor_sum ds h Q' R' := by
  rintro ds h Q Q' R R' k _ ⟨a1, a2, a3, a4, a5, a6, a7, a8, a9, a10, a11, a12, q⟩
  exact ⟨a1, a2, a3, a4, a5, a6, a7, a8, a9, a10, a11, a12, k _ _ q⟩
theorem m_residue_sum : ∀ ds h Q Q' R R', (∀ d h, Q d h → Q' d h) → (∀ x h, R x h → R' x h) → sp_residue_sum ds h Q R → sp_residue_sum ds h Q' R' := by
  rintro ds h Q Q' R R' k _ ⟨a1, a2, a3, a4, a5, a6, a7, a8, a9, a10, a11, a12, q⟩
  exact ⟨a1, a2, a3, a4, a5, a6, a7, a8, a9, a10, a11, a12, fun h' e => k _ _ (q h' e)⟩
end FF

namespace FF
def ir_l_well : Fd := ⟨1, 1, (.cons (.ret (.refl (.cons (.bin .mul (.var 0) (.bi .int (.cons (.cmp .ge (.var 0) (.bin .pow (.int 10) (.int 18))) .nil))) (.cons (.bin .mod (.bi .int (.cons (.var 0) .nil)) (.int 2147483629)) (.cons (.int 0) .nil))))) .nil)⟩
def ir_l_draw : Fd := ⟨2, 4, (.cons (.ite (.cmp .gt (.idx (.var 0) (.int 0)) (.int 0)) (.cons (.set 2 (.bin .mod (.bi .int (.cons (.idx (.var 0) (.int 0)) .nil)) (.var 1))) (.cons (.setIdx (.var 0) (.int 0) (.bin .fdiv (.idx (.var 0) (.int 0)) (.var 1))) (.cons (.ret (.var 2)) .nil))) .nil) (.cons (.setIdx (.var 0) (.int 2) (.bin .add (.idx (.var 0) (.int 2)) (.int 1))) (.cons (.set 3 (.bin .mod (.bi .int (.cons (.bin .pow (.bin .add (.bin .add (.idx (.var 0) (.int 1)) (.bin .mul (.int 61001) (.idx (.var 0) (.int 2)))) (.int 19)) (.int 3)) .nil)) (.int 2147483647))) (.cons (.set 3 (.bin .mod (.bi .int (.cons (.bin .mul (.bin .add (.var 3) (.idx (.var 0) (.int 2))) (.bin .add (.bin .fdiv (.var 3) (.int 1013)) (.int 70001))) .nil)) (.int 2147483587))) (.cons (.ret (.bin .mod (.bi .int (.cons (.bin .fdiv (.bin .mod (.bi .int (.cons (.bin .mul (.var 3) (.bin .add (.bin .fdiv (.var 3) (.int 2011)) (.int 40093))) .nil)) (.int 2147483563)) (.int 5)) .nil)) (.var 1))) .nil)))))⟩
def ir_l_pick : Fd := ⟨2, 2, (.cons (.ret (.idx (.var 1) (.call 1000 (.cons (.var 0) (.cons (.bi .len (.cons (.var 1) .nil)) .nil)) []))) .nil)⟩
def ir_l_script : Fd := ⟨2, 2, (.cons (.ret (.bin .add (.slTo (.var 0) (.var 1)) (.lst (.cons (.int 0) .nil)))) .nil)⟩
end FF

namespace FF
/-- a source of digits at a, drawn from at most k times -/
def Wel (k : Nat) (h : AH) (a : Nat) : Prop := ∃ w0 w1 w2, h a = some (.lst [.int w0, .int w1, .int w2]) ∧ 0 ≤ w1 ∧ w1 < 2147483648 ∧ 0 ≤ w2 ∧ w2 ≤ (k : Int)
theorem Wel.mono {j k : Nat} {h : AH} {a : Nat} (w : Wel j h a) (l : j ≤ k) : Wel k h a := by
  obtain ⟨w0, w1, w2, e, h1, h2, h3, h4⟩ := w
  exact ⟨w0, w1, w2, e, h1, h2, h3, by omega⟩
def Fr (a : Nat) (h h' : AH) : Prop := ∀ b, b ≠ a → h' b = h b
theorem Fr.refl {a : Nat} {h : AH} : Fr a h h := fun _ _ => rfl
theorem Fr.trans {a : Nat} {h h1 h2 : AH} (x : Fr a h h1) (y : Fr a h1 h2) : Fr a h h2 := fun b n => (y b n).trans (x b n)
def sp_draw : Spec := fun ds h Q _ => ∃ a many k, ds = [.ref a, .int many] ∧ 0 < many ∧ bitsI many ≤ 9000 ∧ Wel k h a ∧ k < 1073741824 ∧ ∀ d h', 0 ≤ d → d < many → Wel (k + 1) h' a → Fr a h h' → Q (.int d) h'
theorem mul_small {i j : Int} (h : Sz 64 i) : mulOk i j := .inr (.inl (bitsI_le h))
theorem mul_small2 {i j : Int} (h : Sz 64 j) : mulOk i j := .inr (.inr (bitsI_le h))
theorem b_draw {Γ : Gam} : BodyOk Γ ir_l_draw sp_draw := by
  rintro ds h Q R ⟨a, many, k, rfl, hm, bm, ⟨w0, w1, w2, e, h1, h2, h3, h4⟩, hk, q⟩
  refine ⟨rfl, ?_⟩
  show wpSs Γ ir_l_draw.body [.val (.ref a), .val (.int many), .un, .un] h _
  dsimp only [ir_l_draw, wpSs, wpS, wpE, wpEs, wpAnd, wpOr, wpI, wpF, wpT, wpH, Env.at, Env.put, Env.wipe, Env.nox, Slot.nox, wBin, binI, wCmp, cmpI, wBi, isTy, asL, asLT, bindT, bindTs, intsOf, boolsOf]
  have m0 : many ≠ 0 := by omega
  simp only [e, wpSs, wpS, wpE, wpEs, wpAnd, wpOr, wpI, wpF, wpT, wpH, Env.at, Env.put, Env.wipe, Env.nox, Slot.nox, wBin, binI, wCmp, cmpI, wBi, isTy, asL, asLT, bindT, bindTs, intsOf, boolsOf, ixL0, ixL1, ixL2, List.getElem?_cons_zero, List.getElem?_cons_succ, List.nil_append, List.cons_append, List.append_nil, if_true, ite_true, AH.put_same, List.set_cons_zero, List.set_cons_succ]
  by_cases c : 0 < w0
  · rw [if_pos (decide_eq_true c)]
    rw [fmod_pos hm, fdiv_pos hm]
    exact ⟨m0, ⟨m0, bm⟩, q _ _ (Int.emod_nonneg _ m0) (Int.emod_lt_of_pos _ hm) ⟨_, _, _, AH.put_same, h1, h2, h3, by omega⟩ fun b n => AH.put_ne n⟩
  · rw [if_neg (by simpa using c)]
    have p1 : (0 : Int) < 2147483647 := by decide
    have p2 : (0 : Int) < 2147483587 := by decide
    have p3 : (0 : Int) < 2147483563 := by decide
    rw [fmod_pos p1, fmod_pos p2, fmod_pos p3, fmod_pos hm, fdiv_pos (show (0 : Int) < 1013 by decide), fdiv_pos (show (0 : Int) < 2011 by decide), fdiv_pos (show (0 : Int) < 5 by decide)]
    have t1 := Int.emod_nonneg ((w1 + 61001 * (w2 + 1) + 19) ^ (3 : Int).toNat) (show (2147483647 : Int) ≠ 0 by decide)
    have t2 := Int.emod_lt_of_pos ((w1 + 61001 * (w2 + 1) + 19) ^ (3 : Int).toNat) p1
    generalize (w1 + 61001 * (w2 + 1) + 19) ^ (3 : Int).toNat % 2147483647 = x at *
    have t3 := Int.emod_nonneg ((x + (w2 + 1)) * (x / 1013 + 70001)) (show (2147483587 : Int) ≠ 0 by decide)
    have t4 := Int.emod_lt_of_pos ((x + (w2 + 1)) * (x / 1013 + 70001)) p2
    generalize (x + (w2 + 1)) * (x / 1013 + 70001) % 2147483587 = y at *
    refine ⟨mul_small (by unfold Sz; decide), ⟨by decide, by decide, by omega⟩, by decide, ⟨by decide, by decide⟩, mul_small (by unfold Sz; omega), by decide, ⟨by decide, by decide⟩, mul_small (by unfold Sz; omega), by decide, ⟨by decide, by decide⟩, m0, ?_⟩
    exact q _ _ (Int.emod_nonneg _ m0) (Int.emod_lt_of_pos _ hm) ⟨_, _, _, AH.put_same, h1, h2, by omega, by omega⟩ fun b n => AH.put_ne n
def sp_well : Spec := fun ds h Q _ => ∃ c, ds = [.int c] ∧ ∀ a h', h a = none → Wel 0 h' a → Fr a h h' → Q (.ref a) h'
theorem b_well {Γ : Gam} : BodyOk Γ ir_l_well sp_well := by
  rintro ds h Q R ⟨c, rfl, q⟩
  refine ⟨rfl, ?_⟩
  show wpSs Γ ir_l_well.body [.val (.int c)] h _
  dsimp only [ir_l_well, wpSs, wpS, wpE, wpEs, wpAnd, wpOr, wpI, wpF, wpT, wpH, Env.at, Env.put, Env.wipe, Env.nox, Slot.nox, wBin, binI, wCmp, cmpI, wBi, isTy, asL, asLT, bindT, bindTs, intsOf, boolsOf]
  have p1 : (0 : Int) < 2147483629 := by decide
  rw [fmod_pos p1]
  refine ⟨⟨by decide, by decide, by decide⟩, mul_small2 ?_, by decide, (show 3 ≤ SL by decide), fun a ha => q a _ ha ⟨_, _, _, AH.put_same, Int.emod_nonneg _ (by decide), ?_, Int.le_refl _, Int.le_refl _⟩ fun b n => AH.put_ne n⟩
  · unfold Sz
    split <;> decide
  · have := Int.emod_lt_of_pos c p1
    omega
/-- some: a list of integers -/
def sp_pick : Spec := fun ds h Q _ => ∃ (a : Nat) (l : List Int) (k : Nat), ds = [.ref a, .lst (l.map .int)] ∧ 0 < l.length ∧ l.length < 1000 ∧ Wel k h a ∧ k < 1073741824 ∧ ∀ d h', d ∈ l → Wel (k + 1) h' a → Fr a h h' → Q (.int d) h'
theorem ixP_ok {n : Nat} {i : Int} (h0 : 0 ≤ i) (h1 : i < n) : ixP n i = some i.toNat := by
  unfold ixP
  rw [if_pos h0, if_pos h1]
theorem b_pick {Γ : Gam} (hd : Γ.fn 1000 = sp_draw) : BodyOk Γ ir_l_pick sp_pick := by
  rintro ds h Q R ⟨a, l, k, rfl, hl, hl2, hw, hk, q⟩
  refine ⟨rfl, ?_⟩
  show wpSs Γ ir_l_pick.body [.val (.ref a), .val (.lst (l.map .int))] h _
  dsimp only [ir_l_pick, wpSs, wpS, wpE, wpEs, wpAnd, wpOr, wpI, wpF, wpT, wpH, Env.at, Env.put, Env.wipe, Env.nox, Slot.nox, wBin, binI, wCmp, cmpI, wBi, isTy, asL, asLT, bindT, bindTs, intsOf, boolsOf]
  rw [hd]
  have hlen : (l.map D.int).length = l.length := List.length_map ..
  refine ⟨a, _, k, rfl, by rw [hlen]; omega, ?_, hw, hk, fun d h' d0 d1 w' fr => ?_⟩
  · rw [hlen]
    exact Nat.le_trans (bitsI_le (show Sz 10 (l.length : Int) by unfold Sz; omega)) (by decide)
  · dsimp only
    rw [ixP_ok d0 d1]
    have hi : d.toNat < l.length := by rw [hlen] at d1; omega
    have : (l.map D.int)[d.toNat]? = some (.int l[d.toNat]) := by
      rw [List.getElem?_map, List.getElem?_eq_getElem hi]; rfl
    show (match (l.map D.int)[d.toNat]? with | some d => Q d h' | none => False)
    rw [this]
    exact q _ h' (List.getElem_mem hi) w' fr
def sp_script : Spec := fun ds h Q _ => ∃ (l : List Int) (n : Int), ds = [.lst (l.map .int), .int n] ∧ l.length < 1000 ∧ 0 ≤ n ∧ n < 1000 ∧ ∀ r : List Int, r.length ≤ n + 1 → Q (.lst (r.map .int)) h
theorem b_script {Γ : Gam} : BodyOk Γ ir_l_script sp_script := by
  rintro ds h Q R ⟨l, n, rfl, hl, h0, h1, q⟩
  refine ⟨rfl, ?_⟩
  show wpSs Γ ir_l_script.body [.val (.lst (l.map .int)), .val (.int n)] h _
  dsimp only [ir_l_script, wpSs, wpS, wpE, wpEs, wpAnd, wpOr, wpI, wpF, wpT, wpH, Env.at, Env.put, Env.wipe, Env.nox, Slot.nox, wBin, binI, wCmp, cmpI, wBi, isTy, asL, asLT, bindT, bindTs, intsOf, boolsOf]
  have e : slP (l.map D.int).length n = min n.toNat l.length := by
    unfold slP
    rw [if_pos h0, List.length_map]
  rw [e]
  refine ⟨by decide, ?_, ?_⟩
  · rw [List.length_take, List.length_map]
    show _ + 1 ≤ SL
    have : SL = 16777216 := rfl
    omega
  · have e2 : (l.map D.int).take (min n.toNat l.length) ++ [.int 0] = ((l.take (min n.toNat l.length)) ++ [0]).map D.int := by
      rw [List.map_append, List.map_take]; rfl
    rw [e2]
    refine q _ ?_
    rw [List.length_append, List.length_take]
    show ((_ + 1 : Nat) : Int) ≤ _
    omega
theorem loopC_ints {step : D → AH → (Option D → AH → Prop) → Prop} {g : Int → Int} {h : AH} {l : List Int} {K : List D → AH → Prop} (hs : ∀ i ∈ l, ∀ K : Option D → AH → Prop, K (some (.int (g i))) h → step (.int i) h K) (hl : l.length ≤ SL) (q : K ((l.map g).map .int) h) : loopC step (l.map .int) [] h K := by
  refine loopC_map (g := fun d => match d with | .int i => .int (g i) | d => d) (fun d hd K k => ?_) (by rw [List.length_map]; show 0 + _ ≤ SL; omega) ?_
  · obtain ⟨i, hi, rfl⟩ := List.mem_map.mp hd
    exact hs i hi K k
  · rw [List.nil_append, List.map_map]
    rw [List.map_map] at q
    exact q
theorem rangeL_eq {a : Int} {n : Nat} : rangeL a n = ((List.range n).map fun i : Nat => a + (i : Int)).map D.int := by
  unfold rangeL
  rw [List.map_map]; rfl
theorem eqb_int {i j : Int} : D.eqb (.int i) (.int j) = (i == j) := rfl
theorem sum_map_range {f : Nat → Int} : ∀ {n : Nat}, ((List.range n).map f).sum = sumI n f
  | 0 => rfl
  | n + 1 => by
    rw [List.range_succ, List.map_append, List.sum_append, sum_map_range (n := n)]
    show sumI n f + (f n + 0) = sumI n f + f n
    omega
theorem eq_int {i j : Int} (e : i = j) : D.eqb (.int i) (.int j) = true := by subst e; exact beq_self_eq_true i
theorem pln_int {i : Int} : D.pln 60 (.int i) = true := rfl
theorem ok_int {i j : Int} : eqOk (.int i) (.int j) := ⟨rfl, rfl⟩
theorem ne_go {i j : Int} {A B : Prop} (e : i = j) (h : B) : eqOk (.int i) (.int j) ∧ if (!D.eqb (.int i) (.int j)) = true then A else B := by
  refine ⟨ok_int, ?_⟩
  rw [eq_int e]
  exact h
theorem loopC_none {n : Nat} {step : D → AH → (Option D → AH → Prop) → Prop} {I : Nat → AH → Prop} (hs : ∀ j d h K, j < n → I j h → (∀ h', I (j + 1) h' → K none h') → step d h K) : ∀ (ds : List D) {j : Nat} {h : AH} {K : List D → AH → Prop}, j + ds.length ≤ n → I j h → (∀ h', I (j + ds.length) h' → K [] h') → loopC step ds [] h K
  | [], j, h, K, _, i, k => k h i
  | d :: r, j, h, K, l, i, k => hs j d h _ (by rw [List.length_cons] at l; omega) i fun h' i' => loopC_none hs r (by rw [List.length_cons] at l; omega) i' fun h'' i'' => k h'' (by rw [List.length_cons, show j + (r.length + 1) = j + 1 + r.length by omega]; exact i'')
theorem m_draw : ∀ ds h Q Q' R R', (∀ d h, Q d h → Q' d h) → (∀ x h, R x h → R' x h) → sp_draw ds h Q R → sp_draw ds h Q' R' := by
  rintro ds h Q Q' R R' k _ ⟨a1, a2, a3, a4, a5, a6, a7, a8, q⟩
  exact ⟨a1, a2, a3, a4, a5, a6, a7, a8, fun d h' b1 b2 b3 b4 => k _ _ (q d h' b1 b2 b3 b4)⟩
theorem m_pick : ∀ ds h Q Q' R R', (∀ d h, Q d h → Q' d h) → (∀ x h, R x h → R' x h) → sp_pick ds h Q R → sp_pick ds h Q' R' := by
  rintro ds h Q Q' R R' k _ ⟨a1, a2, a3, a4, a5, a6, a7, a8, q⟩
  exact ⟨a1, a2, a3, a4, a5, a6, a7, a8, fun d h' b1 b2 b3 => k _ _ (q d h' b1 b2 b3)⟩
theorem m_script : ∀ ds h Q Q' R R', (∀ d h, Q d h → Q' d h) → (∀ x h, R x h → R' x h) → sp_script ds h Q R → sp_script ds h Q' R' := by
  rintro ds h Q Q' R R' k _ ⟨a1, a2, a3, a4, a5, a6, q⟩
  exact ⟨a1, a2, a3, a4, a5, a6, fun r b => k _ _ (q r b)⟩
theorem m_well : ∀ ds h Q Q' R R', (∀ d h, Q d h → Q' d h) → (∀ x h, R x h → R' x h) → sp_well ds h Q R → sp_well ds h Q' R' := by
  rintro ds h Q Q' R R' k _ ⟨a1, a2, q⟩
  exact ⟨a1, a2, fun a h' b1 b2 b3 => k _ _ (q a h' b1 b2 b3)⟩
end FF

namespace FF
def ir_is_between : Fd := ⟨3, 3, (.cons (.ret (.ands (.cons (.call 1 (.cons (.var 0) .nil) []) (.cons (.chain .le .le (.var 1) (.var 0) (.var 2)) .nil)))) .nil)⟩
def ir_check_between : Fd := ⟨4, 4, (.cons (.ite (.not (.call 6 (.cons (.var 1) (.cons (.var 2) (.cons (.var 3) .nil))) [])) (.cons .never .nil) .nil) .nil)⟩
def ir_count_of : Fd := ⟨7, 7, (.cons (.ite (.ors (.cons (.cmp .lt (.var 1) (.var 0)) (.cons (.cmp .lt (.var 6) (.var 5)) .nil))) (.cons (.ret (.int 0)) .nil) .nil) (.cons (.ret (.bin .sub (.call 3 (.cons (.var 0) (.cons (.var 1) (.cons (.var 2) (.cons (.bin .sub (.var 3) (.var 5)) (.cons (.var 4) .nil))))) []) (.call 3 (.cons (.var 0) (.cons (.var 1) (.cons (.var 2) (.cons (.bin .sub (.bin .sub (.var 3) (.var 6)) (.int 1)) (.cons (.var 4) .nil))))) []))) .nil))⟩
def ir_around : Fd := ⟨5, 5, (.cons (.ret (.tup (.cons (.tup (.cons (.var 0) (.cons (.bin .sub (.var 1) (.var 3)) (.cons (.var 2) .nil)))) (.cons (.bin .mod (.bin .sub (.var 4) (.var 3)) (.var 2)) .nil)))) .nil)⟩
def ir_hits_of : Fd := ⟨7, 9, (.cons (.setT (.cons (.name 7) (.cons (.name 8) .nil)) (.call 7 (.cons (.var 2) (.cons (.var 3) (.cons (.var 4) (.cons (.var 5) (.cons (.var 6) .nil))))) [])) (.cons (.ret (.call 8 (.cons (.var 0) (.cons (.var 1) (.cons (.idx (.var 7) (.int 0)) (.cons (.idx (.var 7) (.int 1)) (.cons (.var 4) (.cons (.int 0) (.cons (.var 8) .nil))))))) [])) .nil))⟩
def ir_nth_of : Fd := ⟨8, 12, (.cons (.setT (.cons (.name 8) (.cons (.name 9) .nil)) (.call 7 (.cons (.var 2) (.cons (.var 3) (.cons (.var 4) (.cons (.var 5) (.cons (.var 6) .nil))))) [])) (.cons (.set 10 (.var 0)) (.cons (.whl (.cmp .lt (.var 0) (.var 1)) (.cons (.set 11 (.bin .fdiv (.bin .add (.var 0) (.var 1)) (.int 2))) (.cons (.ite (.cmp .gt (.call 8 (.cons (.var 10) (.cons (.var 11) (.cons (.idx (.var 8) (.int 0)) (.cons (.idx (.var 8) (.int 1)) (.cons (.var 4) (.cons (.int 0) (.cons (.var 9) .nil))))))) []) (.var 7)) (.cons (.set 1 (.var 11)) .nil) (.cons (.set 0 (.bin .add (.var 11) (.int 1))) .nil)) .nil))) (.cons (.ret (.var 0)) .nil))))⟩
def ir_first_of : Fd := ⟨7, 7, (.cons (.ite (.cmp .eq (.call 9 (.cons (.var 0) (.cons (.var 1) (.cons (.var 2) (.cons (.var 3) (.cons (.var 4) (.cons (.var 5) (.cons (.var 6) .nil))))))) []) (.int 0)) (.cons (.ret .non) .nil) .nil) (.cons (.ret (.call 10 (.cons (.var 0) (.cons (.var 1) (.cons (.var 2) (.cons (.var 3) (.cons (.var 4) (.cons (.var 5) (.cons (.var 6) (.cons (.int 0) .nil)))))))) [])) .nil))⟩
def ir_check_residues : Fd := ⟨5, 5, (.cons (.expr (.call 2 (.cons (.var 0) (.cons (.var 1) (.cons (.var 2) .nil))) [])) (.cons (.expr (.call 11 (.cons (.str [108, 111, 119]) (.cons (.var 3) (.cons (.int 0) (.cons (.bin .sub (.idx (.var 0) (.int 2)) (.int 1)) .nil)))) [])) (.cons (.expr (.call 11 (.cons (.str [104, 105, 103, 104]) (.cons (.var 4) (.cons (.int 0) (.cons (.bin .sub (.idx (.var 0) (.int 2)) (.int 1)) .nil)))) [])) .nil)))⟩
def ir_hits : Fd := ⟨5, 5, (.cons (.expr (.call 12 (.cons (.var 0) (.cons (.var 1) (.cons (.var 2) (.cons (.var 3) (.cons (.var 4) .nil))))) [])) (.cons (.ret (.call 9 (.cons (.var 1) (.cons (.var 2) (.cons (.idx (.var 0) (.int 0)) (.cons (.idx (.var 0) (.int 1)) (.cons (.idx (.var 0) (.int 2)) (.cons (.var 3) (.cons (.var 4) .nil))))))) [])) .nil))⟩
def ir_first_hit : Fd := ⟨5, 5, (.cons (.expr (.call 12 (.cons (.var 0) (.cons (.var 1) (.cons (.var 2) (.cons (.var 3) (.cons (.var 4) .nil))))) [])) (.cons (.ret (.call 13 (.cons (.var 1) (.cons (.var 2) (.cons (.idx (.var 0) (.int 0)) (.cons (.idx (.var 0) (.int 1)) (.cons (.idx (.var 0) (.int 2)) (.cons (.var 3) (.cons (.var 4) .nil))))))) [])) .nil))⟩
def ir_last_hit : Fd := ⟨5, 6, (.cons (.set 5 (.call 14 (.cons (.var 0) (.cons (.var 1) (.cons (.var 2) (.cons (.var 3) (.cons (.var 4) .nil))))) [])) (.cons (.ite (.cmp .eq (.var 5) (.int 0)) (.cons (.ret .non) .nil) .nil) (.cons (.ret (.call 10 (.cons (.var 1) (.cons (.var 2) (.cons (.idx (.var 0) (.int 0)) (.cons (.idx (.var 0) (.int 1)) (.cons (.idx (.var 0) (.int 2)) (.cons (.var 3) (.cons (.var 4) (.cons (.bin .sub (.var 5) (.int 1)) .nil)))))))) [])) .nil)))⟩
def ir_hit_at : Fd := ⟨6, 6, (.cons (.expr (.call 11 (.cons (.str [106]) (.cons (.var 5) (.cons (.int 0) (.cons (.bin .sub (.call 14 (.cons (.var 0) (.cons (.var 1) (.cons (.var 2) (.cons (.var 3) (.cons (.var 4) .nil))))) []) (.int 1)) .nil)))) [])) (.cons (.ret (.call 10 (.cons (.var 1) (.cons (.var 2) (.cons (.idx (.var 0) (.int 0)) (.cons (.idx (.var 0) (.int 1)) (.cons (.idx (.var 0) (.int 2)) (.cons (.var 3) (.cons (.var 4) (.cons (.var 5) .nil)))))))) [])) .nil))⟩
end FF

namespace FF
/-- of the integers from u to v: those whose residue is k at the most -/
def CN (u v a b m k : Int) : Int := sumI (v - u + 1).toNat fun i => ind ((a * (u + i) + b) % m ≤ k)
theorem CN_none {u v a b m k : Int} (h : v < u) : CN u v a b m k = 0 := by
  unfold CN
  rw [show (v - u + 1).toNat = 0 by omega]; rfl
theorem ind01 (p : Prop) [Decidable p] : 0 ≤ ind p ∧ ind p ≤ 1 := by
  unfold ind
  split <;> omega
theorem CN_range {u v a b m k : Int} : 0 ≤ CN u v a b m k ∧ CN u v a b m k ≤ ((v - u + 1).toNat : Int) := by
  unfold CN
  generalize (v - u + 1).toNat = n
  induction n with
  | zero => exact ⟨Int.le_refl _, Int.le_refl _⟩
  | succ n ih =>
    have := ind01 ((a * (u + (n : Int)) + b) % m ≤ k)
    have e : sumI (n + 1) (fun i => ind ((a * (u + (i : Int)) + b) % m ≤ k)) = sumI n (fun i => ind ((a * (u + (i : Int)) + b) % m ≤ k)) + ind ((a * (u + (n : Int)) + b) % m ≤ k) := rfl
    rw [e]
    omega
theorem CN_last {u v a b m k : Int} (h : u ≤ v) : CN u v a b m k = CN u (v - 1) a b m k + ind ((a * v + b) % m ≤ k) := by
  unfold CN
  have e : (v - u + 1).toNat = (v - 1 - u + 1).toNat + 1 := by omega
  rw [e]
  have e2 : u + ((v - 1 - u + 1).toNat : Int) = v := by omega
  show _ + ind ((a * (u + ((v - 1 - u + 1).toNat : Int)) + b) % m ≤ k) = _
  rw [e2]
theorem floor_step {x m k : Int} (hm : 0 < m) (h0 : 0 ≤ k) (h1 : k < m) : x / m - (x - k - 1) / m = ind (x % m ≤ k) := by
  have d := Int.ediv_mul_add_emod x m
  have e0 := Int.emod_nonneg x (show m ≠ 0 by omega)
  have e1 := Int.emod_lt_of_pos x hm
  have : x - k - 1 = (x % m - k - 1) + m * (x / m) := by rw [Int.mul_comm]; omega
  rw [this, Int.add_mul_ediv_left _ _ (show m ≠ 0 by omega)]
  unfold ind
  by_cases c : x % m ≤ k
  · rw [if_pos c]
    have : (x % m - k - 1) / m = -1 := by
      have h2 : (x % m - k - 1) = (x % m - k - 1 + m) + m * (-1) := by omega
      rw [h2, Int.add_mul_ediv_left _ _ (show m ≠ 0 by omega), Int.ediv_eq_zero_of_lt (by omega) (by omega)]; rfl
    omega
  · have z : (x % m - k - 1) / m = 0 := Int.ediv_eq_zero_of_lt (by omega) (by omega)
    rw [if_neg c, z]; omega
theorem FR_cnt {u v a b m k : Int} (hm : 0 < m) (h0 : 0 ≤ k) (h1 : k < m) : FR u v a b m - FR u v a (b - k - 1) m = CN u v a b m k := by
  unfold FR FL CN
  generalize (v - u + 1).toNat = n
  induction n with
  | zero => rfl
  | succ n ih =>
    show (sumI n (fun i => (a * i + (a * u + b)) / m) + (a * n + (a * u + b)) / m) - (sumI n (fun i => (a * i + (a * u + (b - k - 1))) / m) + (a * n + (a * u + (b - k - 1))) / m) = sumI n (fun i => ind ((a * (u + (i : Int)) + b) % m ≤ k)) + ind ((a * (u + (n : Int)) + b) % m ≤ k)
    have s := floor_step (x := a * n + (a * u + b)) hm h0 h1
    have e1 : a * (n : Int) + (a * u + (b - k - 1)) = a * n + (a * u + b) - k - 1 := by omega
    have e2 : a * (u + (n : Int)) + b = a * n + (a * u + b) := by rw [Int.mul_add]; omega
    rw [e1, e2]
    omega
/-! ### readings -/
def sp_is_between : Spec := fun ds h Q _ => ∃ x l g, ds = [.int x, .int l, .int g] ∧ Q (.bl (decide (l ≤ x ∧ x ≤ g))) h
theorem b_is_between {Γ : Gam} (h1 : Γ.fn 1 = sp_is_integer) : BodyOk Γ ir_is_between sp_is_between := by
  rintro ds h Q R ⟨x, l, g, rfl, q⟩
  refine ⟨rfl, ?_⟩
  show wpSs Γ ir_is_between.body [.val (.int x), .val (.int l), .val (.int g)] h _
  simp only [ir_is_between, wpSs, wpS, wpE, wpEs, wpAnd, wpOr, wpI, wpF, wpT, wpH, Env.at, Env.put, Env.wipe, Env.nox, Slot.nox, wBin, binI, wCmp, cmpI, wBi, isTy, asL, asLT, bindT, bindTs, intsOf, boolsOf, ixL0, ixL1, ixL2, List.getElem?_cons_zero, List.getElem?_cons_succ, List.nil_append, List.cons_append, List.append_nil, if_true, ite_true, h1]
  refine ⟨_, true, rfl, rfl, ?_⟩
  simp only [wpSs, wpS, wpE, wpEs, wpAnd, wpOr, wpI, wpF, wpT, wpH, Env.at, Env.put, Env.wipe, Env.nox, Slot.nox, wBin, binI, wCmp, cmpI, wBi, isTy, asL, asLT, bindT, bindTs, intsOf, boolsOf, ixL0, ixL1, ixL2, List.getElem?_cons_zero, List.getElem?_cons_succ, List.nil_append, List.cons_append, List.append_nil, if_true, ite_true]
  by_cases c : l ≤ x
  · rw [if_pos (decide_eq_true c)]
    have : decide (x ≤ g) = decide (l ≤ x ∧ x ≤ g) := by simp [c]
    rw [this]; exact q
  · rw [if_neg (by simpa using c)]
    have : false = decide (l ≤ x ∧ x ≤ g) := by simp [c]
    rw [this]; exact q
def sp_check_between : Spec := fun ds h Q _ => ∃ n x l g, ds = [n, .int x, .int l, .int g] ∧ l ≤ x ∧ x ≤ g ∧ Q .non h
theorem b_check_between {Γ : Gam} (h6 : Γ.fn 6 = sp_is_between) : BodyOk Γ ir_check_between sp_check_between := by
  rintro ds h Q R ⟨n, x, l, g, rfl, h1, h2, q⟩
  refine ⟨rfl, ?_⟩
  show wpSs Γ ir_check_between.body [.val n, .val (.int x), .val (.int l), .val (.int g)] h _
  simp only [ir_check_between, wpSs, wpS, wpE, wpEs, wpAnd, wpOr, wpI, wpF, wpT, wpH, Env.at, Env.put, Env.wipe, Env.nox, Slot.nox, wBin, binI, wCmp, cmpI, wBi, isTy, asL, asLT, bindT, bindTs, intsOf, boolsOf, ixL0, ixL1, ixL2, List.getElem?_cons_zero, List.getElem?_cons_succ, List.nil_append, List.cons_append, List.append_nil, if_true, ite_true, h6]
  refine ⟨_, _, _, rfl, ?_⟩
  rw [decide_eq_true (And.intro h1 h2)]
  exact q
def sp_count_of : Spec := fun ds h Q _ => ∃ u v a b m l g, ds = [.int u, .int v, .int a, .int b, .int m, .int l, .int g] ∧ 0 < m ∧ -m ≤ g - l ∧ g - l < m ∧ Sz 1800 u ∧ Sz 1800 v ∧ Sz 1800 a ∧ Sz 1800 b ∧ Sz 1800 m ∧ Sz 1800 l ∧ Sz 1800 g ∧ Q (.int (CN u v a (b - l) m (g - l))) h
theorem b_count_of {Γ : Gam} (h3 : Γ.fn 3 = sp_floors_of) : BodyOk Γ ir_count_of sp_count_of := by
  rintro ds h Q R ⟨u, v, a, b, m, l, g, rfl, hm, h0, h1, su, sv, sa, sb, sm, sl, sg, q⟩
  refine ⟨rfl, ?_⟩
  show wpSs Γ ir_count_of.body [.val (.int u), .val (.int v), .val (.int a), .val (.int b), .val (.int m), .val (.int l), .val (.int g)] h _
  simp only [ir_count_of, wpSs, wpS, wpE, wpEs, wpAnd, wpOr, wpI, wpF, wpT, wpH, Env.at, Env.put, Env.wipe, Env.nox, Slot.nox, wBin, binI, wCmp, cmpI, wBi, isTy, asL, asLT, bindT, bindTs, intsOf, boolsOf, ixL0, ixL1, ixL2, List.getElem?_cons_zero, List.getElem?_cons_succ, List.nil_append, List.cons_append, List.append_nil, if_true, ite_true, h3]
  by_cases c : v < u
  · rw [if_pos (decide_eq_true c)]
    rw [CN_none c] at q
    exact q
  · rw [if_neg (by simpa using c)]
    by_cases c2 : g < l
    · rw [decide_eq_true c2]
      have : CN u v a (b - l) m (g - l) = 0 := sumI_zero fun i _ => by
        have := Int.emod_nonneg (a * (u + i) + (b - l)) (show m ≠ 0 by omega)
        unfold ind
        rw [if_neg (by omega)]
      rw [this] at q
      exact q
    have h0 : 0 ≤ g - l := by omega
    rw [decide_eq_false c2]
    have s1 : Sz 1900 (b - l) := (sb.sub sl).mono (by decide)
    have s2 : Sz 1900 (b - g - 1) := ((sb.sub sg).sub (sz1.mono (by decide))).mono (by decide)
    refine ⟨_, _, _, _, _, rfl, hm, su.mono (by decide), sv.mono (by decide), sa.mono (by decide), s1, sm.mono (by decide), ?_⟩
    refine ⟨_, _, _, _, _, rfl, hm, su.mono (by decide), sv.mono (by decide), sa.mono (by decide), s2, sm.mono (by decide), ?_⟩
    have e := FR_cnt (u := u) (v := v) (a := a) (b := b - l) (k := g - l) hm h0 h1
    rw [show b - l - (g - l) - 1 = b - g - 1 by omega] at e
    simp only [wpSs, wpS, wpE, wpEs, wpAnd, wpOr, wpI, wpF, wpT, wpH, Env.at, Env.put, Env.wipe, Env.nox, Slot.nox, wBin, binI, wCmp, cmpI, wBi, isTy, asL, asLT, bindT, bindTs, intsOf, boolsOf, ixL0, ixL1, ixL2, List.getElem?_cons_zero, List.getElem?_cons_succ, List.nil_append, List.cons_append, List.append_nil, if_true, ite_true]
    rw [e]
    exact q
def sp_around : Spec := fun ds h Q _ => ∃ a b m l g, ds = [.int a, .int b, .int m, .int l, .int g] ∧ 0 < m ∧ Q (.tup [.tup [.int a, .int (b - l), .int m], .int ((g - l) % m)]) h
theorem b_around {Γ : Gam} : BodyOk Γ ir_around sp_around := by
  rintro ds h Q R ⟨a, b, m, l, g, rfl, hm, q⟩
  refine ⟨rfl, ?_⟩
  show wpSs Γ ir_around.body [.val (.int a), .val (.int b), .val (.int m), .val (.int l), .val (.int g)] h _
  simp only [ir_around, wpSs, wpS, wpE, wpEs, wpAnd, wpOr, wpI, wpF, wpT, wpH, Env.at, Env.put, Env.wipe, Env.nox, Slot.nox, wBin, binI, wCmp, cmpI, wBi, isTy, asL, asLT, bindT, bindTs, intsOf, boolsOf, ixL0, ixL1, ixL2, List.getElem?_cons_zero, List.getElem?_cons_succ, List.nil_append, List.cons_append, List.append_nil, if_true, ite_true]
  rw [fmod_pos hm]
  exact ⟨(show 3 ≤ SL by decide), by omega, (show 2 ≤ SL by decide), q⟩
/-- sizes and bounds of a question about a band of residues -/
structure Band (u v a b m l g : Int) : Prop where
  m0 : 0 < m
  su : Sz 1700 u
  sv : Sz 1700 v
  sa : Sz 1700 a
  sb : Sz 1700 b
  sm : Sz 1700 m
  sl : Sz 1700 l
  sg : Sz 1700 g
def sp_hits_of : Spec := fun ds h Q _ => ∃ u v a b m l g, ds = [.int u, .int v, .int a, .int b, .int m, .int l, .int g] ∧ Band u v a b m l g ∧ Q (.int (CN u v a (b - l) m ((g - l) % m))) h
theorem Band.go {Γ : Gam} {u v a b m l g : Int} {h : AH} {Q : QE} {R : RE} (B : Band u v a b m l g) (q : Q (.int (CN u v a (b - l) m ((g - l) % m))) h) : sp_count_of [.int u, .int v, .int a, .int (b - l), .int m, .int 0, .int ((g - l) % m)] h Q R := by
  have e0 := Int.emod_nonneg (g - l) (show m ≠ 0 by have := B.m0; omega)
  have e1 := Int.emod_lt_of_pos (g - l) B.m0
  have s0 : Sz 1800 0 := by unfold Sz; exact Nat.pow_pos (by decide)
  refine ⟨_, _, _, _, _, _, _, rfl, B.m0, by omega, by omega, B.su.mono (by decide), B.sv.mono (by decide), B.sa.mono (by decide), (B.sb.sub B.sl).mono (by decide), B.sm.mono (by decide), s0, (B.sm.mod B.m0).mono (by decide), ?_⟩
  rw [Int.sub_zero, Int.sub_zero]
  exact q
theorem b_hits_of {Γ : Gam} (h7 : Γ.fn 7 = sp_around) (h8 : Γ.fn 8 = sp_count_of) : BodyOk Γ ir_hits_of sp_hits_of := by
  rintro ds h Q R ⟨u, v, a, b, m, l, g, rfl, B, q⟩
  refine ⟨rfl, ?_⟩
  show wpSs Γ ir_hits_of.body [.val (.int u), .val (.int v), .val (.int a), .val (.int b), .val (.int m), .val (.int l), .val (.int g), .un, .un] h _
  simp only [ir_hits_of, wpSs, wpS, wpE, wpEs, wpAnd, wpOr, wpI, wpF, wpT, wpH, Env.at, Env.put, Env.wipe, Env.nox, Slot.nox, wBin, binI, wCmp, cmpI, wBi, isTy, asL, asLT, bindT, bindTs, intsOf, boolsOf, ixL0, ixL1, ixL2, List.getElem?_cons_zero, List.getElem?_cons_succ, List.nil_append, List.cons_append, List.append_nil, if_true, ite_true, h7, h8]
  refine ⟨_, _, _, _, _, rfl, B.m0, ?_⟩
  simp only [wpSs, wpS, wpE, wpEs, wpAnd, wpOr, wpI, wpF, wpT, wpH, Env.at, Env.put, Env.wipe, Env.nox, Slot.nox, wBin, binI, wCmp, cmpI, wBi, isTy, asL, asLT, bindT, bindTs, intsOf, boolsOf, ixL0, ixL1, ixL2, List.getElem?_cons_zero, List.getElem?_cons_succ, List.nil_append, List.cons_append, List.append_nil, if_true, ite_true]
  exact B.go (Γ := Γ) q
/-- number j of those from u to v -/
def Nth (u v a b m k j n : Int) : Prop := u ≤ n ∧ n ≤ v ∧ (a * n + b) % m ≤ k ∧ CN u (n - 1) a b m k = j
def sp_nth_of : Spec := fun ds h Q _ => ∃ u v a b m l g j, ds = [.int u, .int v, .int a, .int b, .int m, .int l, .int g, .int j] ∧ Band u v a b m l g ∧ 0 ≤ j ∧ j < CN u v a (b - l) m ((g - l) % m) ∧ ∀ n, Nth u v a (b - l) m ((g - l) % m) j n → Q (.int n) h
theorem b_nth_of {Γ : Gam} (h7 : Γ.fn 7 = sp_around) (h8 : Γ.fn 8 = sp_count_of) : BodyOk Γ ir_nth_of sp_nth_of := by
  rintro ds h Q R ⟨u, v, a, b, m, l, g, j, rfl, B, j0, j1, q⟩
  refine ⟨rfl, ?_⟩
  show wpSs Γ ir_nth_of.body [.val (.int u), .val (.int v), .val (.int a), .val (.int b), .val (.int m), .val (.int l), .val (.int g), .val (.int j), .un, .un, .un, .un] h _
  simp only [ir_nth_of, wpSs, wpS, wpE, wpEs, wpAnd, wpOr, wpI, wpF, wpT, wpH, Env.at, Env.put, Env.wipe, Env.nox, Slot.nox, wBin, binI, wCmp, cmpI, wBi, isTy, asL, asLT, bindT, bindTs, intsOf, boolsOf, ixL0, ixL1, ixL2, List.getElem?_cons_zero, List.getElem?_cons_succ, List.nil_append, List.cons_append, List.append_nil, if_true, ite_true, h7]
  refine ⟨_, _, _, _, _, rfl, B.m0, ?_⟩
  simp only [wpSs, wpS, wpE, wpEs, wpAnd, wpOr, wpI, wpF, wpT, wpH, Env.at, Env.put, Env.wipe, Env.nox, Slot.nox, wBin, binI, wCmp, cmpI, wBi, isTy, asL, asLT, bindT, bindTs, intsOf, boolsOf, ixL0, ixL1, ixL2, List.getElem?_cons_zero, List.getElem?_cons_succ, List.nil_append, List.cons_append, List.append_nil, if_true, ite_true, h8]
  have huv : u ≤ v := by
    apply Classical.byContradiction
    intro z
    rw [CN_none (by omega)] at j1
    omega
  refine ⟨fun k σ h' => ∃ lo hi x, σ = [.val (.int lo), .val (.int hi), .val (.int a), .val (.int b), .val (.int m), .val (.int l), .val (.int g), .val (.int j), .val (.tup [.int a, .int (b - l), .int m]), .val (.int ((g - l) % m)), .val (.int u), x] ∧ h' = h ∧ k = (hi - lo).toNat ∧ u ≤ lo ∧ lo ≤ hi ∧ hi ≤ v ∧
    CN u (lo - 1) a (b - l) m ((g - l) % m) ≤ j ∧ j < CN u hi a (b - l) m ((g - l) % m), ⟨_, u, v, .un, rfl, rfl, rfl, Int.le_refl _, huv, Int.le_refl _, by rw [CN_none (by omega)]; exact j0, j1⟩, ?_⟩
  rintro k σ h' ⟨lo, hi, x, rfl, rfl, rfl, g1, g2, g3, c1, c2⟩
  simp only [wpSs, wpS, wpE, wpEs, wpAnd, wpOr, wpI, wpF, wpT, wpH, Env.at, Env.put, Env.wipe, Env.nox, Slot.nox, wBin, binI, wCmp, cmpI, wBi, isTy, asL, asLT, bindT, bindTs, intsOf, boolsOf, ixL0, ixL1, ixL2, List.getElem?_cons_zero, List.getElem?_cons_succ, List.nil_append, List.cons_append, List.append_nil, if_true, ite_true]
  by_cases c : lo < hi
  · rw [if_pos (decide_eq_true c)]
    rw [fdiv_pos (show (0 : Int) < 2 by decide)]
    have w1 : lo ≤ (lo + hi) / 2 := by omega
    have w2 : (lo + hi) / 2 < hi := by omega
    have BB : Band u ((lo + hi) / 2) a b m l g := ⟨B.m0, B.su, by have := B.su; have := B.sv; unfold Sz at *; omega, B.sa, B.sb, B.sm, B.sl, B.sg⟩
    refine ⟨⟨by decide, bits2⟩, BB.go (Γ := Γ) ?_⟩
    simp only [wpSs, wpS, wpE, wpEs, wpAnd, wpOr, wpI, wpF, wpT, wpH, Env.at, Env.put, Env.wipe, Env.nox, Slot.nox, wBin, binI, wCmp, cmpI, wBi, isTy, asL, asLT, bindT, bindTs, intsOf, boolsOf, ixL0, ixL1, ixL2, List.getElem?_cons_zero, List.getElem?_cons_succ, List.nil_append, List.cons_append, List.append_nil, if_true, ite_true]
    by_cases c3 : j < CN u ((lo + hi) / 2) a (b - l) m ((g - l) % m)
    · rw [if_pos (decide_eq_true c3)]
      exact ⟨_, by omega, lo, _, _, rfl, trivial, rfl, g1, w1, by omega, c1, c3⟩
    · rw [if_neg (by simpa using c3)]
      exact ⟨_, by omega, _, hi, _, rfl, trivial, rfl, by omega, by omega, g3, by rw [show (lo + hi) / 2 + 1 - 1 = (lo + hi) / 2 by omega]; omega, c2⟩
  · rw [if_neg (by simpa using c)]
    have e : lo = hi := by omega
    subst e
    have s := CN_last (a := a) (b := b - l) (m := m) (k := (g - l) % m) g1
    refine q lo ⟨g1, g3, ?_, ?_⟩
    · apply Classical.byContradiction
      intro z
      unfold ind at s
      rw [if_neg z] at s
      omega
    · have := ind01 ((a * lo + (b - l)) % m ≤ (g - l) % m)
      omega
def sp_first_of : Spec := fun ds h Q _ => ∃ u v a b m l g, ds = [.int u, .int v, .int a, .int b, .int m, .int l, .int g] ∧ Band u v a b m l g ∧ (CN u v a (b - l) m ((g - l) % m) = 0 → Q .non h) ∧ (0 < CN u v a (b - l) m ((g - l) % m) → ∀ n, Nth u v a (b - l) m ((g - l) % m) 0 n → Q (.int n) h)
theorem eqb_ints {i j : Int} : D.eqb (.int i) (.int j) = decide (i = j) := by
  show (i == j) = _
  by_cases c : i = j
  · subst c; simp
  · simp [c]
theorem b_first_of {Γ : Gam} (h9 : Γ.fn 9 = sp_hits_of) (h10 : Γ.fn 10 = sp_nth_of) : BodyOk Γ ir_first_of sp_first_of := by
  rintro ds h Q R ⟨u, v, a, b, m, l, g, rfl, B, q1, q2⟩
  refine ⟨rfl, ?_⟩
  show wpSs Γ ir_first_of.body [.val (.int u), .val (.int v), .val (.int a), .val (.int b), .val (.int m), .val (.int l), .val (.int g)] h _
  simp only [ir_first_of, wpSs, wpS, wpE, wpEs, wpAnd, wpOr, wpI, wpF, wpT, wpH, Env.at, Env.put, Env.wipe, Env.nox, Slot.nox, wBin, binI, wCmp, cmpI, wBi, isTy, asL, asLT, bindT, bindTs, intsOf, boolsOf, ixL0, ixL1, ixL2, List.getElem?_cons_zero, List.getElem?_cons_succ, List.nil_append, List.cons_append, List.append_nil, if_true, ite_true, h9, h10]
  refine ⟨_, _, _, _, _, _, _, rfl, B, ok_int, ?_⟩
  have r := CN_range (u := u) (v := v) (a := a) (b := b - l) (m := m) (k := (g - l) % m)
  rw [eqb_ints]
  by_cases c : CN u v a (b - l) m ((g - l) % m) = 0
  · rw [if_pos (decide_eq_true c)]
    exact q1 c
  · rw [if_neg (by simpa using c)]
    exact ⟨_, _, _, _, _, _, _, _, rfl, B, Int.le_refl _, by omega, q2 (by omega)⟩
def sp_check_residues : Spec := fun ds h Q _ => ∃ a b m u v l g, ds = [.tup [.int a, .int b, .int m], .int u, .int v, .int l, .int g] ∧ 0 < m ∧ 0 ≤ l ∧ l < m ∧ 0 ≤ g ∧ g < m ∧ Q .non h
theorem b_check_residues {Γ : Gam} (h2 : Γ.fn 2 = sp_check_range) (h11 : Γ.fn 11 = sp_check_between) : BodyOk Γ ir_check_residues sp_check_residues := by
  rintro ds h Q R ⟨a, b, m, u, v, l, g, rfl, hm, l0, l1, g0, g1, q⟩
  refine ⟨rfl, ?_⟩
  show wpSs Γ ir_check_residues.body [.val (.tup [.int a, .int b, .int m]), .val (.int u), .val (.int v), .val (.int l), .val (.int g)] h _
  simp only [ir_check_residues, wpSs, wpS, wpE, wpEs, wpAnd, wpOr, wpI, wpF, wpT, wpH, Env.at, Env.put, Env.wipe, Env.nox, Slot.nox, wBin, binI, wCmp, cmpI, wBi, isTy, asL, asLT, bindT, bindTs, intsOf, boolsOf, ixL0, ixL1, ixL2, List.getElem?_cons_zero, List.getElem?_cons_succ, List.nil_append, List.cons_append, List.append_nil, if_true, ite_true, h2, h11]
  refine ⟨_, _, _, _, _, rfl, hm, ?_⟩
  refine ⟨_, _, _, _, rfl, l0, by omega, ?_⟩
  exact ⟨_, _, _, _, rfl, g0, by omega, q⟩
/-- a right question -/
def Ask (ds : List D) (u v a b m l g : Int) (r : List D) : Prop := ds = .tup [.int a, .int b, .int m] :: .int u :: .int v :: .int l :: .int g :: r ∧ Band u v a b m l g ∧ 0 ≤ l ∧ l < m ∧ 0 ≤ g ∧ g < m
def sp_hits : Spec := fun ds h Q _ => ∃ u v a b m l g, Ask ds u v a b m l g [] ∧ Q (.int (CN u v a (b - l) m ((g - l) % m))) h
theorem b_hits {Γ : Gam} (h12 : Γ.fn 12 = sp_check_residues) (h9 : Γ.fn 9 = sp_hits_of) : BodyOk Γ ir_hits sp_hits := by
  rintro ds h Q R ⟨u, v, a, b, m, l, g, ⟨rfl, B, l0, l1, g0, g1⟩, q⟩
  refine ⟨rfl, ?_⟩
  show wpSs Γ ir_hits.body [.val (.tup [.int a, .int b, .int m]), .val (.int u), .val (.int v), .val (.int l), .val (.int g)] h _
  simp only [ir_hits, wpSs, wpS, wpE, wpEs, wpAnd, wpOr, wpI, wpF, wpT, wpH, Env.at, Env.put, Env.wipe, Env.nox, Slot.nox, wBin, binI, wCmp, cmpI, wBi, isTy, asL, asLT, bindT, bindTs, intsOf, boolsOf, ixL0, ixL1, ixL2, List.getElem?_cons_zero, List.getElem?_cons_succ, List.nil_append, List.cons_append, List.append_nil, if_true, ite_true, h12, h9]
  exact ⟨_, _, _, _, _, _, _, rfl, B.m0, l0, l1, g0, g1, _, _, _, _, _, _, _, rfl, B, q⟩
def sp_first_hit : Spec := fun ds h Q _ => ∃ u v a b m l g, Ask ds u v a b m l g [] ∧ (CN u v a (b - l) m ((g - l) % m) = 0 → Q .non h) ∧ (0 < CN u v a (b - l) m ((g - l) % m) → ∀ n, Nth u v a (b - l) m ((g - l) % m) 0 n → Q (.int n) h)
theorem b_first_hit {Γ : Gam} (h12 : Γ.fn 12 = sp_check_residues) (h13 : Γ.fn 13 = sp_first_of) : BodyOk Γ ir_first_hit sp_first_hit := by
  rintro ds h Q R ⟨u, v, a, b, m, l, g, ⟨rfl, B, l0, l1, g0, g1⟩, q1, q2⟩
  refine ⟨rfl, ?_⟩
  show wpSs Γ ir_first_hit.body [.val (.tup [.int a, .int b, .int m]), .val (.int u), .val (.int v), .val (.int l), .val (.int g)] h _
  simp only [ir_first_hit, wpSs, wpS, wpE, wpEs, wpAnd, wpOr, wpI, wpF, wpT, wpH, Env.at, Env.put, Env.wipe, Env.nox, Slot.nox, wBin, binI, wCmp, cmpI, wBi, isTy, asL, asLT, bindT, bindTs, intsOf, boolsOf, ixL0, ixL1, ixL2, List.getElem?_cons_zero, List.getElem?_cons_succ, List.nil_append, List.cons_append, List.append_nil, if_true, ite_true, h12, h13]
  exact ⟨_, _, _, _, _, _, _, rfl, B.m0, l0, l1, g0, g1, _, _, _, _, _, _, _, rfl, B, q1, q2⟩
def sp_last_hit : Spec := fun ds h Q _ => ∃ u v a b m l g, Ask ds u v a b m l g [] ∧ (CN u v a (b - l) m ((g - l) % m) = 0 → Q .non h) ∧ (0 < CN u v a (b - l) m ((g - l) % m) → ∀ n, Nth u v a (b - l) m ((g - l) % m) (CN u v a (b - l) m ((g - l) % m) - 1) n → Q (.int n) h)
theorem b_last_hit {Γ : Gam} (h14 : Γ.fn 14 = sp_hits) (h10 : Γ.fn 10 = sp_nth_of) : BodyOk Γ ir_last_hit sp_last_hit := by
  rintro ds h Q R ⟨u, v, a, b, m, l, g, ⟨rfl, B, l0, l1, g0, g1⟩, q1, q2⟩
  refine ⟨rfl, ?_⟩
  show wpSs Γ ir_last_hit.body [.val (.tup [.int a, .int b, .int m]), .val (.int u), .val (.int v), .val (.int l), .val (.int g), .un] h _
  simp only [ir_last_hit, wpSs, wpS, wpE, wpEs, wpAnd, wpOr, wpI, wpF, wpT, wpH, Env.at, Env.put, Env.wipe, Env.nox, Slot.nox, wBin, binI, wCmp, cmpI, wBi, isTy, asL, asLT, bindT, bindTs, intsOf, boolsOf, ixL0, ixL1, ixL2, List.getElem?_cons_zero, List.getElem?_cons_succ, List.nil_append, List.cons_append, List.append_nil, if_true, ite_true, h14, h10]
  refine ⟨_, _, _, _, _, _, _, ⟨rfl, B, l0, l1, g0, g1⟩, ok_int, ?_⟩
  have r := CN_range (u := u) (v := v) (a := a) (b := b - l) (m := m) (k := (g - l) % m)
  rw [eqb_ints]
  by_cases c : CN u v a (b - l) m ((g - l) % m) = 0
  · rw [if_pos (decide_eq_true c)]
    exact q1 c
  · rw [if_neg (by simpa using c)]
    exact ⟨_, _, _, _, _, _, _, _, rfl, B, by omega, by omega, q2 (by omega)⟩
def sp_hit_at : Spec := fun ds h Q _ => ∃ u v a b m l g j, Ask ds u v a b m l g [.int j] ∧ 0 ≤ j ∧ j < CN u v a (b - l) m ((g - l) % m) ∧ ∀ n, Nth u v a (b - l) m ((g - l) % m) j n → Q (.int n) h
theorem b_hit_at {Γ : Gam} (h14 : Γ.fn 14 = sp_hits) (h11 : Γ.fn 11 = sp_check_between) (h10 : Γ.fn 10 = sp_nth_of) : BodyOk Γ ir_hit_at sp_hit_at := by
  rintro ds h Q R ⟨u, v, a, b, m, l, g, j, ⟨rfl, B, l0, l1, g0, g1⟩, j0, j1, q⟩
  refine ⟨rfl, ?_⟩
  show wpSs Γ ir_hit_at.body [.val (.tup [.int a, .int b, .int m]), .val (.int u), .val (.int v), .val (.int l), .val (.int g), .val (.int j)] h _
  simp only [ir_hit_at, wpSs, wpS, wpE, wpEs, wpAnd, wpOr, wpI, wpF, wpT, wpH, Env.at, Env.put, Env.wipe, Env.nox, Slot.nox, wBin, binI, wCmp, cmpI, wBi, isTy, asL, asLT, bindT, bindTs, intsOf, boolsOf, ixL0, ixL1, ixL2, List.getElem?_cons_zero, List.getElem?_cons_succ, List.nil_append, List.cons_append, List.append_nil, if_true, ite_true, h14, h11, h10]
  refine ⟨_, _, _, _, _, _, _, ⟨rfl, B, l0, l1, g0, g1⟩, ?_⟩
  refine ⟨_, _, _, _, rfl, j0, by omega, ?_⟩
  exact ⟨_, _, _, _, _, _, _, _, rfl, B, j0, j1, q⟩
theorem m_is_between : ∀ ds h Q Q' R R', (∀ d h, Q d h → Q' d h) → (∀ x h, R x h → R' x h) → sp_is_between ds h Q R → sp_is_between ds h Q' R' := by
  rintro ds h Q Q' R R' k _ ⟨a1, a2, a3, a4, q⟩
  exact ⟨a1, a2, a3, a4, k _ _ q⟩
theorem m_check_between : ∀ ds h Q Q' R R', (∀ d h, Q d h → Q' d h) → (∀ x h, R x h → R' x h) → sp_check_between ds h Q R → sp_check_between ds h Q' R' := by
  rintro ds h Q Q' R R' k _ ⟨a1, a2, a3, a4, a5, a6, a7, q⟩
  exact ⟨a1, a2, a3, a4, a5, a6, a7, k _ _ q⟩
theorem m_count_of : ∀ ds h Q Q' R R', (∀ d h, Q d h → Q' d h) → (∀ x h, R x h → R' x h) → sp_count_of ds h Q R → sp_count_of ds h Q' R' := by
  rintro ds h Q Q' R R' k _ ⟨a1, a2, a3, a4, a5, a6, a7, a8, a9, a10, a11, a12, a13, a14, a15, a16, a17, a18, q⟩
  exact ⟨a1, a2, a3, a4, a5, a6, a7, a8, a9, a10, a11, a12, a13, a14, a15, a16, a17, a18, k _ _ q⟩
theorem m_around : ∀ ds h Q Q' R R', (∀ d h, Q d h → Q' d h) → (∀ x h, R x h → R' x h) → sp_around ds h Q R → sp_around ds h Q' R' := by
  rintro ds h Q Q' R R' k _ ⟨a1, a2, a3, a4, a5, a6, a7, q⟩
  exact ⟨a1, a2, a3, a4, a5, a6, a7, k _ _ q⟩
theorem m_hits_of : ∀ ds h Q Q' R R', (∀ d h, Q d h → Q' d h) → (∀ x h, R x h → R' x h) → sp_hits_of ds h Q R → sp_hits_of ds h Q' R' := by
  rintro ds h Q Q' R R' k _ ⟨a1, a2, a3, a4, a5, a6, a7, a8, a9, q⟩
  exact ⟨a1, a2, a3, a4, a5, a6, a7, a8, a9, k _ _ q⟩
theorem m_nth_of : ∀ ds h Q Q' R R', (∀ d h, Q d h → Q' d h) → (∀ x h, R x h → R' x h) → sp_nth_of ds h Q R → sp_nth_of ds h Q' R' := by
  rintro ds h Q Q' R R' k _ ⟨a1, a2, a3, a4, a5, a6, a7, a8, a9, a10, a11, a12, q⟩
  exact ⟨a1, a2, a3, a4, a5, a6, a7, a8, a9, a10, a11, a12, fun n z => k _ _ (q n z)⟩
theorem m_first_of : ∀ ds h Q Q' R R', (∀ d h, Q d h → Q' d h) → (∀ x h, R x h → R' x h) → sp_first_of ds h Q R → sp_first_of ds h Q' R' := by
  rintro ds h Q Q' R R' k _ ⟨a1, a2, a3, a4, a5, a6, a7, a8, a9, q1, q2⟩
  exact ⟨a1, a2, a3, a4, a5, a6, a7, a8, a9, fun z => k _ _ (q1 z), fun z n y => k _ _ (q2 z n y)⟩
theorem m_check_residues : ∀ ds h Q Q' R R', (∀ d h, Q d h → Q' d h) → (∀ x h, R x h → R' x h) → sp_check_residues ds h Q R → sp_check_residues ds h Q' R' := by
  rintro ds h Q Q' R R' k _ ⟨a1, a2, a3, a4, a5, a6, a7, a8, a9, a10, a11, a12, a13, q⟩
  exact ⟨a1, a2, a3, a4, a5, a6, a7, a8, a9, a10, a11, a12, a13, k _ _ q⟩
theorem m_hits : ∀ ds h Q Q' R R', (∀ d h, Q d h → Q' d h) → (∀ x h, R x h → R' x h) → sp_hits ds h Q R → sp_hits ds h Q' R' := by
  rintro ds h Q Q' R R' k _ ⟨a1, a2, a3, a4, a5, a6, a7, a8, q⟩
  exact ⟨a1, a2, a3, a4, a5, a6, a7, a8, k _ _ q⟩
theorem m_first_hit : ∀ ds h Q Q' R R', (∀ d h, Q d h → Q' d h) → (∀ x h, R x h → R' x h) → sp_first_hit ds h Q R → sp_first_hit ds h Q' R' := by
  rintro ds h Q Q' R R' k _ ⟨a1, a2, a3, a4, a5, a6, a7, a8, q1, q2⟩
  exact ⟨a1, a2, a3, a4, a5, a6, a7, a8, fun z => k _ _ (q1 z), fun z n y => k _ _ (q2 z n y)⟩
theorem m_last_hit : ∀ ds h Q Q' R R', (∀ d h, Q d h → Q' d h) → (∀ x h, R x h → R' x h) → sp_last_hit ds h Q R → sp_last_hit ds h Q' R' := by
  rintro ds h Q Q' R R' k _ ⟨a1, a2, a3, a4, a5, a6, a7, a8, q1, q2⟩
  exact ⟨a1, a2, a3, a4, a5, a6, a7, a8, fun z => k _ _ (q1 z), fun z n y => k _ _ (q2 z n y)⟩
theorem m_hit_at : ∀ ds h Q Q' R R', (∀ d h, Q d h → Q' d h) → (∀ x h, R x h → R' x h) → sp_hit_at ds h Q R → sp_hit_at ds h Q' R' := by
  rintro ds h Q Q' R R' k _ ⟨a1, a2, a3, a4, a5, a6, a7, a8, a9, a10, a11, q⟩
  exact ⟨a1, a2, a3, a4, a5, a6, a7, a8, a9, a10, a11, fun n z => k _ _ (q n z)⟩
end FF

namespace FF
abbrev num (x : Int × Int) : D := .tup [.int x.1, .int x.2]
def sp_divisor : Spec := fun ds h Q _ => ∃ a b, ds = [.int a, .int b] ∧ Q (.int (gg a b)) h
theorem fmod_lt {a b : Int} (h : b ≠ 0) : (a.fmod b).natAbs < b.natAbs := by
  rcases Int.lt_or_gt_of_ne h with z | z
  · have := Int.neg_fmod_neg a b
    have e : a.fmod b = -((-a) % (-b)) := by
      have e2 : (-a).fmod (-b) = (-a) % (-b) := Int.fmod_eq_emod_of_nonneg _ (by omega)
      rw [← e2, this]; omega
    have r0 := Int.emod_nonneg (-a) (show -b ≠ 0 by omega)
    have r1 := Int.emod_lt_of_pos (-a) (show 0 < -b by omega)
    omega
  · rw [Int.fmod_eq_emod_of_nonneg _ (by omega)]
    have r0 := Int.emod_nonneg a h
    have r1 := Int.emod_lt_of_pos a z
    omega
theorem b_divisor {Γ : Gam} : BodyOk Γ ir_divisor sp_divisor := by
  rintro ds h Q R ⟨a, b, rfl, q⟩
  refine ⟨rfl, ?_⟩
  show wpSs Γ ir_divisor.body [.val (.int a), .val (.int b)] h _
  simp only [ir_divisor, k_divisor_3, wpSs, wpS, wpE, wpEs, wpAnd, wpOr, wpI, wpF, wpT, wpH, Env.at, Env.put, Env.wipe, Env.nox, Slot.nox, wBin, binI, wCmp, cmpI, wBi, isTy, asL, asLT, bindT, bindTs, intsOf, boolsOf, ixL0, ixL1, ixL2, List.getElem?_cons_zero, List.getElem?_cons_succ, List.nil_append, List.cons_append, List.append_nil, if_true, ite_true]
  refine ⟨fun k σ h' => ∃ x y, σ = [.val (.int x), .val (.int y)] ∧ h' = h ∧ k = y.natAbs ∧ Int.gcd x y = Int.gcd a b, ⟨_, a, b, rfl, rfl, rfl, rfl⟩, ?_⟩
  rintro k σ h' ⟨x, y, rfl, rfl, rfl, g⟩
  simp only [wpSs, wpS, wpE, wpEs, wpAnd, wpOr, wpI, wpF, wpT, wpH, Env.at, Env.put, Env.wipe, Env.nox, Slot.nox, wBin, binI, wCmp, cmpI, wBi, isTy, asL, asLT, bindT, bindTs, intsOf, boolsOf, ixL0, ixL1, ixL2, List.getElem?_cons_zero, List.getElem?_cons_succ, List.nil_append, List.cons_append, List.append_nil, if_true, ite_true, k_divisor_1]
  refine ⟨ok_int, ?_⟩
  rw [eqb_ints]
  by_cases c : y = 0
  · subst c
    rw [if_neg (by decide)]
    simp only [k_divisor_2, wpSs, wpS, wpE, wpEs, wpAnd, wpOr, wpI, wpF, wpT, wpH, Env.at, Env.put, Env.wipe, Env.nox, Slot.nox, wBin, binI, wCmp, cmpI, wBi, isTy, asL, asLT, bindT, bindTs, intsOf, boolsOf, ixL0, ixL1, ixL2, List.getElem?_cons_zero, List.getElem?_cons_succ, List.nil_append, List.cons_append, List.append_nil, if_true, ite_true]
    rw [Int.gcd_zero_right] at g
    rw [g]
    exact q
  · rw [if_pos (by simp [c])]
    refine ⟨c, _, fmod_lt c, y, x.fmod y, rfl, trivial, rfl, ?_⟩
    rw [gcd_fmod, g]
def sp_fraction : Spec := fun ds h Q _ => ∃ n d, ds = [.int n, .int d] ∧ 0 < d ∧ Sz 9000 d ∧ Q (num (fr n d)) h
theorem b_fraction {Γ : Gam} (g23 : Γ.fn 23 = sp_divisor) : BodyOk Γ ir_fraction sp_fraction := by
  rintro ds h Q R ⟨n, d, rfl, d0, sd, q⟩
  refine ⟨rfl, ?_⟩
  show wpSs Γ ir_fraction.body [.val (.int n), .val (.int d), .un] h _
  have gp := gg_pos (n := n) d0
  simp only [ir_fraction, k_fraction_3, wpSs, wpS, wpE, wpEs, wpAnd, wpOr, wpI, wpF, wpT, wpH, Env.at, Env.put, Env.wipe, Env.nox, Slot.nox, wBin, binI, wCmp, cmpI, wBi, isTy, asL, asLT, bindT, bindTs, intsOf, boolsOf, ixL0, ixL1, ixL2, List.getElem?_cons_zero, List.getElem?_cons_succ, List.nil_append, List.cons_append, List.append_nil, if_true, ite_true]
  rw [if_neg (show ¬ decide (d < 0) = true by simpa using Int.le_of_lt d0)]
  simp only [k_fraction_2, wpSs, wpS, wpE, wpEs, wpAnd, wpOr, wpI, wpF, wpT, wpH, Env.at, Env.put, Env.wipe, Env.nox, Slot.nox, wBin, binI, wCmp, cmpI, wBi, isTy, asL, asLT, bindT, bindTs, intsOf, boolsOf, ixL0, ixL1, ixL2, List.getElem?_cons_zero, List.getElem?_cons_succ, List.nil_append, List.cons_append, List.append_nil, if_true, ite_true, g23]
  refine ⟨n, d, rfl, ?_⟩
  simp only [k_fraction_1, wpSs, wpS, wpE, wpEs, wpAnd, wpOr, wpI, wpF, wpT, wpH, Env.at, Env.put, Env.wipe, Env.nox, Slot.nox, wBin, binI, wCmp, cmpI, wBi, isTy, asL, asLT, bindT, bindTs, intsOf, boolsOf, ixL0, ixL1, ixL2, List.getElem?_cons_zero, List.getElem?_cons_succ, List.nil_append, List.cons_append, List.append_nil, if_true, ite_true, fdiv_pos gp]
  have gs : Sz 9000 (gg n d) := by
    have : (gg n d).natAbs ≤ d.natAbs := by
      show (Int.gcd n d) ≤ d.natAbs
      exact Nat.le_of_dvd (by omega) (Int.gcd_dvd_natAbs_right n d)
    unfold Sz at *
    omega
  have bg := bitsI_le gs
  exact ⟨⟨by omega, bg⟩, ⟨by omega, bg⟩, (show 2 ≤ SL by decide), q⟩
def sp_power : Spec := fun ds h Q _ => ∃ e, ds = [.int e] ∧ -9000 ≤ e ∧ e ≤ 9000 ∧ Q (num (up e, dn e)) h
theorem b_power {Γ : Gam} : BodyOk Γ ir_power sp_power := by
  rintro ds h Q R ⟨e, rfl, e1, e2, q⟩
  refine ⟨rfl, ?_⟩
  show wpSs Γ ir_power.body [.val (.int e)] h _
  simp only [ir_power, wpSs, wpS, wpE, wpEs, wpAnd, wpOr, wpI, wpF, wpT, wpH, Env.at, Env.put, Env.wipe, Env.nox, Slot.nox, wBin, binI, wCmp, cmpI, wBi, isTy, asL, asLT, bindT, bindTs, intsOf, boolsOf, ixL0, ixL1, ixL2, List.getElem?_cons_zero, List.getElem?_cons_succ, List.nil_append, List.cons_append, List.append_nil, if_true, ite_true]
  have b1 : bitsI 1 = 1 := by decide
  by_cases c : 0 ≤ e
  · rw [if_pos (decide_eq_true c)]
    refine ⟨⟨c, by rw [b1]; omega⟩, (show 2 ≤ SL by decide), ?_⟩
    have : D.tup [.int (1 * 2 ^ e.toNat), .int 1] = num (up e, dn e) := by
      unfold num up dn
      rw [show (-e).toNat = 0 by omega, Int.one_mul]; rfl
    rw [this]
    exact q
  · rw [if_neg (by simpa using c)]
    refine ⟨⟨by omega, by rw [b1]; omega⟩, (show 2 ≤ SL by decide), ?_⟩
    have : D.tup [.int 1, .int (1 * 2 ^ (0 - e).toNat)] = num (up e, dn e) := by
      unfold num up dn
      rw [show e.toNat = 0 by omega, Int.one_mul, show 0 - e = -e by omega]; rfl
    rw [this]
    exact q
def sp_times : Spec := fun ds h Q _ => ∃ a b c d, ds = [num (a, b), num (c, d)] ∧ 0 < b ∧ 0 < d ∧ Sz 4500 b ∧ Sz 4500 d ∧ Sz 100000 a ∧ Sz 100000 c ∧ Q (num (fr (a * c) (b * d))) h
theorem b_times {Γ : Gam} (g24 : Γ.fn 24 = sp_fraction) : BodyOk Γ ir_times sp_times := by
  rintro ds h Q R ⟨a, b, c, d, rfl, b0, d0, sb, sd, sa, sc, q⟩
  refine ⟨rfl, ?_⟩
  show wpSs Γ ir_times.body [.val (num (a, b)), .val (num (c, d))] h _
  simp only [ir_times, wpSs, wpS, wpE, wpEs, wpAnd, wpOr, wpI, wpF, wpT, wpH, Env.at, Env.put, Env.wipe, Env.nox, Slot.nox, wBin, binI, wCmp, cmpI, wBi, isTy, asL, asLT, bindT, bindTs, intsOf, boolsOf, ixL0, ixL1, ixL2, List.getElem?_cons_zero, List.getElem?_cons_succ, List.nil_append, List.cons_append, List.append_nil, if_true, ite_true, g24]
  exact ⟨mul_ok sa sc (by decide), mul_ok sb sd (by decide), _, _, rfl, Int.mul_pos b0 d0, (sb.mul sd).mono (by decide), q⟩
def sp_over : Spec := fun ds h Q _ => ∃ a b c d, ds = [num (a, b), num (c, d)] ∧ 0 < b ∧ 0 < c ∧ Sz 4500 b ∧ Sz 4500 c ∧ Sz 100000 a ∧ Sz 100000 d ∧ Q (num (fr (a * d) (b * c))) h
theorem b_over {Γ : Gam} (g24 : Γ.fn 24 = sp_fraction) : BodyOk Γ ir_over sp_over := by
  rintro ds h Q R ⟨a, b, c, d, rfl, b0, c0, sb, sc, sa, sd, q⟩
  refine ⟨rfl, ?_⟩
  show wpSs Γ ir_over.body [.val (num (a, b)), .val (num (c, d))] h _
  simp only [ir_over, wpSs, wpS, wpE, wpEs, wpAnd, wpOr, wpI, wpF, wpT, wpH, Env.at, Env.put, Env.wipe, Env.nox, Slot.nox, wBin, binI, wCmp, cmpI, wBi, isTy, asL, asLT, bindT, bindTs, intsOf, boolsOf, ixL0, ixL1, ixL2, List.getElem?_cons_zero, List.getElem?_cons_succ, List.nil_append, List.cons_append, List.append_nil, if_true, ite_true, g24]
  exact ⟨mul_ok sa sd (by decide), mul_ok sb sc (by decide), _, _, rfl, Int.mul_pos b0 c0, (sb.mul sc).mono (by decide), q⟩
def sp_is_less : Spec := fun ds h Q _ => ∃ a b c d, ds = [num (a, b), num (c, d)] ∧ Sz 100000 a ∧ Sz 100000 b ∧ Sz 100000 c ∧ Sz 100000 d ∧ Q (.bl (decide (a * d < c * b))) h
theorem b_is_less {Γ : Gam} : BodyOk Γ ir_is_less sp_is_less := by
  rintro ds h Q R ⟨a, b, c, d, rfl, sa, sb, sc, sd, q⟩
  refine ⟨rfl, ?_⟩
  show wpSs Γ ir_is_less.body [.val (num (a, b)), .val (num (c, d))] h _
  simp only [ir_is_less, wpSs, wpS, wpE, wpEs, wpAnd, wpOr, wpI, wpF, wpT, wpH, Env.at, Env.put, Env.wipe, Env.nox, Slot.nox, wBin, binI, wCmp, cmpI, wBi, isTy, asL, asLT, bindT, bindTs, intsOf, boolsOf, ixL0, ixL1, ixL2, List.getElem?_cons_zero, List.getElem?_cons_succ, List.nil_append, List.cons_append, List.append_nil, if_true, ite_true]
  exact ⟨mul_ok sa sd (by decide), mul_ok sc sb (by decide), q⟩
def sp_size_of : Spec := fun ds h Q _ => ∃ a b, ds = [num (a, b)] ∧ Q (num ((a.natAbs : Int), b)) h
theorem b_size_of {Γ : Gam} : BodyOk Γ ir_size_of sp_size_of := by
  rintro ds h Q R ⟨a, b, rfl, q⟩
  refine ⟨rfl, ?_⟩
  show wpSs Γ ir_size_of.body [.val (num (a, b))] h _
  simp only [ir_size_of, wpSs, wpS, wpE, wpEs, wpAnd, wpOr, wpI, wpF, wpT, wpH, Env.at, Env.put, Env.wipe, Env.nox, Slot.nox, wBin, binI, wCmp, cmpI, wBi, isTy, asL, asLT, bindT, bindTs, intsOf, boolsOf, ixL0, ixL1, ixL2, List.getElem?_cons_zero, List.getElem?_cons_succ, List.nil_append, List.cons_append, List.append_nil, if_true, ite_true]
  exact ⟨(show 2 ≤ SL by decide), q⟩
/-! ### formats -/
def fmD (p lo hi : Int) : D := .obj 2 [(0, .int p), (1, .int lo), (2, .int hi)]
structure Fm (p lo hi : Int) : Prop where
  p2 : 2 ≤ p
  p100 : p ≤ 100
  l0 : -200 ≤ lo
  lh : lo ≤ hi
  h0 : hi ≤ 200
def sp_Format_init : Spec := fun ds h Q _ => ∃ (a : Nat) (p lo hi : Int), ds = [.ref a, .int p, .int lo, .int hi] ∧ h a = some (.obj 2 []) ∧ Fm p lo hi ∧ Q .non (((h.put a (.obj 2 [(0, .int p)])).put a (.obj 2 [(0, .int p), (1, .int lo)])).put a (.obj 2 [(0, .int p), (1, .int lo), (2, .int hi)]))
theorem b_Format_init {Γ : Gam} (g6 : Γ.fn 6 = sp_is_between) : BodyOk Γ ir_Format_init sp_Format_init := by
  rintro ds h Q R ⟨a, p, lo, hi, rfl, ha, f, q⟩
  refine ⟨rfl, ?_⟩
  show wpSs Γ ir_Format_init.body [.val (.ref a), .val (.int p), .val (.int lo), .val (.int hi)] h _
  simp only [ir_Format_init, wpSs, wpS, wpE, wpEs, wpAnd, wpOr, wpI, wpF, wpT, wpH, Env.at, Env.put, Env.wipe, Env.nox, Slot.nox, wBin, binI, wCmp, cmpI, wBi, isTy, asL, asLT, bindT, bindTs, intsOf, boolsOf, ixL0, ixL1, ixL2, List.getElem?_cons_zero, List.getElem?_cons_succ, List.nil_append, List.cons_append, List.append_nil, if_true, ite_true, g6]
  refine ⟨_, _, _, rfl, ?_⟩
  rw [decide_eq_true (And.intro f.p2 f.p100)]
  refine ⟨_, _, _, rfl, ?_⟩
  rw [decide_eq_true (And.intro (show 0 - 200 ≤ lo by have := f.l0; omega) (show lo ≤ 200 by have := f.lh; have := f.h0; omega))]
  refine ⟨_, _, _, rfl, ?_⟩
  rw [decide_eq_true (And.intro f.lh f.h0)]
  simp only [ha, AH.put_same, Bool.not_true, Bool.false_eq_true, if_false, putF]
  refine ⟨⟨trivial, (show 0 < 1000 by decide)⟩, ⟨trivial, (show 1 < 1000 by decide)⟩, ⟨trivial, (show 2 < 1000 by decide)⟩, ?_⟩
  exact q
/-- an object is made and known for good: nothing is left to be changed -/
theorem made_gone {h : AH} {a : Nat} {c0 c1 c2 c3 : Cell} (n : h a = none) : (fun b => if b = a then none else ((((h.put a c0).put a c1).put a c2).put a c3) b) = h := by
  funext b
  by_cases e : b = a
  · subst e; rw [if_pos rfl, n]
  · rw [if_neg e, AH.put_ne e, AH.put_ne e, AH.put_ne e, AH.put_ne e]
/-- Format(p, lo, hi) -/
theorem make_form {h : AH} {p lo hi : Int} {Q : QE} {R : RE} (f : Fm p lo hi) (q : Q (fmD p lo hi) h) : ∀ a, h a = none → sp_Format_init [.ref a, .int p, .int lo, .int hi] (h.put a (.obj 2 [])) (fun d h' => match d with
    | .non => match true with
      | true => ∃ fs, h' a = some (.obj 2 fs) ∧ Q (.obj 2 fs) (fun b => if b = a then none else h' b)
      | false => Q (.ref a) h'
    | _ => False) R := fun a n => ⟨a, p, lo, hi, rfl, AH.put_same, f, _, AH.put_same, by rw [made_gone n]; exact q⟩
def sp_parts : Spec := fun ds h Q _ => ∃ p lo hi, ds = [fmD p lo hi] ∧ Q (.tup [.int p, .int lo, .int hi]) h
theorem b_parts {Γ : Gam} : BodyOk Γ ir_Format_parts sp_parts := by
  rintro ds h Q R ⟨p, lo, hi, rfl, q⟩
  refine ⟨rfl, ?_⟩
  show wpSs Γ ir_Format_parts.body [.val (fmD p lo hi)] h _
  simp only [ir_Format_parts, wpSs, wpS, wpE, wpEs, wpAnd, wpOr, wpI, wpF, wpT, wpH, Env.at, Env.put, Env.wipe, Env.nox, Slot.nox, wBin, binI, wCmp, cmpI, wBi, isTy, asL, asLT, bindT, bindTs, intsOf, boolsOf, ixL0, ixL1, ixL2, List.getElem?_cons_zero, List.getElem?_cons_succ, List.nil_append, List.cons_append, List.append_nil, if_true, ite_true, fmD, D.asObj, getF]
  exact ⟨(show 3 ≤ SL by decide), q⟩
def sp_check_format : Spec := fun ds h Q _ => ∃ p lo hi, ds = [fmD p lo hi] ∧ Q .non h
theorem b_check_format {Γ : Gam} : BodyOk Γ ir_check_format sp_check_format := by
  rintro ds h Q R ⟨p, lo, hi, rfl, q⟩
  refine ⟨rfl, ?_⟩
  show wpSs Γ ir_check_format.body [.val (fmD p lo hi)] h _
  simp only [ir_check_format, wpSs, wpS, wpE, wpEs, wpAnd, wpOr, wpI, wpF, wpT, wpH, Env.at, Env.put, Env.wipe, Env.nox, Slot.nox, wBin, binI, wCmp, cmpI, wBi, isTy, asL, asLT, bindT, bindTs, intsOf, boolsOf, ixL0, ixL1, ixL2, List.getElem?_cons_zero, List.getElem?_cons_succ, List.nil_append, List.cons_append, List.append_nil, if_true, ite_true, fmD]
  exact q
theorem bits_two {n : Int} (h : n ≠ 0) : ∃ b : Nat, bitsI n = b + 1 ∧ (2 : Int) ^ b ≤ (n.natAbs : Int) ∧ (n.natAbs : Int) < 2 ^ (b + 1) := by
  refine ⟨n.natAbs.log2, by unfold bitsI; rw [if_neg h], ?_, ?_⟩
  · have := Nat.log2_self_le (show n.natAbs ≠ 0 by omega)
    exact_mod_cast this
  · have := Nat.lt_log2_self (n := n.natAbs)
    exact_mod_cast this
def sp_exponent : Spec := fun ds h Q _ => ∃ n d, ds = [num (n, d)] ∧ n ≠ 0 ∧ 0 < d ∧ Sz 4000 n ∧ Sz 4000 d ∧ ∀ k, le2 k (n.natAbs : Int) d → ¬ le2 (k + 1) (n.natAbs : Int) d → Q (.int k) h
theorem b_exponent {Γ : Gam} (g26 : Γ.fn 26 = sp_size_of) (g27 : Γ.fn 27 = sp_is_less) (g28 : Γ.fn 28 = sp_power) : BodyOk Γ ir_exponent sp_exponent := by
  rintro ds h Q R ⟨n, d, rfl, n0, d0, sn, sd, q⟩
  refine ⟨rfl, ?_⟩
  show wpSs Γ ir_exponent.body [.val (num (n, d)), .un, .un, .un] h _
  simp only [ir_exponent, k_exponent_3, wpSs, wpS, wpE, wpEs, wpAnd, wpOr, wpI, wpF, wpT, wpH, Env.at, Env.put, Env.wipe, Env.nox, Slot.nox, wBin, binI, wCmp, cmpI, wBi, isTy, asL, asLT, bindT, bindTs, intsOf, boolsOf, ixL0, ixL1, ixL2, List.getElem?_cons_zero, List.getElem?_cons_succ, List.nil_append, List.cons_append, List.append_nil, if_true, ite_true, g26]
  refine ⟨_, _, rfl, ?_⟩
  simp only [k_exponent_2, wpSs, wpS, wpE, wpEs, wpAnd, wpOr, wpI, wpF, wpT, wpH, Env.at, Env.put, Env.wipe, Env.nox, Slot.nox, wBin, binI, wCmp, cmpI, wBi, isTy, asL, asLT, bindT, bindTs, intsOf, boolsOf, ixL0, ixL1, ixL2, List.getElem?_cons_zero, List.getElem?_cons_succ, List.nil_append, List.cons_append, List.append_nil, if_true, ite_true]
  obtain ⟨i, bi, i1, i2⟩ := bits_two n0
  obtain ⟨j, bj, j1, j2⟩ := bits_two (show d ≠ 0 by omega)
  have ed : (d.natAbs : Int) = d := by omega
  rw [ed] at j1 j2
  have bn : bitsI (n.natAbs : Int) = bitsI n := by
    unfold bitsI
    by_cases z : n = 0
    · exact absurd z n0
    · rw [if_neg z, if_neg (show ((n.natAbs : Nat) : Int) ≠ 0 by omega), Int.natAbs_natCast]
  have li := bitsI_le sn
  have lj := bitsI_le sd
  rw [bn, bi, bj]
  have e0 : ((i + 1 : Nat) : Int) - ((j + 1 : Nat) : Int) = (i : Int) - j := by omega
  rw [e0]
  simp only [k_exponent_1, wpSs, wpS, wpE, wpEs, wpAnd, wpOr, wpI, wpF, wpT, wpH, Env.at, Env.put, Env.wipe, Env.nox, Slot.nox, wBin, binI, wCmp, cmpI, wBi, isTy, asL, asLT, bindT, bindTs, intsOf, boolsOf, ixL0, ixL1, ixL2, List.getElem?_cons_zero, List.getElem?_cons_succ, List.nil_append, List.cons_append, List.append_nil, if_true, ite_true, g27, g28]
  refine ⟨(show 2 ≤ SL by decide), _, rfl, by omega, by omega, ?_⟩
  have sk : Sz 9001 (up ((i : Int) - j)) := Sz.up (N := 9000) (by omega)
  have sk' : Sz 9001 (dn ((i : Int) - j)) := Sz.dn (N := 9000) (by omega)
  have sna : Sz 4000 ((n.natAbs : Nat) : Int) := by unfold Sz at *; rw [Int.natAbs_natCast]; exact sn
  refine ⟨_, _, _, _, rfl, sna.mono (by decide), sd.mono (by decide), sk.mono (by decide), sk'.mono (by decide), ?_⟩
  simp only [wpSs, wpS, wpE, wpEs, wpAnd, wpOr, wpI, wpF, wpT, wpH, Env.at, Env.put, Env.wipe, Env.nox, Slot.nox, wBin, binI, wCmp, cmpI, wBi, isTy, asL, asLT, bindT, bindTs, intsOf, boolsOf, ixL0, ixL1, ixL2, List.getElem?_cons_zero, List.getElem?_cons_succ, List.nil_append, List.cons_append, List.append_nil, if_true, ite_true]
  have hi : ¬ le2 ((i : Int) - j + 1) (n.natAbs : Int) d := by
    rw [show (i : Int) - j + 1 = ((i + 1 : Nat) : Int) - (j : Nat) by omega, le2_iff]
    have a1 := Int.mul_le_mul_of_nonneg_left j1 (Int.le_of_lt (two_pos (i + 1)))
    have a2 := Int.mul_lt_mul_of_pos_right i2 (two_pos j)
    omega
  by_cases c : (n.natAbs : Int) * dn ((i : Int) - j) < up ((i : Int) - j) * d
  · rw [if_pos (decide_eq_true c)]
    refine q _ ?_ ?_
    · rw [show (i : Int) - j - 1 = ((i : Nat) : Int) - ((j + 1 : Nat) : Int) by omega, le2_iff]
      have a1 := Int.mul_le_mul_of_nonneg_left (Int.le_of_lt j2) (Int.le_of_lt (two_pos i))
      have a2 := Int.mul_le_mul_of_nonneg_right i1 (Int.le_of_lt (two_pos (j + 1)))
      omega
    · rw [show (i : Int) - j - 1 + 1 = (i : Int) - j by omega]
      unfold le2
      omega
  · rw [if_neg (by simpa using c)]
    refine q _ ?_ hi
    unfold le2
    omega
def sp_unit_exponent : Spec := fun ds h Q _ => ∃ p lo hi n d, ds = [fmD p lo hi, num (n, d)] ∧ Fm p lo hi ∧ 0 < d ∧ Sz 4000 n ∧ Sz 4000 d ∧ ∀ e, UEx p lo n d e → Q (.int e) h
theorem b_unit_exponent {Γ : Gam} (g29 : Γ.fn 29 = sp_exponent) : BodyOk Γ ir_unit_exponent sp_unit_exponent := by
  rintro ds h Q R ⟨p, lo, hi, n, d, rfl, f, d0, sn, sd, q⟩
  refine ⟨rfl, ?_⟩
  show wpSs Γ ir_unit_exponent.body [.val (fmD p lo hi), .val (num (n, d))] h _
  simp only [ir_unit_exponent, wpSs, wpS, wpE, wpEs, wpAnd, wpOr, wpI, wpF, wpT, wpH, Env.at, Env.put, Env.wipe, Env.nox, Slot.nox, wBin, binI, wCmp, cmpI, wBi, isTy, asL, asLT, bindT, bindTs, intsOf, boolsOf, ixL0, ixL1, ixL2, List.getElem?_cons_zero, List.getElem?_cons_succ, List.nil_append, List.cons_append, List.append_nil, if_true, ite_true, g29, fmD, D.asObj, getF]
  refine ⟨ok_int, ?_⟩
  rw [eqb_ints]
  by_cases c : n = 0
  · subst c
    rw [if_pos (by decide)]
    refine q lo ⟨Int.le_refl _, ?_, .inl rfl⟩
    unfold le2
    have := Int.mul_pos (up_pos (k := lo + p)) d0
    rw [show ((0 : Int).natAbs : Int) = 0 by rfl, Int.zero_mul]
    omega
  · rw [if_neg (by simpa using c)]
    refine ⟨n, d, rfl, c, d0, sn, sd, fun k k1 k2 => ?_⟩
    refine q _ ⟨by omega, ?_, ?_⟩
    · intro z
      exact k2 (z.mono (show k + 1 ≤ max lo (k + 1 - p) + p by omega) (Int.le_of_lt d0))
    · by_cases c2 : lo ≤ k + 1 - p
      · right
        rw [show max lo (k + 1 - p) - 1 + p = k by omega]
        exact k1
      · left
        omega
def sp_is_far : Spec := fun ds h Q _ => ∃ p lo hi n d, ds = [fmD p lo hi, num (n, d)] ∧ Fm p lo hi ∧ 0 < d ∧ Sz 4000 n ∧ Sz 4000 d ∧ Q (.bl (decide (le2 (hi + p) (n.natAbs : Int) d))) h
theorem b_is_far {Γ : Gam} (g26 : Γ.fn 26 = sp_size_of) (g27 : Γ.fn 27 = sp_is_less) (g28 : Γ.fn 28 = sp_power) : BodyOk Γ ir_is_far sp_is_far := by
  rintro ds h Q R ⟨p, lo, hi, n, d, rfl, f, d0, sn, sd, q⟩
  refine ⟨rfl, ?_⟩
  show wpSs Γ ir_is_far.body [.val (fmD p lo hi), .val (num (n, d))] h _
  have := f.p2
  have := f.p100
  have := f.l0
  have := f.lh
  have := f.h0
  simp only [ir_is_far, wpSs, wpS, wpE, wpEs, wpAnd, wpOr, wpI, wpF, wpT, wpH, Env.at, Env.put, Env.wipe, Env.nox, Slot.nox, wBin, binI, wCmp, cmpI, wBi, isTy, asL, asLT, bindT, bindTs, intsOf, boolsOf, ixL0, ixL1, ixL2, List.getElem?_cons_zero, List.getElem?_cons_succ, List.nil_append, List.cons_append, List.append_nil, if_true, ite_true, g26, g27, g28, fmD, D.asObj, getF]
  refine ⟨_, _, rfl, _, rfl, by omega, by omega, ?_⟩
  have sna : Sz 4000 ((n.natAbs : Nat) : Int) := by unfold Sz at *; rw [Int.natAbs_natCast]; exact sn
  refine ⟨_, _, _, _, rfl, sna.mono (by decide), sd.mono (by decide), (Sz.up (N := 9000) (by omega)).mono (by decide), (Sz.dn (N := 9000) (by omega)).mono (by decide), ?_⟩
  have e : (!decide ((n.natAbs : Int) * dn (hi + p) < up (hi + p) * d)) = decide (le2 (hi + p) (n.natAbs : Int) d) := by
    unfold le2
    by_cases c : up (hi + p) * d ≤ (n.natAbs : Int) * dn (hi + p)
    · rw [decide_eq_true c, decide_eq_false (by omega)]; rfl
    · rw [decide_eq_false c, decide_eq_true (by omega)]; rfl
  show Q (.bl (!decide ((n.natAbs : Int) * dn (hi + p) < up (hi + p) * d))) h
  rw [e]
  exact q
end FF

namespace FF
def k_is_number_1 : Ss := .cons (.ret (.ands (.cons (.cmp .ge (.idx (.var 0) (.int 1)) (.int 1)) (.cons (.cmp .eq (.call 23 (.cons (.idx (.var 0) (.int 0)) (.cons (.idx (.var 0) (.int 1)) .nil)) []) (.int 1)) .nil)))) .nil
def k_is_number_2 : Ss := .cons (.ite (.ors (.cons (.not (.call 1 (.cons (.idx (.var 0) (.int 0)) .nil) [])) (.cons (.not (.call 1 (.cons (.idx (.var 0) (.int 1)) .nil) [])) .nil))) (.cons (.ret (.bl false)) .nil) .nil) k_is_number_1
def k_is_number_3 : Ss := .cons (.ite (.ors (.cons (.not (.isin (.var 0) .tup)) (.cons (.cmp .ne (.bi .len (.cons (.var 0) .nil)) (.int 2)) .nil))) (.cons (.ret (.bl false)) .nil) .nil) k_is_number_2
def ir_is_number : Fd := ⟨1, 1, k_is_number_3⟩
def ir_check_number : Fd := ⟨2, 2, (.cons (.ite (.not (.call 45 (.cons (.var 1) .nil) [])) (.cons (.raise 0 (.var 0)) .nil) .nil) .nil)⟩
def ir_minus : Fd := ⟨2, 2, (.cons (.ret (.call 24 (.cons (.bin .sub (.bin .mul (.idx (.var 0) (.int 0)) (.idx (.var 1) (.int 1))) (.bin .mul (.idx (.var 1) (.int 0)) (.idx (.var 0) (.int 1)))) (.cons (.bin .mul (.idx (.var 0) (.int 1)) (.idx (.var 1) (.int 1))) .nil)) [])) .nil)⟩
def k_gap_1 : Ss := .cons (.ret (.call 26 (.cons (.call 47 (.cons (.call 47 (.cons (.var 3) (.cons (.tup (.cons (.call 48 (.cons (.var 3) .nil) []) (.cons (.int 1) .nil))) .nil)) []) (.cons (.tup (.cons (.int 1) (.cons (.int 2) .nil))) .nil)) []) .nil) [])) .nil
def k_gap_2 : Ss := .cons (.set 3 (.call 34 (.cons (.var 1) (.cons (.var 2) .nil)) [])) k_gap_1
def k_gap_3 : Ss := .cons (.set 2 (.call 46 (.cons (.var 0) (.cons (.var 1) .nil)) [])) k_gap_2
def ir_gap : Fd := ⟨2, 4, k_gap_3⟩
def ir_whole_part : Fd := ⟨1, 1, (.cons (.ret (.bin .fdiv (.idx (.var 0) (.int 0)) (.idx (.var 0) (.int 1)))) .nil)⟩
def ir_most_order : Fd := ⟨1, 1, (.cons (.ret (.bin .add (.bin .sub (.bin .shl (.int 1) (.fld (.var 0) 0)) (.int 1)) (.bin .mul (.bin .sub (.fld (.var 0) 2) (.fld (.var 0) 1)) (.bin .shl (.int 1) (.bin .sub (.fld (.var 0) 0) (.int 1)))))) .nil)⟩
def k_order_of_1 : Ss := .cons (.ret (.bin .add (.call 48 (.cons (.call 34 (.cons (.var 1) (.cons (.call 28 (.cons (.var 2) .nil) []) .nil)) []) .nil) []) (.bin .mul (.bin .sub (.var 2) (.fld (.var 0) 1)) (.bin .shl (.int 1) (.bin .sub (.fld (.var 0) 0) (.int 1)))))) .nil
def k_order_of_2 : Ss := .cons (.set 2 (.call 33 (.cons (.var 0) (.cons (.var 1) .nil)) [])) k_order_of_1
def ir_order_of : Fd := ⟨2, 3, k_order_of_2⟩
def k_value_of_1 : Ss := .cons (.ret (.ite (.cmp .ge (.var 1) (.int 0)) (.var 4) (.tup (.cons (.bin .sub (.int 0) (.idx (.var 4) (.int 0))) (.cons (.idx (.var 4) (.int 1)) .nil))))) .nil
def k_value_of_2 : Ss := .cons (.set 4 (.call 32 (.cons (.tup (.cons (.bin .sub (.bi .abs (.cons (.var 1) .nil)) (.bin .mul (.var 3) (.var 2))) (.cons (.int 1) .nil))) (.cons (.call 28 (.cons (.bin .add (.fld (.var 0) 1) (.var 3)) .nil) []) .nil)) [])) k_value_of_1
def k_value_of_3 : Ss := .cons (.set 3 (.bi .max (.cons (.int 0) (.cons (.bin .sub (.bin .fdiv (.bi .abs (.cons (.var 1) .nil)) (.var 2)) (.int 1)) .nil)))) k_value_of_2
def k_value_of_4 : Ss := .cons (.set 2 (.bin .shl (.int 1) (.bin .sub (.fld (.var 0) 0) (.int 1)))) k_value_of_3
def ir_value_of : Fd := ⟨2, 5, k_value_of_4⟩
def k_floor_order_1 : Ss := .cons (.ret (.bin .sub (.bin .sub (.int 0) (.var 2)) (.bi .int (.cons (.cmp .ne (.call 50 (.cons (.var 0) (.cons (.var 2) .nil)) []) (.call 26 (.cons (.var 1) .nil) [])) .nil)))) .nil
def k_floor_order_2 : Ss := .cons (.set 2 (.call 49 (.cons (.var 0) (.cons (.call 26 (.cons (.var 1) .nil) []) .nil)) [])) k_floor_order_1
def k_floor_order_3 : Ss := .cons (.ite (.cmp .ge (.idx (.var 1) (.int 0)) (.int 0)) (.cons (.ret (.call 49 (.cons (.var 0) (.cons (.var 1) .nil)) [])) .nil) .nil) k_floor_order_2
def ir_floor_order : Fd := ⟨2, 3, k_floor_order_3⟩
def ir_ceiling_order : Fd := ⟨2, 2, (.cons (.ret (.bin .sub (.int 0) (.call 51 (.cons (.var 0) (.cons (.tup (.cons (.bin .sub (.int 0) (.idx (.var 1) (.int 0))) (.cons (.idx (.var 1) (.int 1)) .nil))) .nil)) []))) .nil)⟩
def k_is_float_of_1 : Ss := .cons (.ret (.ands (.cons (.cmp .le (.bi .abs (.cons (.var 2) .nil)) (.call 52 (.cons (.var 0) .nil) [])) (.cons (.cmp .eq (.call 50 (.cons (.var 0) (.cons (.var 2) .nil)) []) (.var 1)) .nil)))) .nil
def k_is_float_of_2 : Ss := .cons (.set 2 (.call 51 (.cons (.var 0) (.cons (.var 1) .nil)) [])) k_is_float_of_1
def ir_is_float_of : Fd := ⟨2, 3, k_is_float_of_2⟩
def ir_check_float : Fd := ⟨3, 3, (.cons (.expr (.call 53 (.cons (.var 1) (.cons (.var 2) .nil)) [])) (.cons (.ite (.not (.call 54 (.cons (.var 0) (.cons (.var 2) .nil)) [])) (.cons (.raise 0 (.var 1)) .nil) .nil) .nil))⟩
def ir_greatest : Fd := ⟨1, 1, (.cons (.expr (.call 39 (.cons (.var 0) .nil) [])) (.cons (.ret (.call 50 (.cons (.var 0) (.cons (.call 52 (.cons (.var 0) .nil) []) .nil)) [])) .nil))⟩
def ir_least : Fd := ⟨1, 1, (.cons (.expr (.call 39 (.cons (.var 0) .nil) [])) (.cons (.ret (.call 28 (.cons (.fld (.var 0) 1) .nil) [])) .nil))⟩
def ir_unit : Fd := ⟨2, 2, (.cons (.expr (.call 39 (.cons (.var 0) .nil) [])) (.cons (.expr (.call 53 (.cons (.str [120]) (.cons (.var 1) .nil)) [])) (.cons (.ite (.call 31 (.cons (.var 0) (.cons (.var 1) .nil)) []) (.cons (.raise 0 (.str [120])) .nil) .nil) (.cons (.ret (.call 28 (.cons (.call 33 (.cons (.var 0) (.cons (.var 1) .nil)) []) .nil) [])) .nil))))⟩
def ir_order : Fd := ⟨2, 2, (.cons (.expr (.call 39 (.cons (.var 0) .nil) [])) (.cons (.expr (.call 55 (.cons (.var 0) (.cons (.str [120]) (.cons (.var 1) .nil))) [])) (.cons (.ret (.call 51 (.cons (.var 0) (.cons (.var 1) .nil)) [])) .nil)))⟩
def ir_float_at : Fd := ⟨2, 2, (.cons (.expr (.call 39 (.cons (.var 0) .nil) [])) (.cons (.expr (.call 11 (.cons (.str [107]) (.cons (.var 1) (.cons (.bin .sub (.int 0) (.call 52 (.cons (.var 0) .nil) [])) (.cons (.call 52 (.cons (.var 0) .nil) []) .nil)))) [])) (.cons (.ret (.call 50 (.cons (.var 0) (.cons (.var 1) .nil)) [])) .nil)))⟩
def k_below_1 : Ss := .cons (.ret (.ite (.cmp .lt (.var 2) (.bin .sub (.int 0) (.call 52 (.cons (.var 0) .nil) []))) .non (.call 50 (.cons (.var 0) (.cons (.var 2) .nil)) []))) .nil
def k_below_2 : Ss := .cons (.set 2 (.bi .min (.cons (.bin .sub (.call 56 (.cons (.var 0) (.cons (.var 1) .nil)) []) (.int 1)) (.cons (.call 52 (.cons (.var 0) .nil) []) .nil)))) k_below_1
def k_below_3 : Ss := .cons (.expr (.call 53 (.cons (.str [120]) (.cons (.var 1) .nil)) [])) k_below_2
def k_below_4 : Ss := .cons (.expr (.call 39 (.cons (.var 0) .nil) [])) k_below_3
def ir_below : Fd := ⟨2, 3, k_below_4⟩
def k_above_1 : Ss := .cons (.ret (.ite (.cmp .gt (.var 2) (.call 52 (.cons (.var 0) .nil) [])) .non (.call 50 (.cons (.var 0) (.cons (.var 2) .nil)) []))) .nil
def k_above_2 : Ss := .cons (.set 2 (.bi .max (.cons (.bin .add (.call 51 (.cons (.var 0) (.cons (.var 1) .nil)) []) (.int 1)) (.cons (.bin .sub (.int 0) (.call 52 (.cons (.var 0) .nil) [])) .nil)))) k_above_1
def k_above_3 : Ss := .cons (.expr (.call 53 (.cons (.str [120]) (.cons (.var 1) .nil)) [])) k_above_2
def k_above_4 : Ss := .cons (.expr (.call 39 (.cons (.var 0) .nil) [])) k_above_3
def ir_above : Fd := ⟨2, 3, k_above_4⟩
def k_between_1 : Ss := .cons (.ret (.bi .max (.cons (.int 0) (.cons (.bin .add (.bin .sub (.var 4) (.var 3)) (.int 1)) .nil)))) .nil
def k_between_2 : Ss := .cons (.set 4 (.bi .min (.cons (.call 51 (.cons (.var 0) (.cons (.var 2) .nil)) []) (.cons (.call 52 (.cons (.var 0) .nil) []) .nil)))) k_between_1
def k_between_3 : Ss := .cons (.set 3 (.bi .max (.cons (.call 56 (.cons (.var 0) (.cons (.var 1) .nil)) []) (.cons (.bin .sub (.int 0) (.call 52 (.cons (.var 0) .nil) [])) .nil)))) k_between_2
def k_between_4 : Ss := .cons (.expr (.call 53 (.cons (.str [121]) (.cons (.var 2) .nil)) [])) k_between_3
def k_between_5 : Ss := .cons (.expr (.call 53 (.cons (.str [120]) (.cons (.var 1) .nil)) [])) k_between_4
def k_between_6 : Ss := .cons (.expr (.call 39 (.cons (.var 0) .nil) [])) k_between_5
def ir_between : Fd := ⟨3, 5, k_between_6⟩
def ir_middle : Fd := ⟨3, 3, (.cons (.expr (.call 39 (.cons (.var 0) .nil) [])) (.cons (.expr (.call 55 (.cons (.var 0) (.cons (.str [120]) (.cons (.var 1) .nil))) [])) (.cons (.expr (.call 55 (.cons (.var 0) (.cons (.str [121]) (.cons (.var 2) .nil))) [])) (.cons (.ret (.call 50 (.cons (.var 0) (.cons (.bin .fdiv (.bin .add (.call 51 (.cons (.var 0) (.cons (.var 1) .nil)) []) (.call 51 (.cons (.var 0) (.cons (.var 2) .nil)) [])) (.int 2)) .nil)) [])) .nil))))⟩
def ir_is_float : Fd := ⟨2, 2, (.cons (.expr (.call 39 (.cons (.var 0) .nil) [])) (.cons (.expr (.call 53 (.cons (.str [120]) (.cons (.var 1) .nil)) [])) (.cons (.ret (.call 54 (.cons (.var 0) (.cons (.var 1) .nil)) [])) .nil)))⟩
end FF

namespace FF
/-! ### numbers without common divisors -/
def Red (n d : Int) : Prop := 0 < d ∧ gg n d = 1
theorem fr_red {n d : Int} (h : 0 < d) : Red (fr n d).1 (fr n d).2 := by
  refine ⟨fr_pos h, ?_⟩
  have g := gg_pos (n := n) h
  obtain ⟨h1, h2⟩ := fr_mul (n := n) (d := d)
  have e : gg (gg n d * (fr n d).1) (gg n d * (fr n d).2) = gg n d := by rw [← h1, ← h2]
  have e2 : gg (gg n d * (fr n d).1) (gg n d * (fr n d).2) = gg n d * gg (fr n d).1 (fr n d).2 := by
    generalize gg n d = k at *
    show ((Int.gcd (k * _) (k * _) : Nat) : Int) = k * ((Int.gcd _ _ : Nat) : Int)
    rw [Int.gcd_mul_left, Int.natCast_mul]
    congr 1
    omega
  have : gg n d * 1 = gg n d * gg (fr n d).1 (fr n d).2 := by rw [← e2, e, Int.mul_one]
  exact (Int.eq_of_mul_eq_mul_left (show gg n d ≠ 0 by omega) this).symm
theorem Red.fr {n d : Int} (h : Red n d) : fr n d = (n, d) := by
  unfold FF.fr
  rw [h.2, Int.ediv_one, Int.ediv_one]
theorem Red.neg {n d : Int} (h : Red n d) : Red (-n) d := by
  refine ⟨h.1, ?_⟩
  have := h.2
  show ((Int.gcd (-n) d : Nat) : Int) = 1
  rw [Int.neg_gcd]
  exact this
theorem fr_fr {n d : Int} (h : 0 < d) : fr (fr n d).1 (fr n d).2 = fr n d := (fr_red h).fr
theorem num_eqb {x y : Int × Int} : D.eqb (num x) (num y) = decide (x = y) := by
  obtain ⟨a, b⟩ := x
  obtain ⟨c, d⟩ := y
  show (D.eqb (.int a) (.int c) && (D.eqb (.int b) (.int d) && true)) = _
  rw [eqb_ints, eqb_ints]
  by_cases h1 : a = c <;> by_cases h2 : b = d <;> simp [h1, h2]
theorem num_ok {x y : Int × Int} : eqOk (num x) (num y) := ⟨rfl, rfl⟩
theorem Red.eq {a b c d : Int} (h1 : Red a b) (h2 : Red c d) : (a, b) = (c, d) ↔ a * d = c * b := by
  rw [← h1.fr, ← h2.fr]
  exact fr_eq h1.1 h2.1
/-! ### floats by their numbers -/
def HH (p : Int) : Int := 2 ^ (p - 1).toNat
theorem HH_pos {p : Int} : 0 < HH p := two_pos _
/-- how often the unit is doubled -/
def stp (p k : Int) : Nat := (k / HH p - 1).toNat
/-- float number k from 0 on, in least units -/
def VN (p k : Int) : Int := (k - stp p k * HH p) * 2 ^ stp p k
def VI (p k : Int) : Int := if 0 ≤ k then VN p k else -VN p (-k)
theorem VN_zero {p : Int} : VN p 0 = 0 := by
  unfold VN stp
  simp
theorem VI_neg {p k : Int} : VI p (-k) = -VI p k := by
  unfold VI
  by_cases a : 0 ≤ k
  · rw [if_pos a]
    by_cases b : k = 0
    · subst b
      rw [if_pos (by decide), show -(0 : Int) = 0 from rfl, VN_zero]; rfl
    · rw [if_neg (by omega), Int.neg_neg]
  · rw [if_neg a, if_pos (by omega), Int.neg_neg]
theorem VI_pos {p k : Int} (h : 0 ≤ k) : VI p k = VN p k := if_pos h
theorem two_succ (s : Nat) : (2 : Int) ^ (s + 1) = 2 * 2 ^ s := by rw [Int.pow_succ, Int.mul_comm]
/-- q units of 2 ** s -/
theorem VN_at {p q : Int} {s : Nat} (h : s = 0 ∧ 0 ≤ q ∧ q < 2 * HH p ∨ HH p ≤ q ∧ q < 2 * HH p) : stp p (q + s * HH p) = s ∧ VN p (q + s * HH p) = q * 2 ^ s := by
  have hp := HH_pos (p := p)
  have e : stp p (q + s * HH p) = s := by
    unfold stp
    rw [Int.add_mul_ediv_right _ _ (show HH p ≠ 0 by omega)]
    rcases h with ⟨rfl, h1, h2⟩ | ⟨h1, h2⟩
    · have : q / HH p ≤ 1 := by
        have := (Int.ediv_lt_iff_lt_mul (a := q) (b := 2) hp).mpr h2
        omega
      omega
    · have a : q / HH p < 2 := (Int.ediv_lt_iff_lt_mul hp).mpr h2
      have b : 1 ≤ q / HH p := (Int.le_ediv_iff_mul_le hp).mpr (by omega)
      omega
  refine ⟨e, ?_⟩
  unfold VN
  rw [e]
  congr 1
  omega
/-- each number from 0 on is so -/
theorem k_at {p k : Int} (h : 0 ≤ k) : ∃ (q : Int) (s : Nat), k = q + s * HH p ∧ (s = 0 ∧ 0 ≤ q ∧ q < 2 * HH p ∨ HH p ≤ q ∧ q < 2 * HH p) := by
  have hp := HH_pos (p := p)
  have e := Int.ediv_mul_add_emod k (HH p)
  have r0 := Int.emod_nonneg k (show HH p ≠ 0 by omega)
  have r1 := Int.emod_lt_of_pos k hp
  have d0 : 0 ≤ k / HH p := Int.ediv_nonneg h (Int.le_of_lt hp)
  by_cases c : k / HH p ≤ 1
  · refine ⟨k, 0, by omega, .inl ⟨rfl, h, ?_⟩⟩
    have := (Int.ediv_lt_iff_lt_mul (a := k) (b := 2) hp).mp (by omega)
    omega
  · obtain ⟨s, hs⟩ : ∃ s : Nat, k / HH p = s + 1 := ⟨(k / HH p - 1).toNat, by omega⟩
    rw [hs, Int.add_mul, Int.one_mul] at e
    exact ⟨k - s * HH p, s, by omega, .inr ⟨by omega, by omega⟩⟩
theorem VN_succ {p k : Int} (h : 0 ≤ k) : VN p (k + 1) = VN p k + 2 ^ stp p k := by
  obtain ⟨q, s, rfl, c⟩ := k_at (p := p) h
  have hp := HH_pos (p := p)
  obtain ⟨e1, e2⟩ := VN_at c
  rw [e1, e2]
  by_cases z : q + 1 < 2 * HH p
  · have c' : s = 0 ∧ 0 ≤ q + 1 ∧ q + 1 < 2 * HH p ∨ HH p ≤ q + 1 ∧ q + 1 < 2 * HH p := by omega
    have e3 := (VN_at c').2
    rw [show q + s * HH p + 1 = q + 1 + s * HH p by omega, e3, Int.add_mul, Int.one_mul]
  · have e4 : q + 1 = 2 * HH p := by omega
    have c' : s + 1 = 0 ∧ 0 ≤ HH p ∧ HH p < 2 * HH p ∨ HH p ≤ HH p ∧ HH p < 2 * HH p := by omega
    have e3 := (VN_at (s := s + 1) c').2
    have e5 : q + s * HH p + 1 = HH p + ((s + 1 : Nat) : Int) * HH p := by
      rw [Int.natCast_add, Int.add_mul]
      have : ((1 : Nat) : Int) * HH p = HH p := by rw [Int.natCast_one, Int.one_mul]
      omega
    rw [e5, e3, two_succ]
    have : q * 2 ^ s + 2 ^ s = (q + 1) * 2 ^ s := by rw [Int.add_mul, Int.one_mul]
    rw [this, e4, Int.mul_assoc, Int.mul_left_comm]
theorem VI_lt_succ {p k : Int} : VI p k < VI p (k + 1) := by
  by_cases h : 0 ≤ k
  · rw [VI_pos h, VI_pos (by omega), VN_succ h]
    have := two_pos (stp p k)
    omega
  · have e1 : VI p k = -VI p (-k) := by rw [VI_neg, Int.neg_neg]
    have e2 : VI p (k + 1) = -VI p (-k - 1) := by rw [← VI_neg]; congr 1; omega
    have h2 : 0 ≤ -k - 1 := by omega
    have := VN_succ (p := p) h2
    rw [show -k - 1 + 1 = -k by omega] at this
    have t := two_pos (stp p (-k - 1))
    rw [e1, e2, VI_pos (show 0 ≤ -k by omega), VI_pos h2]
    omega
theorem VI_lt {p k : Int} : ∀ {j : Int}, k < j → VI p k < VI p j := by
  intro j h
  obtain ⟨n, rfl⟩ : ∃ n : Nat, j = k + 1 + n := ⟨(j - k - 1).toNat, by omega⟩
  induction n with
  | zero =>
    rw [show k + 1 + ((0 : Nat) : Int) = k + 1 by omega]
    exact VI_lt_succ
  | succ n ih =>
    have := VI_lt_succ (p := p) (k := k + 1 + (n : Int))
    have := ih (by omega)
    rw [show k + 1 + ((n + 1 : Nat) : Int) = k + 1 + (n : Int) + 1 by omega]
    omega
theorem VI_le {p k j : Int} (h : k ≤ j) : VI p k ≤ VI p j := by
  by_cases e : k = j
  · subst e; exact Int.le_refl _
  · exact Int.le_of_lt (VI_lt (by omega))
theorem VI_le_iff {p k j : Int} : VI p k ≤ VI p j ↔ k ≤ j := by
  constructor
  · intro h
    apply Classical.byContradiction
    intro z
    have := VI_lt (p := p) (show j < k by omega)
    omega
  · exact VI_le
theorem VI_inj {p k j : Int} (h : VI p k = VI p j) : k = j := by
  have := VI_le_iff (p := p) (k := k) (j := j)
  have := VI_le_iff (p := p) (k := j) (j := k)
  omega
/-- float k is at most n / d -/
def leV (p lo k n d : Int) : Prop := VI p k * up lo * d ≤ n * dn lo
/-- float k is n / d -/
def eqV (p lo k n d : Int) : Prop := VI p k * up lo * d = n * dn lo
/-- n / d lies from float k on, ahead of the next one -/
def FO (p lo n d k : Int) : Prop := leV p lo k n d ∧ ¬ leV p lo (k + 1) n d
theorem lo_pos {lo d : Int} (h : 0 < d) : 0 < up lo * d := Int.mul_pos up_pos h
theorem leV.mono {p lo k j n d : Int} (hd : 0 < d) (h : leV p lo k n d) (l : j ≤ k) : leV p lo j n d := by
  unfold leV at *
  rw [Int.mul_assoc] at *
  have := Int.mul_le_mul_of_nonneg_right (VI_le (p := p) l) (Int.le_of_lt (lo_pos (lo := lo) hd))
  omega
theorem FO.uniq {p lo n d k j : Int} (hd : 0 < d) (h : FO p lo n d k) (g : FO p lo n d j) : k = j := by
  rcases Int.lt_trichotomy k j with z | z | z
  · exact absurd (g.1.mono hd (by omega)) h.2
  · exact z
  · exact absurd (h.1.mono hd (by omega)) g.2
theorem FO.le {p lo n d k j : Int} (hd : 0 < d) (h : FO p lo n d k) : leV p lo j n d ↔ j ≤ k := by
  constructor
  · intro g
    apply Classical.byContradiction
    intro z
    exact h.2 (g.mono hd (by omega))
  · exact fun l => h.1.mono hd l
theorem eqV.fo {p lo n d k : Int} (hd : 0 < d) (h : eqV p lo k n d) : FO p lo n d k := by
  unfold FO leV eqV at *
  refine ⟨by omega, ?_⟩
  rw [← h, Int.mul_assoc, Int.mul_assoc]
  have := Int.mul_lt_mul_of_pos_right (VI_lt_succ (p := p) (k := k)) (lo_pos (lo := lo) hd)
  omega
theorem leV.scale {p lo k n d c : Int} (hc : 0 < c) : leV p lo k (c * n) (c * d) ↔ leV p lo k n d := by
  unfold leV
  have e1 : VI p k * up lo * (c * d) = c * (VI p k * up lo * d) := Int.mul_left_comm ..
  have e2 : c * n * dn lo = c * (n * dn lo) := Int.mul_assoc ..
  rw [e1, e2, mul_le_iff hc]
theorem leV.fr {p lo k n d : Int} (hd : 0 < d) : leV p lo k (fr n d).1 (fr n d).2 ↔ leV p lo k n d := by
  have h := fr_mul (n := n) (d := d)
  have g := gg_pos (n := n) hd
  rw [← leV.scale (n := (FF.fr n d).1) g, ← h.1, ← h.2]
theorem FO.fr {p lo k n d : Int} (hd : 0 < d) : FO p lo (fr n d).1 (fr n d).2 k ↔ FO p lo n d k := by
  unfold FO
  rw [leV.fr hd, leV.fr hd]
theorem up_add {a : Int} (s : Nat) : up (a + s) * dn a = 2 ^ s * up a * dn (a + s) := by
  have h := up_dn (a.toNat + s) (-a).toNat
  rw [show ((a.toNat + s : Nat) : Int) - ((-a).toNat : Nat) = a + s by omega] at h
  unfold up dn at *
  rw [h, Int.pow_add, Int.mul_comm, Int.mul_comm ((2 : Int) ^ a.toNat)]
end FF

namespace FF
theorem le2_units {e n d : Int} (s : Nat) : le2 (e + s) n d ↔ 2 ^ s * (d * up e) ≤ n * dn e := by
  unfold le2
  have h := up_add (a := e) s
  have p1 := dn_pos (k := e)
  have p2 := dn_pos (k := e + s)
  rw [← mul_le_iff (a := up (e + s) * d) p1, ← mul_le_iff (a := 2 ^ s * (d * up e)) p2]
  have e1 : dn e * (up (e + s) * d) = dn (e + s) * (2 ^ s * (d * up e)) := by
    rw [← Int.mul_assoc, Int.mul_comm (dn e), h, Int.mul_comm _ (dn (e + s)), Int.mul_assoc, Int.mul_assoc, Int.mul_comm (up e)]
  have e2 : dn e * (n * dn (e + s)) = dn (e + s) * (n * dn e) := by
    rw [Int.mul_left_comm, Int.mul_comm (dn e), ← Int.mul_assoc, Int.mul_comm n, Int.mul_assoc]
  rw [e1, e2]
theorem leV_units {lo n d m : Int} (s : Nat) : m * 2 ^ s * up lo * d ≤ n * dn lo ↔ m * (d * up (lo + s)) ≤ n * dn (lo + s) := by
  have h := up_add (a := lo) s
  have p1 := dn_pos (k := lo)
  have p2 := dn_pos (k := lo + s)
  rw [← mul_le_iff (a := m * (d * up (lo + s))) p1, ← mul_le_iff (a := m * 2 ^ s * up lo * d) p2]
  have e1 : dn lo * (m * (d * up (lo + s))) = dn (lo + s) * (m * 2 ^ s * up lo * d) := by
    have : dn lo * (m * (d * up (lo + s))) = m * d * (up (lo + s) * dn lo) := by
      rw [Int.mul_comm (dn lo), Int.mul_assoc, Int.mul_assoc, Int.mul_assoc]
    rw [this, h]
    generalize dn (lo + s) = a
    generalize (2 : Int) ^ s = b
    generalize up lo = c
    rw [Int.mul_comm a, Int.mul_assoc m d, Int.mul_assoc m b, Int.mul_assoc m, Int.mul_assoc m]
    congr 1
    rw [← Int.mul_assoc, ← Int.mul_assoc d, Int.mul_comm d b, Int.mul_assoc b d, Int.mul_comm d c, ← Int.mul_assoc]
  have e2 : dn lo * (n * dn (lo + s)) = dn (lo + s) * (n * dn lo) := by
    rw [Int.mul_left_comm, Int.mul_comm (dn lo), ← Int.mul_assoc, Int.mul_comm n, Int.mul_assoc]
  rw [e1, e2]
theorem fr_div {a b : Int} (hb : 0 < b) : (fr a b).1 / (fr a b).2 = a / b := by
  have h := fr_mul (n := a) (d := b)
  have g := gg_pos (n := a) hb
  have e : a / b = (gg a b * (fr a b).1) / (gg a b * (fr a b).2) := by rw [← h.1, ← h.2]
  rw [e, Int.mul_ediv_mul_of_pos _ _ g]
/-- the unit's place, and the unit's many -/
theorem FO.of_unit {p lo n d e : Int} (p1 : 1 ≤ p) (hd : 0 < d) (hn : 0 ≤ n) (u : UEx p lo n d e) : FO p lo n d (n * dn e / (d * up e) + (e - lo) * HH p) ∧ stp p (n * dn e / (d * up e) + (e - lo) * HH p) = (e - lo).toNat ∧ 0 ≤ n * dn e / (d * up e) ∧ n * dn e / (d * up e) < 2 * HH p := by
  obtain ⟨u0, u1, u2⟩ := u
  rw [show ((n.natAbs : Nat) : Int) = n by omega] at u1 u2
  have mp : 0 < d * up e := Int.mul_pos hd up_pos
  obtain ⟨s, hs⟩ : ∃ s : Nat, e = lo + s := ⟨(e - lo).toNat, by omega⟩
  have q0 : 0 ≤ n * dn e / (d * up e) := Int.ediv_nonneg (Int.mul_nonneg hn (Int.le_of_lt dn_pos)) (Int.le_of_lt mp)
  have hH : (2 : Int) ^ p.toNat = 2 * HH p := by
    unfold HH
    rw [← two_succ]
    congr 1
    omega
  have q2 : n * dn e / (d * up e) < 2 * HH p := by
    rw [Int.ediv_lt_iff_lt_mul mp, ← hH]
    have := le2_units (e := e) (n := n) (d := d) p.toNat
    rw [show ((p.toNat : Nat) : Int) = p by omega] at this
    exact Int.not_le.mp fun z => u1 (this.mpr z)
  have q1 : e = lo ∨ HH p ≤ n * dn e / (d * up e) := by
    rcases u2 with z | z
    · exact .inl z
    · right
      rw [Int.le_ediv_iff_mul_le mp]
      have := le2_units (e := e) (n := n) (d := d) (p - 1).toNat
      rw [show e + (((p - 1).toNat : Nat) : Int) = e - 1 + p by omega] at this
      exact this.mp z
  generalize hq : n * dn e / (d * up e) = q at *
  have c : s = 0 ∧ 0 ≤ q ∧ q < 2 * HH p ∨ HH p ≤ q ∧ q < 2 * HH p := by omega
  obtain ⟨v1, v2⟩ := VN_at c
  have es : e - lo = (s : Int) := by omega
  rw [es]
  have k0 : 0 ≤ q + s * HH p := by
    have := Int.mul_nonneg (show (0 : Int) ≤ s by omega) (Int.le_of_lt (HH_pos (p := p)))
    omega
  refine ⟨⟨?_, ?_⟩, by rw [v1]; omega, q0, q2⟩
  · unfold leV
    rw [VI_pos k0, v2, leV_units, ← hs]
    have := Int.ediv_mul_le (n * dn e) (show d * up e ≠ 0 by omega)
    rw [hq] at this
    exact this
  · unfold leV
    have e3 : VI p (q + s * HH p + 1) = (q + 1) * 2 ^ s := by
      rw [VI_pos (by omega), VN_succ k0, v1, v2, Int.add_mul, Int.one_mul]
    rw [e3, leV_units, ← hs]
    have := Int.lt_ediv_add_one_mul_self (n * dn e) mp
    rw [hq] at this
    omega
/-! ### the program's defs -/
def sp_is_number : Spec := fun ds h Q _ => ∃ n d, ds = [num (n, d)] ∧ Q (.bl (decide (1 ≤ d) && decide (gg n d = 1))) h
theorem b_is_number {Γ : Gam} (g1 : Γ.fn 1 = sp_is_integer) (g23 : Γ.fn 23 = sp_divisor) : BodyOk Γ ir_is_number sp_is_number := by
  rintro ds h Q R ⟨n, d, rfl, q⟩
  refine ⟨rfl, ?_⟩
  show wpSs Γ ir_is_number.body [.val (num (n, d))] h _
  simp only [ir_is_number, k_is_number_3, wpSs, wpS, wpE, wpEs, wpAnd, wpOr, wpI, wpF, wpT, wpH, Env.at, Env.put, Env.wipe, Env.nox, Slot.nox, wBin, binI, wCmp, cmpI, wBi, isTy, asL, asLT, bindT, bindTs, intsOf, boolsOf, ixL0, ixL1, ixL2, List.getElem?_cons_zero, List.getElem?_cons_succ, List.nil_append, List.cons_append, List.append_nil, if_true, ite_true, g1, g23]
  refine ⟨ok_int, ?_⟩
  rw [show (!D.eqb (.int ((([.int n, .int d] : List D).length : Nat) : Int)) (.int 2)) = false by rfl]
  rw [if_neg (show ¬ (false = true) by decide)]
  simp only [k_is_number_2, wpSs, wpS, wpE, wpEs, wpAnd, wpOr, wpI, wpF, wpT, wpH, Env.at, Env.put, Env.wipe, Env.nox, Slot.nox, wBin, binI, wCmp, cmpI, wBi, isTy, asL, asLT, bindT, bindTs, intsOf, boolsOf, ixL0, ixL1, ixL2, List.getElem?_cons_zero, List.getElem?_cons_succ, List.nil_append, List.cons_append, List.append_nil, if_true, ite_true, g1]
  refine ⟨.int n, true, rfl, rfl, ?_⟩
  refine ⟨.int d, true, rfl, rfl, ?_⟩
  show wpSs Γ k_is_number_1 _ _ _
  simp only [k_is_number_1, wpSs, wpS, wpE, wpEs, wpAnd, wpOr, wpI, wpF, wpT, wpH, Env.at, Env.put, Env.wipe, Env.nox, Slot.nox, wBin, binI, wCmp, cmpI, wBi, isTy, asL, asLT, bindT, bindTs, intsOf, boolsOf, ixL0, ixL1, ixL2, List.getElem?_cons_zero, List.getElem?_cons_succ, List.nil_append, List.cons_append, List.append_nil, if_true, ite_true, g23]
  by_cases c : 1 ≤ d
  · rw [decide_eq_true c] at q ⊢
    refine ⟨n, d, rfl, ok_int, ?_⟩
    rw [eqb_ints]
    exact q
  · rw [decide_eq_false c] at q ⊢
    exact q
def sp_check_number : Spec := fun ds h Q _ => ∃ s n d, ds = [.str s, num (n, d)] ∧ Red n d ∧ Q .non h
theorem b_check_number {Γ : Gam} (g45 : Γ.fn 45 = sp_is_number) : BodyOk Γ ir_check_number sp_check_number := by
  rintro ds h Q R ⟨s, n, d, rfl, r, q⟩
  refine ⟨rfl, ?_⟩
  show wpSs Γ ir_check_number.body [.val (.str s), .val (num (n, d))] h _
  simp only [ir_check_number, wpSs, wpS, wpE, wpEs, wpAnd, wpOr, wpI, wpF, wpT, wpH, Env.at, Env.put, Env.wipe, Env.nox, Slot.nox, wBin, binI, wCmp, cmpI, wBi, isTy, asL, asLT, bindT, bindTs, intsOf, boolsOf, ixL0, ixL1, ixL2, List.getElem?_cons_zero, List.getElem?_cons_succ, List.nil_append, List.cons_append, List.append_nil, if_true, ite_true, g45]
  refine ⟨n, d, rfl, ?_⟩
  have := r.1
  rw [decide_eq_true (show 1 ≤ d by omega), decide_eq_true r.2]
  exact q
def sp_minus : Spec := fun ds h Q _ => ∃ a b c d, ds = [num (a, b), num (c, d)] ∧ 0 < b ∧ 0 < d ∧ Sz 4500 b ∧ Sz 4500 d ∧ Sz 100000 a ∧ Sz 100000 c ∧ Q (num (fr (a * d - c * b) (b * d))) h
theorem b_minus {Γ : Gam} (g24 : Γ.fn 24 = sp_fraction) : BodyOk Γ ir_minus sp_minus := by
  rintro ds h Q R ⟨a, b, c, d, rfl, b0, d0, sb, sd, sa, sc, q⟩
  refine ⟨rfl, ?_⟩
  show wpSs Γ ir_minus.body [.val (num (a, b)), .val (num (c, d))] h _
  simp only [ir_minus, wpSs, wpS, wpE, wpEs, wpAnd, wpOr, wpI, wpF, wpT, wpH, Env.at, Env.put, Env.wipe, Env.nox, Slot.nox, wBin, binI, wCmp, cmpI, wBi, isTy, asL, asLT, bindT, bindTs, intsOf, boolsOf, ixL0, ixL1, ixL2, List.getElem?_cons_zero, List.getElem?_cons_succ, List.nil_append, List.cons_append, List.append_nil, if_true, ite_true, g24]
  exact ⟨mul_ok sa sd (by decide), mul_ok sc sb (by decide), mul_ok sb sd (by decide), _, _, rfl, Int.mul_pos b0 d0, sb.mul sd, q⟩
def sp_whole_part : Spec := fun ds h Q _ => ∃ n d, ds = [num (n, d)] ∧ 0 < d ∧ Sz 9000 d ∧ Q (.int (n / d)) h
theorem b_whole_part {Γ : Gam} : BodyOk Γ ir_whole_part sp_whole_part := by
  rintro ds h Q R ⟨n, d, rfl, d0, sd, q⟩
  refine ⟨rfl, ?_⟩
  show wpSs Γ ir_whole_part.body [.val (num (n, d))] h _
  simp only [ir_whole_part, wpSs, wpS, wpE, wpEs, wpAnd, wpOr, wpI, wpF, wpT, wpH, Env.at, Env.put, Env.wipe, Env.nox, Slot.nox, wBin, binI, wCmp, cmpI, wBi, isTy, asL, asLT, bindT, bindTs, intsOf, boolsOf, ixL0, ixL1, ixL2, List.getElem?_cons_zero, List.getElem?_cons_succ, List.nil_append, List.cons_append, List.append_nil, if_true, ite_true, fdiv_pos d0]
  exact ⟨⟨by omega, bitsI_le sd⟩, q⟩
/-- the greatest float's number -/
def mo (p lo hi : Int) : Int := 2 * HH p - 1 + (hi - lo) * HH p
theorem HH_at {p : Int} (h : 1 ≤ p) : (2 : Int) ^ p.toNat = 2 * HH p := by
  unfold HH
  rw [← two_succ]
  congr 1
  omega
theorem mo_pos {p lo hi : Int} (h : lo ≤ hi) : 0 < mo p lo hi := by
  have := HH_pos (p := p)
  have := Int.mul_nonneg (show 0 ≤ hi - lo by omega) (Int.le_of_lt (HH_pos (p := p)))
  unfold mo
  omega
theorem HH_sz {p : Int} (h : p ≤ 100) : Sz 100 (HH p) := by
  unfold Sz HH
  rw [Int.natAbs_pow]
  exact Nat.pow_lt_pow_right (by decide) (by omega)
def sp_most_order : Spec := fun ds h Q _ => ∃ p lo hi, ds = [fmD p lo hi] ∧ Fm p lo hi ∧ Q (.int (mo p lo hi)) h
theorem b_most_order {Γ : Gam} : BodyOk Γ ir_most_order sp_most_order := by
  rintro ds h Q R ⟨p, lo, hi, rfl, ⟨p2, p100, l0, lh, h0⟩, q⟩
  refine ⟨rfl, ?_⟩
  show wpSs Γ ir_most_order.body [.val (fmD p lo hi)] h _
  have b1 : bitsI 1 = 1 := by decide
  have hs : Sz 64 (hi - lo) := by unfold Sz; omega
  simp only [ir_most_order, wpSs, wpS, wpE, wpEs, wpAnd, wpOr, wpI, wpF, wpT, wpH, Env.at, Env.put, Env.wipe, Env.nox, Slot.nox, wBin, binI, wCmp, cmpI, wBi, isTy, asL, asLT, bindT, bindTs, intsOf, boolsOf, ixL0, ixL1, ixL2, List.getElem?_cons_zero, List.getElem?_cons_succ, List.nil_append, List.cons_append, List.append_nil, if_true, ite_true, fmD, D.asObj, getF, Int.one_mul]
  refine ⟨⟨by omega, by rw [b1]; omega⟩, ⟨by omega, by rw [b1]; omega⟩, mul_small hs, ?_⟩
  rw [HH_at (by omega)]
  exact q
/-- the exponent and size of what is put in -/
structure Nz (n d : Int) : Prop where
  d0 : 0 < d
  sn : Sz 4000 n
  sd : Sz 4000 d
theorem UEx.le {p lo n d e : Int} (hd : 0 < d) (l : lo ≤ 4000) (sn : Sz 4000 n) (p1 : 1 ≤ p) (u : UEx p lo n d e) : e ≤ 4000 := by
  apply Classical.byContradiction
  intro z
  obtain ⟨u0, u1, u2⟩ := u
  rcases u2 with y | y
  · omega
  · have h := (le2_at (e - 1 + p).toNat 0 (by omega)).mp y
    have k : (2 : Int) ^ 4000 ≤ 2 ^ (e - 1 + p).toNat := pow_le (by omega)
    have k2 := Int.mul_le_mul_of_nonneg_left (show (1 : Int) ≤ d by omega) (Int.le_of_lt (two_pos (e - 1 + p).toNat))
    have e4 : ((2 ^ 4000 : Nat) : Int) = 2 ^ 4000 := Int.natCast_pow 2 4000
    unfold Sz at sn
    generalize (2 : Int) ^ (e - 1 + p).toNat = a at *
    generalize (2 : Int) ^ 4000 = b at *
    generalize (2 : Nat) ^ 4000 = c at *
    simp only [Int.pow_zero, Int.mul_one] at *
    omega
def KB (p k : Int) : Prop := -(5000 * HH p) < k ∧ k < 5000 * HH p
def sp_order_of : Spec := fun ds h Q _ => ∃ p lo hi n d, ds = [fmD p lo hi, num (n, d)] ∧ Fm p lo hi ∧ Nz n d ∧ 0 ≤ n ∧ ∀ k, FO p lo n d k → 0 ≤ k → KB p k → Q (.int k) h
theorem b_order_of {Γ : Gam} (g28 : Γ.fn 28 = sp_power) (g33 : Γ.fn 33 = sp_unit_exponent) (g34 : Γ.fn 34 = sp_over) (g48 : Γ.fn 48 = sp_whole_part) : BodyOk Γ ir_order_of sp_order_of := by
  rintro ds h Q R ⟨p, lo, hi, n, d, rfl, f, ⟨d0, sn, sd⟩, n0, q⟩
  refine ⟨rfl, ?_⟩
  show wpSs Γ ir_order_of.body [.val (fmD p lo hi), .val (num (n, d)), .un] h _
  simp only [ir_order_of, k_order_of_2, wpSs, wpS, wpE, wpEs, wpAnd, wpOr, wpI, wpF, wpT, wpH, Env.at, Env.put, Env.wipe, Env.nox, Slot.nox, wBin, binI, wCmp, cmpI, wBi, isTy, asL, asLT, bindT, bindTs, intsOf, boolsOf, ixL0, ixL1, ixL2, List.getElem?_cons_zero, List.getElem?_cons_succ, List.nil_append, List.cons_append, List.append_nil, if_true, ite_true, g33]
  refine ⟨p, lo, hi, n, d, rfl, f, d0, sn, sd, fun e he => ?_⟩
  obtain ⟨p2, p100, l0, lh, h0⟩ := id f
  have e0 := he.1
  have e4 := he.le d0 (by omega) sn (by omega)
  have mp : 0 < d * up e := Int.mul_pos d0 up_pos
  have ue : Sz 4001 (up e) := Sz.up (N := 4000) e4
  have de : Sz 201 (dn e) := Sz.dn (N := 200) (by omega)
  have b1 : bitsI 1 = 1 := by decide
  have hs : Sz 64 (e - lo) := by unfold Sz; omega
  simp only [k_order_of_1, wpSs, wpS, wpE, wpEs, wpAnd, wpOr, wpI, wpF, wpT, wpH, Env.at, Env.put, Env.wipe, Env.nox, Slot.nox, wBin, binI, wCmp, cmpI, wBi, isTy, asL, asLT, bindT, bindTs, intsOf, boolsOf, ixL0, ixL1, ixL2, List.getElem?_cons_zero, List.getElem?_cons_succ, List.nil_append, List.cons_append, List.append_nil, if_true, ite_true, g28, g34, g48, fmD, D.asObj, getF, Int.one_mul]
  refine ⟨e, rfl, by omega, by omega, n, d, up e, dn e, rfl, d0, up_pos, sd.mono (by decide), ue.mono (by decide), sn.mono (by decide), de.mono (by decide), (fr (n * dn e) (d * up e)).1, (fr (n * dn e) (d * up e)).2, rfl, fr_pos mp, ((sd.mul ue).fr2 mp).mono (by decide), ?_⟩
  refine ⟨⟨by omega, by rw [b1]; omega⟩, mul_small hs, ?_⟩
  have k := FO.of_unit (by omega) d0 n0 he
  have hp := HH_pos (p := p)
  have el : 0 ≤ (e - lo) * HH p := Int.mul_nonneg (by omega) (Int.le_of_lt hp)
  have eu : (e - lo) * HH p ≤ 4200 * HH p := Int.mul_le_mul_of_nonneg_right (by omega) (Int.le_of_lt hp)
  have q := q _ k.1 (by omega) ⟨by omega, by omega⟩
  rw [fr_div mp]
  exact q
/-- the value of a float -/
def vR (p lo k : Int) : Int × Int := fr (VI p k * up lo) (dn lo)
theorem vR_neg {p lo k : Int} : vR p lo (-k) = (-(vR p lo k).1, (vR p lo k).2) := by
  unfold vR
  rw [VI_neg, Int.neg_mul, fr_neg dn_pos]
theorem vR_red {p lo k : Int} : Red (vR p lo k).1 (vR p lo k).2 := fr_red dn_pos
def sp_value_of : Spec := fun ds h Q _ => ∃ p lo hi k, ds = [fmD p lo hi, .int k] ∧ Fm p lo hi ∧ KB p k ∧ Q (num (vR p lo k)) h
theorem b_value_of {Γ : Gam} (g28 : Γ.fn 28 = sp_power) (g32 : Γ.fn 32 = sp_times) : BodyOk Γ ir_value_of sp_value_of := by
  rintro ds h Q R ⟨p, lo, hi, k, rfl, ⟨p2, p100, l0, lh, h0⟩, ⟨k0, k1⟩, q⟩
  refine ⟨rfl, ?_⟩
  show wpSs Γ ir_value_of.body [.val (fmD p lo hi), .val (.int k), .un, .un, .un] h _
  have b1 : bitsI 1 = 1 := by decide
  have hp := HH_pos (p := p)
  have hz := HH_sz p100
  simp only [ir_value_of, k_value_of_4, wpSs, wpS, wpE, wpEs, wpAnd, wpOr, wpI, wpF, wpT, wpH, Env.at, Env.put, Env.wipe, Env.nox, Slot.nox, wBin, binI, wCmp, cmpI, wBi, isTy, asL, asLT, bindT, bindTs, intsOf, boolsOf, ixL0, ixL1, ixL2, List.getElem?_cons_zero, List.getElem?_cons_succ, List.nil_append, List.cons_append, List.append_nil, if_true, ite_true, fmD, D.asObj, getF, Int.one_mul]
  refine ⟨⟨by omega, by rw [b1]; omega⟩, ?_⟩
  rw [show (2 : Int) ^ (p - 1).toNat = HH p from rfl]
  simp only [k_value_of_3, wpSs, wpS, wpE, wpEs, wpAnd, wpOr, wpI, wpF, wpT, wpH, Env.at, Env.put, Env.wipe, Env.nox, Slot.nox, wBin, binI, wCmp, cmpI, wBi, isTy, asL, asLT, bindT, bindTs, intsOf, boolsOf, ixL0, ixL1, ixL2, List.getElem?_cons_zero, List.getElem?_cons_succ, List.nil_append, List.cons_append, List.append_nil, if_true, ite_true, fdiv_pos hp]
  refine ⟨⟨by omega, Nat.le_trans (bitsI_le hz) (by decide)⟩, ?_⟩
  have es : max 0 (((k.natAbs : Nat) : Int) / HH p - 1) = (stp p (k.natAbs : Int) : Int) := by unfold stp; omega
  have sl : stp p (k.natAbs : Int) < 5000 := by
    unfold stp
    have := (Int.ediv_lt_iff_lt_mul (a := ((k.natAbs : Nat) : Int)) (b := 5000) hp).mpr (by omega)
    omega
  rw [es]
  have vn : VN p (k.natAbs : Int) = (((k.natAbs : Nat) : Int) - stp p (k.natAbs : Int) * HH p) * 2 ^ stp p (k.natAbs : Int) := rfl
  generalize hst : stp p (k.natAbs : Int) = s at *
  have ss : Sz 64 (s : Int) := by unfold Sz; omega
  have us : Sz 6001 (up (lo + s)) := Sz.up (N := 6000) (by omega)
  have ds : Sz 201 (dn (lo + s)) := Sz.dn (N := 200) (by omega)
  have s1 : Sz 1 1 := by unfold Sz; decide
  simp only [k_value_of_2, wpSs, wpS, wpE, wpEs, wpAnd, wpOr, wpI, wpF, wpT, wpH, Env.at, Env.put, Env.wipe, Env.nox, Slot.nox, wBin, binI, wCmp, cmpI, wBi, isTy, asL, asLT, bindT, bindTs, intsOf, boolsOf, ixL0, ixL1, ixL2, List.getElem?_cons_zero, List.getElem?_cons_succ, List.nil_append, List.cons_append, List.append_nil, if_true, ite_true, g28, g32]
  refine ⟨mul_small ss, (show 2 ≤ SL by decide), lo + s, rfl, by omega, by omega, _, 1, _, _, rfl, by decide, dn_pos, s1.mono (by decide), ds.mono (by decide), ?_, us.mono (by decide), ?_⟩
  · have sk : Sz 170 ((k.natAbs : Nat) : Int) := by
      have hz := hz
      unfold Sz at *
      omega
    exact (sk.sub ((ss.mul hz).mono (by decide))).mono (by decide)
  have e1 : fr ((((k.natAbs : Nat) : Int) - s * HH p) * up (lo + s)) (1 * dn (lo + s)) = vR p lo (k.natAbs : Int) := by
    unfold vR
    rw [VI_pos (by omega), vn, Int.one_mul]
    refine fr_of dn_pos dn_pos ?_
    have h := up_add (a := lo) s
    rw [Int.mul_assoc, h, ← Int.mul_assoc, ← Int.mul_assoc]
  rw [e1]
  simp only [k_value_of_1, wpSs, wpS, wpE, wpEs, wpAnd, wpOr, wpI, wpF, wpT, wpH, Env.at, Env.put, Env.wipe, Env.nox, Slot.nox, wBin, binI, wCmp, cmpI, wBi, isTy, asL, asLT, bindT, bindTs, intsOf, boolsOf, ixL0, ixL1, ixL2, List.getElem?_cons_zero, List.getElem?_cons_succ, List.nil_append, List.cons_append, List.append_nil, if_true, ite_true]
  by_cases c : 0 ≤ k
  · rw [if_pos (decide_eq_true c), show ((k.natAbs : Nat) : Int) = k by omega]
    exact q
  · rw [if_neg (by simpa using c)]
    refine ⟨(show 2 ≤ SL by decide), ?_⟩
    have e2 : vR p lo k = (0 - (vR p lo (k.natAbs : Int)).1, (vR p lo (k.natAbs : Int)).2) := by
      rw [show k = -((k.natAbs : Nat) : Int) by omega, vR_neg, Int.natAbs_neg, Int.natAbs_natCast]
      congr 1
      omega
    rw [e2] at q
    exact q
end FF

namespace FF
theorem eqV_iff {p lo k n d : Int} (r : Red n d) : vR p lo k = (n, d) ↔ eqV p lo k n d := by
  unfold vR eqV
  rw [← r.fr, fr_eq dn_pos r.1]
theorem leV_zero {p lo n d : Int} (hn : 0 ≤ n) : leV p lo 0 n d := by
  unfold leV
  rw [VI_pos (Int.le_refl _), VN_zero, Int.zero_mul, Int.zero_mul]
  exact Int.mul_nonneg hn (Int.le_of_lt dn_pos)
theorem leV_neg {p lo k n d : Int} : leV p lo (-k) (-n) d ↔ n * dn lo ≤ VI p k * up lo * d := by
  unfold leV
  rw [VI_neg, Int.neg_mul, Int.neg_mul, Int.neg_mul]
  omega
theorem eqV.neg {p lo k n d : Int} (h : eqV p lo k n d) : eqV p lo (-k) (-n) d := by
  unfold eqV at *
  rw [VI_neg, Int.neg_mul, Int.neg_mul, Int.neg_mul, h]
def sp_floor_order : Spec := fun ds h Q _ => ∃ p lo hi n d, ds = [fmD p lo hi, num (n, d)] ∧ Fm p lo hi ∧ Red n d ∧ Nz n d ∧ ∀ k, FO p lo n d k → -(5001 * HH p) < k → k < 5000 * HH p → Q (.int k) h
theorem b_floor_order {Γ : Gam} (g26 : Γ.fn 26 = sp_size_of) (g49 : Γ.fn 49 = sp_order_of) (g50 : Γ.fn 50 = sp_value_of) : BodyOk Γ ir_floor_order sp_floor_order := by
  rintro ds h Q R ⟨p, lo, hi, n, d, rfl, f, r, z, q⟩
  refine ⟨rfl, ?_⟩
  show wpSs Γ ir_floor_order.body [.val (fmD p lo hi), .val (num (n, d)), .un] h _
  have hp := HH_pos (p := p)
  simp only [ir_floor_order, k_floor_order_3, wpSs, wpS, wpE, wpEs, wpAnd, wpOr, wpI, wpF, wpT, wpH, Env.at, Env.put, Env.wipe, Env.nox, Slot.nox, wBin, binI, wCmp, cmpI, wBi, isTy, asL, asLT, bindT, bindTs, intsOf, boolsOf, ixL0, ixL1, ixL2, List.getElem?_cons_zero, List.getElem?_cons_succ, List.nil_append, List.cons_append, List.append_nil, if_true, ite_true, g49]
  by_cases c : 0 ≤ n
  · rw [if_pos (decide_eq_true c)]
    exact ⟨p, lo, hi, n, d, rfl, f, z, c, fun k hk k0 kb => q k hk (by have := kb.1; omega) kb.2⟩
  rw [if_neg (by simpa using c)]
  simp only [k_floor_order_2, wpSs, wpS, wpE, wpEs, wpAnd, wpOr, wpI, wpF, wpT, wpH, Env.at, Env.put, Env.wipe, Env.nox, Slot.nox, wBin, binI, wCmp, cmpI, wBi, isTy, asL, asLT, bindT, bindTs, intsOf, boolsOf, ixL0, ixL1, ixL2, List.getElem?_cons_zero, List.getElem?_cons_succ, List.nil_append, List.cons_append, List.append_nil, if_true, ite_true, g26, g49]
  have en : ((n.natAbs : Nat) : Int) = -n := by omega
  have z' : Nz ((n.natAbs : Nat) : Int) d := ⟨z.d0, by have := z.sn; unfold Sz at *; omega, z.sd⟩
  refine ⟨n, d, rfl, p, lo, hi, _, d, rfl, f, z', by omega, fun k hk k0 kb => ?_⟩
  simp only [k_floor_order_1, wpSs, wpS, wpE, wpEs, wpAnd, wpOr, wpI, wpF, wpT, wpH, Env.at, Env.put, Env.wipe, Env.nox, Slot.nox, wBin, binI, wCmp, cmpI, wBi, isTy, asL, asLT, bindT, bindTs, intsOf, boolsOf, ixL0, ixL1, ixL2, List.getElem?_cons_zero, List.getElem?_cons_succ, List.nil_append, List.cons_append, List.append_nil, if_true, ite_true, g26, g50]
  refine ⟨p, lo, hi, k, rfl, f, kb, n, d, rfl, num_ok, ?_⟩
  rw [num_eqb]
  rw [en] at hk ⊢
  have kb1 := kb.1
  have kb2 := kb.2
  by_cases e : vR p lo k = (-n, d)
  · rw [decide_eq_true e]
    have e2 : FO p lo n d (-k) := by
      have := ((eqV_iff r.neg).mp e).neg.fo r.1
      rw [Int.neg_neg] at this
      exact this
    have := q (-k) e2 (by omega) (by omega)
    rw [show -k = 0 - k - 0 by omega] at this
    exact this
  · rw [decide_eq_false e]
    have ne : ¬ eqV p lo k (-n) d := fun y => e ((eqV_iff r.neg).mpr y)
    have e2 : FO p lo n d (-k - 1) := by
      obtain ⟨f1, f2⟩ := hk
      constructor
      · have := leV_neg (p := p) (lo := lo) (k := k + 1) (n := -n) (d := d)
        rw [Int.neg_neg, show -(k + 1) = -k - 1 by omega] at this
        refine this.mpr ?_
        unfold leV at f2
        omega
      · have := leV_neg (p := p) (lo := lo) (k := k) (n := -n) (d := d)
        rw [Int.neg_neg] at this
        rw [show -k - 1 + 1 = -k by omega, this]
        unfold leV at f1
        unfold eqV at ne
        omega
    have := q (-k - 1) e2 (by omega) (by omega)
    rw [show -k - 1 = 0 - k - 1 by omega] at this
    exact this
/-- the least float's number from n / d on -/
def CE (p lo n d k : Int) : Prop := FO p lo (-n) d (-k)
def sp_ceiling_order : Spec := fun ds h Q _ => ∃ p lo hi n d, ds = [fmD p lo hi, num (n, d)] ∧ Fm p lo hi ∧ Red n d ∧ Nz n d ∧ ∀ k, CE p lo n d k → -(5001 * HH p) < k → k < 5001 * HH p → Q (.int k) h
theorem Nz.neg {n d : Int} (z : Nz n d) : Nz (-n) d := ⟨z.d0, by have := z.sn; unfold Sz at *; omega, z.sd⟩
theorem b_ceiling_order {Γ : Gam} (g51 : Γ.fn 51 = sp_floor_order) : BodyOk Γ ir_ceiling_order sp_ceiling_order := by
  rintro ds h Q R ⟨p, lo, hi, n, d, rfl, f, r, z, q⟩
  refine ⟨rfl, ?_⟩
  show wpSs Γ ir_ceiling_order.body [.val (fmD p lo hi), .val (num (n, d))] h _
  have hp := HH_pos (p := p)
  simp only [ir_ceiling_order, wpSs, wpS, wpE, wpEs, wpAnd, wpOr, wpI, wpF, wpT, wpH, Env.at, Env.put, Env.wipe, Env.nox, Slot.nox, wBin, binI, wCmp, cmpI, wBi, isTy, asL, asLT, bindT, bindTs, intsOf, boolsOf, ixL0, ixL1, ixL2, List.getElem?_cons_zero, List.getElem?_cons_succ, List.nil_append, List.cons_append, List.append_nil, if_true, ite_true, g51]
  refine ⟨(show 2 ≤ SL by decide), p, lo, hi, -n, d, by rw [show 0 - n = -n by omega], f, r.neg, z.neg, fun k hk k0 k1 => ?_⟩
  refine q (0 - k) ?_ (by omega) (by omega)
  unfold CE
  rw [show -(0 - k) = k by omega]
  exact hk
/-- one of the format's floats -/
def IsF (p lo hi n d : Int) : Prop := ∃ k, -mo p lo hi ≤ k ∧ k ≤ mo p lo hi ∧ eqV p lo k n d
theorem mo_le {p lo hi : Int} (f : Fm p lo hi) : mo p lo hi < 500 * HH p := by
  obtain ⟨p2, p100, l0, lh, h0⟩ := f
  have hp := HH_pos (p := p)
  have : (hi - lo) * HH p ≤ 400 * HH p := Int.mul_le_mul_of_nonneg_right (by omega) (Int.le_of_lt hp)
  unfold mo
  omega
theorem KB.of {p lo hi k : Int} (f : Fm p lo hi) (h1 : -mo p lo hi ≤ k) (h2 : k ≤ mo p lo hi) : KB p k := by
  have := mo_le f
  have hp := HH_pos (p := p)
  constructor <;> omega
def sp_is_float_of : Spec := fun ds h Q _ => ∃ p lo hi n d, ds = [fmD p lo hi, num (n, d)] ∧ Fm p lo hi ∧ Red n d ∧ Nz n d ∧ ∀ b : Bool, (b = true ↔ IsF p lo hi n d) → Q (.bl b) h
theorem b_is_float_of {Γ : Gam} (g50 : Γ.fn 50 = sp_value_of) (g51 : Γ.fn 51 = sp_floor_order) (g52 : Γ.fn 52 = sp_most_order) : BodyOk Γ ir_is_float_of sp_is_float_of := by
  rintro ds h Q R ⟨p, lo, hi, n, d, rfl, f, r, z, q⟩
  refine ⟨rfl, ?_⟩
  show wpSs Γ ir_is_float_of.body [.val (fmD p lo hi), .val (num (n, d)), .un] h _
  simp only [ir_is_float_of, k_is_float_of_2, wpSs, wpS, wpE, wpEs, wpAnd, wpOr, wpI, wpF, wpT, wpH, Env.at, Env.put, Env.wipe, Env.nox, Slot.nox, wBin, binI, wCmp, cmpI, wBi, isTy, asL, asLT, bindT, bindTs, intsOf, boolsOf, ixL0, ixL1, ixL2, List.getElem?_cons_zero, List.getElem?_cons_succ, List.nil_append, List.cons_append, List.append_nil, if_true, ite_true, g51]
  refine ⟨p, lo, hi, n, d, rfl, f, r, z, fun k hk _ _ => ?_⟩
  simp only [k_is_float_of_1, wpSs, wpS, wpE, wpEs, wpAnd, wpOr, wpI, wpF, wpT, wpH, Env.at, Env.put, Env.wipe, Env.nox, Slot.nox, wBin, binI, wCmp, cmpI, wBi, isTy, asL, asLT, bindT, bindTs, intsOf, boolsOf, ixL0, ixL1, ixL2, List.getElem?_cons_zero, List.getElem?_cons_succ, List.nil_append, List.cons_append, List.append_nil, if_true, ite_true, g50, g52]
  refine ⟨p, lo, hi, rfl, f, ?_⟩
  dsimp only
  by_cases c : ((k.natAbs : Nat) : Int) ≤ mo p lo hi
  · rw [decide_eq_true c]
    refine ⟨p, lo, hi, k, rfl, f, KB.of f (by omega) (by omega), num_ok, ?_⟩
    rw [num_eqb]
    refine q _ ?_
    rw [decide_eq_true_iff, eqV_iff r]
    constructor
    · exact fun e => ⟨k, by omega, by omega, e⟩
    · rintro ⟨j, j1, j2, e⟩
      rw [hk.uniq r.1 (e.fo r.1)]
      exact e
  · rw [decide_eq_false c]
    refine q false ⟨fun e => (by cases e), fun ⟨j, j1, j2, e⟩ => ?_⟩
    have := hk.uniq r.1 (e.fo r.1)
    omega
def sp_check_float : Spec := fun ds h Q _ => ∃ p lo hi s n d, ds = [fmD p lo hi, .str s, num (n, d)] ∧ Fm p lo hi ∧ Red n d ∧ Nz n d ∧ IsF p lo hi n d ∧ Q .non h
theorem b_check_float {Γ : Gam} (g53 : Γ.fn 53 = sp_check_number) (g54 : Γ.fn 54 = sp_is_float_of) : BodyOk Γ ir_check_float sp_check_float := by
  rintro ds h Q R ⟨p, lo, hi, s, n, d, rfl, f, r, z, i, q⟩
  refine ⟨rfl, ?_⟩
  show wpSs Γ ir_check_float.body [.val (fmD p lo hi), .val (.str s), .val (num (n, d))] h _
  simp only [ir_check_float, wpSs, wpS, wpE, wpEs, wpAnd, wpOr, wpI, wpF, wpT, wpH, Env.at, Env.put, Env.wipe, Env.nox, Slot.nox, wBin, binI, wCmp, cmpI, wBi, isTy, asL, asLT, bindT, bindTs, intsOf, boolsOf, ixL0, ixL1, ixL2, List.getElem?_cons_zero, List.getElem?_cons_succ, List.nil_append, List.cons_append, List.append_nil, if_true, ite_true, g53, g54]
  refine ⟨s, n, d, rfl, r, p, lo, hi, n, d, rfl, f, r, z, fun b hb => ?_⟩
  rw [hb.mpr i]
  exact q
def sp_greatest : Spec := fun ds h Q _ => ∃ p lo hi, ds = [fmD p lo hi] ∧ Fm p lo hi ∧ Q (num (vR p lo (mo p lo hi))) h
theorem b_greatest {Γ : Gam} (g39 : Γ.fn 39 = sp_check_format) (g50 : Γ.fn 50 = sp_value_of) (g52 : Γ.fn 52 = sp_most_order) : BodyOk Γ ir_greatest sp_greatest := by
  rintro ds h Q R ⟨p, lo, hi, rfl, f, q⟩
  refine ⟨rfl, ?_⟩
  show wpSs Γ ir_greatest.body [.val (fmD p lo hi)] h _
  have := mo_pos (p := p) f.lh
  simp only [ir_greatest, wpSs, wpS, wpE, wpEs, wpAnd, wpOr, wpI, wpF, wpT, wpH, Env.at, Env.put, Env.wipe, Env.nox, Slot.nox, wBin, binI, wCmp, cmpI, wBi, isTy, asL, asLT, bindT, bindTs, intsOf, boolsOf, ixL0, ixL1, ixL2, List.getElem?_cons_zero, List.getElem?_cons_succ, List.nil_append, List.cons_append, List.append_nil, if_true, ite_true, g39, g50, g52]
  exact ⟨p, lo, hi, rfl, p, lo, hi, rfl, f, p, lo, hi, _, rfl, f, KB.of f (by omega) (by omega), q⟩
def sp_least : Spec := fun ds h Q _ => ∃ p lo hi, ds = [fmD p lo hi] ∧ Fm p lo hi ∧ Q (num (up lo, dn lo)) h
theorem b_least {Γ : Gam} (g39 : Γ.fn 39 = sp_check_format) (g28 : Γ.fn 28 = sp_power) : BodyOk Γ ir_least sp_least := by
  rintro ds h Q R ⟨p, lo, hi, rfl, f, q⟩
  refine ⟨rfl, ?_⟩
  show wpSs Γ ir_least.body [.val (fmD p lo hi)] h _
  simp only [ir_least, wpSs, wpS, wpE, wpEs, wpAnd, wpOr, wpI, wpF, wpT, wpH, Env.at, Env.put, Env.wipe, Env.nox, Slot.nox, wBin, binI, wCmp, cmpI, wBi, isTy, asL, asLT, bindT, bindTs, intsOf, boolsOf, ixL0, ixL1, ixL2, List.getElem?_cons_zero, List.getElem?_cons_succ, List.nil_append, List.cons_append, List.append_nil, if_true, ite_true, g39, g28]
  refine ⟨p, lo, hi, rfl, ?_⟩
  simp only [fmD, D.asObj, getF, wpSs, wpS, wpE, wpEs, wpAnd, wpOr, wpI, wpF, wpT, wpH, Env.at, Env.put, Env.wipe, Env.nox, Slot.nox, wBin, binI, wCmp, cmpI, wBi, isTy, asL, asLT, bindT, bindTs, intsOf, boolsOf, ixL0, ixL1, ixL2, List.getElem?_cons_zero, List.getElem?_cons_succ, List.nil_append, List.cons_append, List.append_nil, if_true, ite_true]
  obtain ⟨p2, p100, l0, lh, h0⟩ := f
  exact ⟨lo, rfl, by omega, by omega, q⟩
def sp_is_float : Spec := fun ds h Q _ => ∃ p lo hi n d, ds = [fmD p lo hi, num (n, d)] ∧ Fm p lo hi ∧ Red n d ∧ Nz n d ∧ ∀ b : Bool, (b = true ↔ IsF p lo hi n d) → Q (.bl b) h
theorem b_is_float {Γ : Gam} (g39 : Γ.fn 39 = sp_check_format) (g53 : Γ.fn 53 = sp_check_number) (g54 : Γ.fn 54 = sp_is_float_of) : BodyOk Γ ir_is_float sp_is_float := by
  rintro ds h Q R ⟨p, lo, hi, n, d, rfl, f, r, z, q⟩
  refine ⟨rfl, ?_⟩
  show wpSs Γ ir_is_float.body [.val (fmD p lo hi), .val (num (n, d))] h _
  simp only [ir_is_float, wpSs, wpS, wpE, wpEs, wpAnd, wpOr, wpI, wpF, wpT, wpH, Env.at, Env.put, Env.wipe, Env.nox, Slot.nox, wBin, binI, wCmp, cmpI, wBi, isTy, asL, asLT, bindT, bindTs, intsOf, boolsOf, ixL0, ixL1, ixL2, List.getElem?_cons_zero, List.getElem?_cons_succ, List.nil_append, List.cons_append, List.append_nil, if_true, ite_true, g39, g53, g54]
  exact ⟨p, lo, hi, rfl, _, n, d, rfl, r, p, lo, hi, n, d, rfl, f, r, z, q⟩
def sp_unit : Spec := fun ds h Q _ => ∃ p lo hi n d, ds = [fmD p lo hi, num (n, d)] ∧ Fm p lo hi ∧ Red n d ∧ Nz n d ∧ ¬ le2 (hi + p) (n.natAbs : Int) d ∧ ∀ e, UEx p lo n d e → Q (num (up e, dn e)) h
theorem b_unit {Γ : Gam} (g39 : Γ.fn 39 = sp_check_format) (g53 : Γ.fn 53 = sp_check_number) (g31 : Γ.fn 31 = sp_is_far) (g33 : Γ.fn 33 = sp_unit_exponent) (g28 : Γ.fn 28 = sp_power) : BodyOk Γ ir_unit sp_unit := by
  rintro ds h Q R ⟨p, lo, hi, n, d, rfl, f, r, z, nf, q⟩
  refine ⟨rfl, ?_⟩
  show wpSs Γ ir_unit.body [.val (fmD p lo hi), .val (num (n, d))] h _
  simp only [ir_unit, wpSs, wpS, wpE, wpEs, wpAnd, wpOr, wpI, wpF, wpT, wpH, Env.at, Env.put, Env.wipe, Env.nox, Slot.nox, wBin, binI, wCmp, cmpI, wBi, isTy, asL, asLT, bindT, bindTs, intsOf, boolsOf, ixL0, ixL1, ixL2, List.getElem?_cons_zero, List.getElem?_cons_succ, List.nil_append, List.cons_append, List.append_nil, if_true, ite_true, g39, g53, g31, g33, g28]
  refine ⟨p, lo, hi, rfl, _, n, d, rfl, r, p, lo, hi, n, d, rfl, f, z.d0, z.sn, z.sd, ?_⟩
  rw [decide_eq_false nf]
  refine ⟨p, lo, hi, n, d, rfl, f, z.d0, z.sn, z.sd, fun e he => ?_⟩
  have e0 := he.1
  have e4 := he.le z.d0 (by have := f.lh; have := f.h0; omega) z.sn (by have := f.p2; omega)
  exact ⟨e, rfl, by have := f.l0; omega, by omega, q e he⟩
def sp_order : Spec := fun ds h Q _ => ∃ p lo hi n d k, ds = [fmD p lo hi, num (n, d)] ∧ Fm p lo hi ∧ Red n d ∧ Nz n d ∧ -mo p lo hi ≤ k ∧ k ≤ mo p lo hi ∧ eqV p lo k n d ∧ Q (.int k) h
theorem b_order {Γ : Gam} (g39 : Γ.fn 39 = sp_check_format) (g55 : Γ.fn 55 = sp_check_float) (g51 : Γ.fn 51 = sp_floor_order) : BodyOk Γ ir_order sp_order := by
  rintro ds h Q R ⟨p, lo, hi, n, d, k, rfl, f, r, z, k1, k2, e, q⟩
  refine ⟨rfl, ?_⟩
  show wpSs Γ ir_order.body [.val (fmD p lo hi), .val (num (n, d))] h _
  simp only [ir_order, wpSs, wpS, wpE, wpEs, wpAnd, wpOr, wpI, wpF, wpT, wpH, Env.at, Env.put, Env.wipe, Env.nox, Slot.nox, wBin, binI, wCmp, cmpI, wBi, isTy, asL, asLT, bindT, bindTs, intsOf, boolsOf, ixL0, ixL1, ixL2, List.getElem?_cons_zero, List.getElem?_cons_succ, List.nil_append, List.cons_append, List.append_nil, if_true, ite_true, g39, g55, g51]
  refine ⟨p, lo, hi, rfl, p, lo, hi, _, n, d, rfl, f, r, z, ⟨k, k1, k2, e⟩, p, lo, hi, n, d, rfl, f, r, z, fun j hj _ _ => ?_⟩
  rw [hj.uniq r.1 (e.fo r.1)]
  exact q
def sp_float_at : Spec := fun ds h Q _ => ∃ p lo hi k, ds = [fmD p lo hi, .int k] ∧ Fm p lo hi ∧ -mo p lo hi ≤ k ∧ k ≤ mo p lo hi ∧ Q (num (vR p lo k)) h
theorem b_float_at {Γ : Gam} (g39 : Γ.fn 39 = sp_check_format) (g52 : Γ.fn 52 = sp_most_order) (g11 : Γ.fn 11 = sp_check_between) (g50 : Γ.fn 50 = sp_value_of) : BodyOk Γ ir_float_at sp_float_at := by
  rintro ds h Q R ⟨p, lo, hi, k, rfl, f, k1, k2, q⟩
  refine ⟨rfl, ?_⟩
  show wpSs Γ ir_float_at.body [.val (fmD p lo hi), .val (.int k)] h _
  simp only [ir_float_at, wpSs, wpS, wpE, wpEs, wpAnd, wpOr, wpI, wpF, wpT, wpH, Env.at, Env.put, Env.wipe, Env.nox, Slot.nox, wBin, binI, wCmp, cmpI, wBi, isTy, asL, asLT, bindT, bindTs, intsOf, boolsOf, ixL0, ixL1, ixL2, List.getElem?_cons_zero, List.getElem?_cons_succ, List.nil_append, List.cons_append, List.append_nil, if_true, ite_true, g39, g52, g11, g50]
  refine ⟨p, lo, hi, rfl, p, lo, hi, rfl, f, p, lo, hi, rfl, f, _, k, _, _, rfl, by omega, k2, ?_⟩
  exact ⟨p, lo, hi, k, rfl, f, KB.of f k1 k2, q⟩
/-- a float, or none -/
def valO (p lo hi k : Int) : D := if -mo p lo hi ≤ k ∧ k ≤ mo p lo hi then num (vR p lo k) else .non
def sp_below : Spec := fun ds h Q _ => ∃ p lo hi n d, ds = [fmD p lo hi, num (n, d)] ∧ Fm p lo hi ∧ Red n d ∧ Nz n d ∧ ∀ k, CE p lo n d k → Q (valO p lo hi (min (k - 1) (mo p lo hi))) h
theorem b_below {Γ : Gam} (g39 : Γ.fn 39 = sp_check_format) (g53 : Γ.fn 53 = sp_check_number) (g56 : Γ.fn 56 = sp_ceiling_order) (g52 : Γ.fn 52 = sp_most_order) (g50 : Γ.fn 50 = sp_value_of) : BodyOk Γ ir_below sp_below := by
  rintro ds h Q R ⟨p, lo, hi, n, d, rfl, f, r, z, q⟩
  refine ⟨rfl, ?_⟩
  show wpSs Γ ir_below.body [.val (fmD p lo hi), .val (num (n, d)), .un] h _
  have mp := mo_pos (p := p) f.lh
  simp only [ir_below, k_below_4, k_below_3, wpSs, wpS, wpE, wpEs, wpAnd, wpOr, wpI, wpF, wpT, wpH, Env.at, Env.put, Env.wipe, Env.nox, Slot.nox, wBin, binI, wCmp, cmpI, wBi, isTy, asL, asLT, bindT, bindTs, intsOf, boolsOf, ixL0, ixL1, ixL2, List.getElem?_cons_zero, List.getElem?_cons_succ, List.nil_append, List.cons_append, List.append_nil, if_true, ite_true, g39, g53]
  refine ⟨p, lo, hi, rfl, _, n, d, rfl, r, ?_⟩
  simp only [k_below_2, wpSs, wpS, wpE, wpEs, wpAnd, wpOr, wpI, wpF, wpT, wpH, Env.at, Env.put, Env.wipe, Env.nox, Slot.nox, wBin, binI, wCmp, cmpI, wBi, isTy, asL, asLT, bindT, bindTs, intsOf, boolsOf, ixL0, ixL1, ixL2, List.getElem?_cons_zero, List.getElem?_cons_succ, List.nil_append, List.cons_append, List.append_nil, if_true, ite_true, g56, g52]
  refine ⟨p, lo, hi, n, d, rfl, f, r, z, fun k hk _ _ => ⟨p, lo, hi, rfl, f, ?_⟩⟩
  simp only [k_below_1, wpSs, wpS, wpE, wpEs, wpAnd, wpOr, wpI, wpF, wpT, wpH, Env.at, Env.put, Env.wipe, Env.nox, Slot.nox, wBin, binI, wCmp, cmpI, wBi, isTy, asL, asLT, bindT, bindTs, intsOf, boolsOf, ixL0, ixL1, ixL2, List.getElem?_cons_zero, List.getElem?_cons_succ, List.nil_append, List.cons_append, List.append_nil, if_true, ite_true, g50, g52]
  refine ⟨p, lo, hi, rfl, f, ?_⟩
  dsimp only
  have q := q k hk
  generalize hj : min (k - 1) (mo p lo hi) = j at *
  unfold valO at q
  by_cases c : j < 0 - mo p lo hi
  · rw [if_pos (decide_eq_true c)]
    rw [if_neg (by omega)] at q
    exact q
  · rw [if_neg (by simpa using c)]
    rw [if_pos ⟨by omega, by omega⟩] at q
    exact ⟨p, lo, hi, j, rfl, f, KB.of f (by omega) (by omega), q⟩
def sp_above : Spec := fun ds h Q _ => ∃ p lo hi n d, ds = [fmD p lo hi, num (n, d)] ∧ Fm p lo hi ∧ Red n d ∧ Nz n d ∧ ∀ k, FO p lo n d k → Q (valO p lo hi (max (k + 1) (-mo p lo hi))) h
theorem b_above {Γ : Gam} (g39 : Γ.fn 39 = sp_check_format) (g53 : Γ.fn 53 = sp_check_number) (g51 : Γ.fn 51 = sp_floor_order) (g52 : Γ.fn 52 = sp_most_order) (g50 : Γ.fn 50 = sp_value_of) : BodyOk Γ ir_above sp_above := by
  rintro ds h Q R ⟨p, lo, hi, n, d, rfl, f, r, z, q⟩
  refine ⟨rfl, ?_⟩
  show wpSs Γ ir_above.body [.val (fmD p lo hi), .val (num (n, d)), .un] h _
  have mp := mo_pos (p := p) f.lh
  simp only [ir_above, k_above_4, k_above_3, wpSs, wpS, wpE, wpEs, wpAnd, wpOr, wpI, wpF, wpT, wpH, Env.at, Env.put, Env.wipe, Env.nox, Slot.nox, wBin, binI, wCmp, cmpI, wBi, isTy, asL, asLT, bindT, bindTs, intsOf, boolsOf, ixL0, ixL1, ixL2, List.getElem?_cons_zero, List.getElem?_cons_succ, List.nil_append, List.cons_append, List.append_nil, if_true, ite_true, g39, g53]
  refine ⟨p, lo, hi, rfl, _, n, d, rfl, r, ?_⟩
  simp only [k_above_2, wpSs, wpS, wpE, wpEs, wpAnd, wpOr, wpI, wpF, wpT, wpH, Env.at, Env.put, Env.wipe, Env.nox, Slot.nox, wBin, binI, wCmp, cmpI, wBi, isTy, asL, asLT, bindT, bindTs, intsOf, boolsOf, ixL0, ixL1, ixL2, List.getElem?_cons_zero, List.getElem?_cons_succ, List.nil_append, List.cons_append, List.append_nil, if_true, ite_true, g51, g52]
  refine ⟨p, lo, hi, n, d, rfl, f, r, z, fun k hk _ _ => ⟨p, lo, hi, rfl, f, ?_⟩⟩
  simp only [k_above_1, wpSs, wpS, wpE, wpEs, wpAnd, wpOr, wpI, wpF, wpT, wpH, Env.at, Env.put, Env.wipe, Env.nox, Slot.nox, wBin, binI, wCmp, cmpI, wBi, isTy, asL, asLT, bindT, bindTs, intsOf, boolsOf, ixL0, ixL1, ixL2, List.getElem?_cons_zero, List.getElem?_cons_succ, List.nil_append, List.cons_append, List.append_nil, if_true, ite_true, g50, g52]
  refine ⟨p, lo, hi, rfl, f, ?_⟩
  dsimp only
  have q := q k hk
  rw [show -mo p lo hi = 0 - mo p lo hi by omega] at q
  generalize hj : max (k + 1) (0 - mo p lo hi) = j at *
  unfold valO at q
  by_cases c : mo p lo hi < j
  · rw [if_pos (decide_eq_true c)]
    rw [if_neg (by omega)] at q
    exact q
  · rw [if_neg (by simpa using c)]
    rw [if_pos ⟨by omega, by omega⟩] at q
    exact ⟨p, lo, hi, j, rfl, f, KB.of f (by omega) (by omega), q⟩
def sp_between : Spec := fun ds h Q _ => ∃ p lo hi n d n' d', ds = [fmD p lo hi, num (n, d), num (n', d')] ∧ Fm p lo hi ∧ Red n d ∧ Nz n d ∧ Red n' d' ∧ Nz n' d' ∧ ∀ a b, CE p lo n d a → FO p lo n' d' b → Q (.int (max 0 (min b (mo p lo hi) - max a (-mo p lo hi) + 1))) h
theorem b_between {Γ : Gam} (g39 : Γ.fn 39 = sp_check_format) (g53 : Γ.fn 53 = sp_check_number) (g51 : Γ.fn 51 = sp_floor_order) (g56 : Γ.fn 56 = sp_ceiling_order) (g52 : Γ.fn 52 = sp_most_order) : BodyOk Γ ir_between sp_between := by
  rintro ds h Q R ⟨p, lo, hi, n, d, n', d', rfl, f, r, z, r', z', q⟩
  refine ⟨rfl, ?_⟩
  show wpSs Γ ir_between.body [.val (fmD p lo hi), .val (num (n, d)), .val (num (n', d')), .un, .un] h _
  simp only [ir_between, k_between_6, k_between_5, k_between_4, wpSs, wpS, wpE, wpEs, wpAnd, wpOr, wpI, wpF, wpT, wpH, Env.at, Env.put, Env.wipe, Env.nox, Slot.nox, wBin, binI, wCmp, cmpI, wBi, isTy, asL, asLT, bindT, bindTs, intsOf, boolsOf, ixL0, ixL1, ixL2, List.getElem?_cons_zero, List.getElem?_cons_succ, List.nil_append, List.cons_append, List.append_nil, if_true, ite_true, g39, g53]
  refine ⟨p, lo, hi, rfl, _, n, d, rfl, r, _, n', d', rfl, r', ?_⟩
  simp only [k_between_3, wpSs, wpS, wpE, wpEs, wpAnd, wpOr, wpI, wpF, wpT, wpH, Env.at, Env.put, Env.wipe, Env.nox, Slot.nox, wBin, binI, wCmp, cmpI, wBi, isTy, asL, asLT, bindT, bindTs, intsOf, boolsOf, ixL0, ixL1, ixL2, List.getElem?_cons_zero, List.getElem?_cons_succ, List.nil_append, List.cons_append, List.append_nil, if_true, ite_true, g56, g52]
  refine ⟨p, lo, hi, n, d, rfl, f, r, z, fun a ha _ _ => ⟨p, lo, hi, rfl, f, ?_⟩⟩
  simp only [k_between_2, wpSs, wpS, wpE, wpEs, wpAnd, wpOr, wpI, wpF, wpT, wpH, Env.at, Env.put, Env.wipe, Env.nox, Slot.nox, wBin, binI, wCmp, cmpI, wBi, isTy, asL, asLT, bindT, bindTs, intsOf, boolsOf, ixL0, ixL1, ixL2, List.getElem?_cons_zero, List.getElem?_cons_succ, List.nil_append, List.cons_append, List.append_nil, if_true, ite_true, g51, g52]
  refine ⟨p, lo, hi, n', d', rfl, f, r', z', fun b hb _ _ => ⟨p, lo, hi, rfl, f, ?_⟩⟩
  simp only [k_between_1, wpSs, wpS, wpE, wpEs, wpAnd, wpOr, wpI, wpF, wpT, wpH, Env.at, Env.put, Env.wipe, Env.nox, Slot.nox, wBin, binI, wCmp, cmpI, wBi, isTy, asL, asLT, bindT, bindTs, intsOf, boolsOf, ixL0, ixL1, ixL2, List.getElem?_cons_zero, List.getElem?_cons_succ, List.nil_append, List.cons_append, List.append_nil, if_true, ite_true]
  have q := q a b ha hb
  rw [show -mo p lo hi = 0 - mo p lo hi by omega] at q
  exact q
def sp_middle : Spec := fun ds h Q _ => ∃ p lo hi n d n' d' i j, ds = [fmD p lo hi, num (n, d), num (n', d')] ∧ Fm p lo hi ∧ Red n d ∧ Nz n d ∧ Red n' d' ∧ Nz n' d' ∧ -mo p lo hi ≤ i ∧ i ≤ mo p lo hi ∧ eqV p lo i n d ∧ -mo p lo hi ≤ j ∧ j ≤ mo p lo hi ∧ eqV p lo j n' d' ∧ Q (num (vR p lo ((i + j) / 2))) h
theorem b_middle {Γ : Gam} (g39 : Γ.fn 39 = sp_check_format) (g55 : Γ.fn 55 = sp_check_float) (g51 : Γ.fn 51 = sp_floor_order) (g50 : Γ.fn 50 = sp_value_of) : BodyOk Γ ir_middle sp_middle := by
  rintro ds h Q R ⟨p, lo, hi, n, d, n', d', i, j, rfl, f, r, z, r', z', i1, i2, ie, j1, j2, je, q⟩
  refine ⟨rfl, ?_⟩
  show wpSs Γ ir_middle.body [.val (fmD p lo hi), .val (num (n, d)), .val (num (n', d'))] h _
  simp only [ir_middle, wpSs, wpS, wpE, wpEs, wpAnd, wpOr, wpI, wpF, wpT, wpH, Env.at, Env.put, Env.wipe, Env.nox, Slot.nox, wBin, binI, wCmp, cmpI, wBi, isTy, asL, asLT, bindT, bindTs, intsOf, boolsOf, ixL0, ixL1, ixL2, List.getElem?_cons_zero, List.getElem?_cons_succ, List.nil_append, List.cons_append, List.append_nil, if_true, ite_true, g39, g55, g51, g50]
  refine ⟨p, lo, hi, rfl, p, lo, hi, _, n, d, rfl, f, r, z, ⟨i, i1, i2, ie⟩, p, lo, hi, _, n', d', rfl, f, r', z', ⟨j, j1, j2, je⟩, p, lo, hi, n, d, rfl, f, r, z, fun a ha _ _ => ⟨p, lo, hi, n', d', rfl, f, r', z', fun b hb _ _ => ?_⟩⟩
  dsimp only
  rw [ha.uniq r.1 (ie.fo r.1), hb.uniq r'.1 (je.fo r'.1), fdiv_pos (show (0 : Int) < 2 by decide)]
  exact ⟨⟨by decide, bits2⟩, p, lo, hi, _, rfl, f, KB.of f (by omega) (by omega), q⟩
end FF

namespace FF
/-- a walk over a list, by the place -/
theorem forL_ix {Γ : Gam} {b : Ss} {bind : D → Env → (Env → Prop) → Prop} {I : Nat → Env → AH → Prop} {P : Post} : ∀ (ds : List D) {j : Nat} {σ : Env} {h : AH},
    (∀ i d, ds[i]? = some d → ∀ σ h, I (j + i) σ h → ∀ P' : Post, (∀ σ' h', I (j + i + 1) σ' h' → P'.nx σ' h') → (∀ σ' h', I (j + i + 1) σ' h' → P'.ct σ' h') → P'.rt = P.rt → P'.R = P.R → bind d σ fun σ' => wpSs Γ b σ' h P') →
    I j σ h → (∀ σ h, I (j + ds.length) σ h → P.nx σ h) → forL (fun σ h P => wpSs Γ b σ h P) bind ds σ h P
  | [], _, σ, h, _, i, k => k σ h i
  | d :: r, j, σ, h, hs, i, k => by
    have rest : ∀ σ' h', I (j + 0 + 1) σ' h' → forL (fun σ h P => wpSs Γ b σ h P) bind r σ' h' P := fun σ' h' i' => forL_ix r (j := j + 0 + 1) (fun a d hd => by
      have := hs (a + 1) d (by rw [List.getElem?_cons_succ]; exact hd)
      rw [show j + (a + 1) = j + 0 + 1 + a by omega] at this
      exact this) i' fun σ h i => k σ h (by rw [List.length_cons, show j + (r.length + 1) = j + 0 + 1 + r.length by omega]; exact i)
    exact hs 0 d rfl σ h i _ rest rest rfl rfl
theorem rangeL_get {u : Int} {n i : Nat} {d : D} (h : (rangeL u n)[i]? = some d) : d = .int (u + i) ∧ i < n := by
  unfold rangeL at h
  rw [List.getElem?_map] at h
  by_cases c : i < n
  · rw [List.getElem?_range c] at h
    cases h
    exact ⟨rfl, c⟩
  · rw [List.getElem?_eq_none (by rw [List.length_range]; omega)] at h
    cases h
theorem set_int {Γ : Gam} {i : Nat} {n : Int} {S : Ss} {σ : Env} {h : AH} {P : Post} : wpSs Γ (.cons (.set i (.int n)) S) σ h P = wpSs Γ S (σ.put i (.val (.int n))) h P := by
  simp only [wpSs, wpS, wpE]
theorem nab {n : Int} (h : 0 ≤ n) : ((n.natAbs : Nat) : Int) = n := by omega
/-- a specification goes with what is wanted -/
abbrev MoS (S : Spec) : Prop := ∀ ds h Q Q' R R', (∀ d h, Q d h → Q' d h) → (∀ x h, R x h → R' x h) → S ds h Q R → S ds h Q' R'
end FF

namespace FF
theorem vR_szp {p lo hi k : Int} (f : Fm p lo hi) (h1 : -(500 * HH p) < k) (h2 : k < 500 * HH p) : Sz 802 (vR p lo k).1 ∧ Sz 201 (vR p lo k).2 := by
  obtain ⟨p2, p100, l0, lh, h0⟩ := f
  have key : ∀ j : Int, 0 ≤ j → j < 500 * HH p → Sz 601 (VI p j) := fun j j0 j1 => by
    have hp := HH_pos (p := p)
    rw [VI_pos j0]
    obtain ⟨q, s, rfl, c⟩ := k_at (p := p) j0
    rw [(VN_at c).2]
    have s5 : s ≤ 499 := by
      have a : (s : Int) * HH p < 500 * HH p := by omega
      have := Int.lt_of_mul_lt_mul_right a (Int.le_of_lt hp)
      omega
    have z1 : Sz 101 q := by
      have := HH_sz p100
      unfold Sz at *
      omega
    have z2 : Sz 500 (2 ^ s) := by
      unfold Sz
      rw [Int.natAbs_pow]
      exact Nat.pow_lt_pow_right (by decide) (by omega)
    exact z1.mul z2
  have kv : Sz 601 (VI p k) := by
    by_cases c : 0 ≤ k
    · exact key k c h2
    · have := key (-k) (by omega) (by omega)
      rw [VI_neg] at this
      unfold Sz at *
      rw [Int.natAbs_neg] at this
      exact this
  have ul : Sz 201 (up lo) := Sz.up (N := 200) (by omega)
  have dl : Sz 201 (dn lo) := Sz.dn (N := 200) (by omega)
  exact ⟨(kv.mul ul).fr1 dn_pos, dl.fr2 dn_pos⟩
theorem vR_sz {p lo hi k : Int} (f : Fm p lo hi) (h1 : -mo p lo hi ≤ k) (h2 : k ≤ mo p lo hi) : Sz 802 (vR p lo k).1 ∧ Sz 201 (vR p lo k).2 := by
  have ml := mo_le f
  exact vR_szp f (by omega) (by omega)
theorem vR_nz {p lo hi k : Int} (f : Fm p lo hi) (h1 : -mo p lo hi ≤ k) (h2 : k ≤ mo p lo hi) : Nz (vR p lo k).1 (vR p lo k).2 := by
  obtain ⟨a, b⟩ := vR_sz f h1 h2
  exact ⟨vR_red.1, a.mono (by decide), b.mono (by decide)⟩
theorem vR_eqV {p lo k : Int} : eqV p lo k (vR p lo k).1 (vR p lo k).2 := (eqV_iff vR_red).mp rfl
/-- where a number is -/
structure At (p lo n d f c : Int) : Prop where
  r : Red n d
  z : Nz n d
  f : FO p lo n d f
  c : CE p lo n d c
theorem eqV.ce {p lo k n d : Int} (hd : 0 < d) (h : eqV p lo k n d) : CE p lo n d k := h.neg.fo hd
theorem vR_at {p lo hi k : Int} (f : Fm p lo hi) (h1 : -mo p lo hi ≤ k) (h2 : k ≤ mo p lo hi) : At p lo (vR p lo k).1 (vR p lo k).2 k k := ⟨vR_red, vR_nz f h1 h2, vR_eqV.fo vR_red.1, vR_eqV.ce vR_red.1⟩
theorem red_two {e : Int} : Red (up e) (dn e) := by
  refine ⟨dn_pos, ?_⟩
  show ((Int.gcd (up e) (dn e) : Nat) : Int) = 1
  unfold up dn
  by_cases c : 0 ≤ e
  · rw [show (-e).toNat = 0 by omega, Int.pow_zero, Int.gcd_one]; rfl
  · rw [show e.toNat = 0 by omega, Int.pow_zero, Int.one_gcd]; rfl
theorem mo_at {p lo hi : Int} (f : Fm p lo hi) : stp p (mo p lo hi) = (hi - lo).toNat ∧ VN p (mo p lo hi) = (2 * HH p - 1) * 2 ^ (hi - lo).toNat := by
  have hp := HH_pos (p := p)
  have lh := f.lh
  have c : (hi - lo).toNat = 0 ∧ 0 ≤ 2 * HH p - 1 ∧ 2 * HH p - 1 < 2 * HH p ∨ HH p ≤ 2 * HH p - 1 ∧ 2 * HH p - 1 < 2 * HH p := by omega
  have := VN_at c
  rw [show (((hi - lo).toNat : Nat) : Int) = hi - lo by omega] at this
  exact this
/-- a number up to the greatest float is not far -/
theorem not_far {p lo hi n d k : Int} (f : Fm p lo hi) (hd : 0 < d) (hn : 0 ≤ n) (h : FO p lo n d k) (l : k ≤ mo p lo hi) : ¬ le2 (hi + p) (n.natAbs : Int) d := by
  intro z
  have hp := HH_pos (p := p)
  have lh := f.lh
  have p2 := f.p2
  have mp := mo_pos (p := p) lh
  obtain ⟨m1, m2⟩ := mo_at f
  rw [nab hn] at z
  have e1 : VI p (mo p lo hi + 1) = 2 * HH p * 2 ^ (hi - lo).toNat := by
    rw [VI_pos (by omega), VN_succ (by omega), m1, m2, Int.sub_mul, Int.one_mul]
    omega
  have : leV p lo (mo p lo hi + 1) n d := by
    unfold leV
    rw [e1, leV_units, show lo + (((hi - lo).toNat : Nat) : Int) = hi by omega, ← HH_at (by omega)]
    have t := le2_units (e := hi) (n := n) (d := d) p.toNat
    rw [show ((p.toNat : Nat) : Int) = p by omega] at t
    exact t.mp z
  have := (h.le hd).mp this
  omega
/-- the unit of a float -/
theorem unit_of {p lo hi n d k e : Int} (f : Fm p lo hi) (hd : 0 < d) (hn : 0 ≤ n) (h : FO p lo n d k) (u : UEx p lo n d e) : e = lo + stp p k := by
  have p2 := f.p2
  obtain ⟨a, b, _, _⟩ := FO.of_unit (by omega) hd hn u
  have := h.uniq hd a
  rw [← this] at b
  have := u.1
  omega
theorem VI_zero_le {p k : Int} (h : 0 ≤ k) : 0 ≤ VI p k := by
  have := VI_le (p := p) h
  rw [VI_pos (Int.le_refl _), VN_zero] at this
  exact this
theorem vR_nonneg {p lo k : Int} (h : 0 ≤ k) : 0 ≤ (vR p lo k).1 := by
  unfold vR FF.fr
  exact Int.ediv_nonneg (Int.mul_nonneg (VI_zero_le h) (Int.le_of_lt up_pos)) (Int.le_of_lt (gg_pos dn_pos))
/-- one float less the one before is the unit -/
theorem step_unit {p lo k a b c e : Int} (k0 : 0 ≤ k) (b0 : 0 < b) (e0 : 0 < e) (h1 : eqV p lo k a b) (h2 : eqV p lo (k + 1) c e) : fr (c * b - a * e) (e * b) = (up (lo + stp p k), dn (lo + stp p k)) := by
  have eb : 0 < e * b := Int.mul_pos e0 b0
  rw [← red_two.fr, fr_eq eb dn_pos]
  unfold eqV at h1 h2
  have v : VI p (k + 1) = VI p k + 2 ^ stp p k := by rw [VI_pos (by omega), VI_pos k0, VN_succ k0]
  have u := up_add (a := lo) (stp p k)
  generalize stp p k = s at *
  have hd := dn_pos (k := lo)
  refine Int.eq_of_mul_eq_mul_left (show dn lo ≠ 0 by omega) ?_
  have x1 : dn lo * ((c * b - a * e) * dn (lo + s)) = (b * (c * dn lo) - e * (a * dn lo)) * dn (lo + s) := by
    rw [← Int.mul_assoc, Int.mul_sub]
    congr 2
    · rw [Int.mul_comm c b, Int.mul_left_comm, Int.mul_comm (dn lo)]
    · rw [Int.mul_comm a e, Int.mul_left_comm, Int.mul_comm (dn lo)]
  have x2 : dn lo * (up (lo + s) * (e * b)) = e * b * (2 ^ s * up lo * dn (lo + s)) := by
    rw [← u, ← Int.mul_assoc, Int.mul_comm (dn lo), Int.mul_comm]
  rw [x1, x2, ← h1, ← h2, v]
  have x3 : b * ((VI p k + 2 ^ s) * up lo * e) - e * (VI p k * up lo * b) = e * b * (2 ^ s * up lo) := by
    generalize VI p k = V
    generalize (2 : Int) ^ s = T
    generalize up lo = U
    have y1 : b * ((V + T) * U * e) = e * b * (V * U) + e * b * (T * U) := by
      rw [Int.add_mul, Int.add_mul, Int.mul_add]
      congr 1
      · rw [Int.mul_comm (V * U) e, Int.mul_left_comm, ← Int.mul_assoc]
      · rw [Int.mul_comm (T * U) e, Int.mul_left_comm, ← Int.mul_assoc]
    have y2 : e * (V * U * b) = e * b * (V * U) := by rw [Int.mul_comm (V * U) b, ← Int.mul_assoc]
    rw [y1, y2]
    omega
  rw [x3, Int.mul_assoc]
end FF

namespace FF
/-- a comprehension, by the place; what stands may be changed on the way -/
theorem loopC_ix {step : D → AH → (Option D → AH → Prop) → Prop} {I : Nat → List D → AH → Prop} : ∀ (ds : List D) {j : Nat} {acc : List D} {h : AH} {K : List D → AH → Prop},
    (∀ i d acc h, ds[i]? = some d → I (j + i) acc h → ∀ K : Option D → AH → Prop, (∀ y h', I (j + i + 1) (acc ++ [y]) h' → K (some y) h') → (∀ h', I (j + i + 1) acc h' → K none h') → step d h K) →
    acc.length + ds.length ≤ SL → I j acc h → (∀ acc' h', I (j + ds.length) acc' h' → K acc' h') → loopC step ds acc h K
  | [], j, acc, h, K, _, _, i, k => k acc h i
  | d :: r, j, acc, h, K, hs, l, i, k => by
    have l' : acc.length + (r.length + 1) ≤ SL := l
    have rest : ∀ acc' h', acc'.length ≤ acc.length + 1 → I (j + 0 + 1) acc' h' → loopC step r acc' h' K := fun acc' h' la i' => loopC_ix r (j := j + 0 + 1) (fun a d acc h hd => by
      have := hs (a + 1) d acc h (by rw [List.getElem?_cons_succ]; exact hd)
      rw [show j + (a + 1) = j + 0 + 1 + a by omega] at this
      exact this) (by omega) i' fun acc h i => k acc h (by rw [List.length_cons, show j + (r.length + 1) = j + 0 + 1 + r.length by omega]; exact i)
    refine hs 0 d acc h rfl i _ (fun y h' i' => ⟨by omega, rest _ h' (by rw [List.length_append, List.length_singleton]; omega) i'⟩) (fun h' i' => rest _ h' (by omega) i')
theorem in3 {x a b c : Int} (h : x ∈ [a, b, c]) : x = a ∨ x = b ∨ x = c := by simpa using h
abbrev PBd (Q : QE) (R : RE) : Post := ⟨fun _ h => Q .non h, Q, fun _ _ => False, fun x _ h => R x h⟩
end FF

namespace FF
/-! ### rounding -/
inductive Md where | even | away | down | up | zero
deriving DecidableEq
def Md.s : Md → List Nat
  | .even => [101, 118, 101, 110]
  | .away => [97, 119, 97, 121]
  | .down => [100, 111, 119, 110]
  | .up => [117, 112]
  | .zero => [122, 101, 114, 111]
def Md.ng : Md → Md
  | .even => .even
  | .away => .away
  | .down => .up
  | .up => .down
  | .zero => .zero
theorem Md.ng_ng {md : Md} : md.ng.ng = md := by cases md <;> rfl
/-- X, from A (number k) to B (number k + 1), is rounded beyond k -/
def Bv (md : Md) (k A B X : Int) : Prop := match md with
  | .even => A + B < 2 * X ∨ (A + B = 2 * X ∧ k % 2 = 1)
  | .away => A + B < 2 * X ∨ (A + B = 2 * X ∧ 0 ≤ k)
  | .down => B ≤ X
  | .up => A < X
  | .zero => if 0 ≤ k then B ≤ X else A < X
theorem Bv.neg {md : Md} {k A B X : Int} : Bv md k A B X ↔ ¬ Bv md.ng (-k - 1) (-B) (-A) (-X) := by
  cases md <;> simp only [Bv, Md.ng]
  · omega
  · omega
  · omega
  · omega
  · by_cases c : 0 ≤ k
    · rw [if_pos c, if_neg (by omega)]; omega
    · rw [if_neg c, if_pos (by omega)]; omega
theorem Bv.scale {md : Md} {k A B X c : Int} (hc : 0 < c) : Bv md k (c * A) (c * B) (c * X) ↔ Bv md k A B X := by
  have e1 : c * A + c * B = c * (A + B) := (Int.mul_add ..).symm
  have e2 : 2 * (c * X) = c * (2 * X) := Int.mul_left_comm ..
  have e3 : ∀ x y : Int, c * x = c * y ↔ x = y := fun x y => ⟨fun h => Int.eq_of_mul_eq_mul_left (by omega) h, fun h => by rw [h]⟩
  cases md <;> simp only [Bv, e1, e2, e3, mul_lt_iff hc, mul_le_iff hc]
theorem Bv.below {md : Md} {k A B X : Int} (ab : A < B) (h : B ≤ X) : Bv md k A B X := by
  cases md <;> simp only [Bv]
  · omega
  · omega
  · omega
  · omega
  · split <;> omega
theorem Bv.above {md : Md} {k A B X : Int} (ab : A < B) (h : X < A) : ¬ Bv md k A B X := by
  cases md <;> simp only [Bv]
  · omega
  · omega
  · omega
  · omega
  · split <;> omega
/-- the integer to which n / d is rounded -/
def toI (md : Md) (n d : Int) : Int :=
  if n % d = 0 ∨ md = .down then n / d else if md = .up then n / d + 1 else if md = .zero then n / d + (if n < 0 then 1 else 0)
  else if 2 * (n % d) ≠ d then n / d + (if d < 2 * (n % d) then 1 else 0) else if md = .even then n / d + n / d % 2 else n / d + (if 0 < n then 1 else 0)
theorem toI_gt {md : Md} {n d k : Int} (hd : 0 < d) : k < toI md n d ↔ Bv md k (k * d) ((k + 1) * d) n := by
  have e := Int.ediv_mul_add_emod n d
  have r0 := Int.emod_nonneg n (show d ≠ 0 by omega)
  have r1 := Int.emod_lt_of_pos n hd
  have q2 : n / d % 2 = 0 ∨ n / d % 2 = 1 := by omega
  -- it is the one or the other
  have two : toI md n d = n / d ∨ toI md n d = n / d + 1 := by
    unfold toI
    repeat' split
    all_goals omega
  have lt : (k * d) < (k + 1) * d := by rw [Int.add_mul, Int.one_mul]; omega
  rcases Int.lt_trichotomy k (n / d) with h | h | h
  · refine ⟨fun _ => Bv.below lt ?_, fun _ => by omega⟩
    have := Int.mul_le_mul_of_nonneg_right (show k + 1 ≤ n / d by omega) (Int.le_of_lt hd)
    omega
  · subst h
    have e1 : (n / d + 1) * d = n / d * d + d := by rw [Int.add_mul, Int.one_mul]
    rw [e1]
    have nq : n < 0 ↔ n / d < 0 := by
      constructor
      · intro z
        exact Int.ediv_neg_of_neg_of_pos z hd
      · intro z
        have := Int.mul_le_mul_of_nonneg_right (show n / d ≤ -1 by omega) (Int.le_of_lt hd)
        omega
    clear two lt
    have ee : n = n / d * d + n % d := e.symm
    unfold toI
    generalize hq : n / d = q at *
    generalize hr : n % d = r at *
    generalize hqd : q * d = Y at *
    cases md <;> simp only [Bv, reduceCtorEq, or_false, or_true, if_true, if_false]
    · by_cases c0 : r = 0
      · rw [if_pos c0]; omega
      · rw [if_neg c0]
        by_cases c1 : 2 * r ≠ d
        · rw [if_pos c1]
          by_cases c2 : d < 2 * r
          · rw [if_pos c2]; omega
          · rw [if_neg c2]; omega
        · rw [if_neg c1]; omega
    · by_cases c0 : r = 0
      · rw [if_pos c0]; omega
      · rw [if_neg c0]
        by_cases c1 : 2 * r ≠ d
        · rw [if_pos c1]
          by_cases c2 : d < 2 * r
          · rw [if_pos c2]; omega
          · rw [if_neg c2]; omega
        · rw [if_neg c1]
          by_cases c2 : 0 < n
          · rw [if_pos c2]; omega
          · rw [if_neg c2]
            have n0 : n ≠ 0 := fun z => c0 (by rw [← hr, z, Int.zero_emod])
            have : n < 0 := by omega
            have := nq.mp this
            omega
    · omega
    · by_cases c0 : r = 0
      · rw [if_pos c0]; omega
      · rw [if_neg c0]; omega
    · by_cases c0 : r = 0
      · rw [if_pos c0]
        split <;> omega
      · rw [if_neg c0]
        by_cases c1 : n < 0
        · rw [if_pos c1, if_neg (by have := nq.mp c1; omega)]; omega
        · rw [if_neg c1, if_pos (by have := mt nq.mpr c1; omega)]; omega
  · refine ⟨fun y => ?_, fun y => absurd y (Bv.above lt ?_)⟩
    · omega
    · have := Int.mul_le_mul_of_nonneg_right (show n / d + 1 ≤ k by omega) (Int.le_of_lt hd)
      rw [Int.add_mul, Int.one_mul] at this
      omega
theorem toI_eq {md : Md} {n d j : Int} (hd : 0 < d) (h : ∀ k, k < j ↔ Bv md k (k * d) ((k + 1) * d) n) : toI md n d = j := by
  have h1 := h (toI md n d)
  have h2 := h j
  rw [← toI_gt hd] at h1 h2
  omega
theorem toI_neg {md : Md} {n d : Int} (hd : 0 < d) : toI md (-n) d = -toI md.ng n d := by
  refine toI_eq hd fun k => ?_
  rw [Bv.neg, Int.neg_neg]
  have := toI_gt (md := md.ng) (n := n) (k := -k - 1) hd
  have e1 : -((k + 1) * d) = (-k - 1) * d := by rw [← Int.neg_mul]; congr 1; omega
  have e2 : -(k * d) = (-k - 1 + 1) * d := by rw [← Int.neg_mul]; congr 1; omega
  rw [e1, e2, ← this]
  omega
/-- n / d is rounded to the float with number j -/
def RJ (md : Md) (p lo n d j : Int) : Prop := ∀ k, k < j ↔ Bv md k (VI p k * up lo * d) (VI p (k + 1) * up lo * d) (n * dn lo)
theorem RJ.uniq {md : Md} {p lo n d j j' : Int} (h : RJ md p lo n d j) (h' : RJ md p lo n d j') : j = j' := by
  have a := (h j').trans (h' j').symm
  have b := (h j).trans (h' j).symm
  omega
theorem RJ.neg {md : Md} {p lo n d j : Int} (h : RJ md.ng p lo n d j) : RJ md p lo (-n) d (-j) := fun k => by
  have h := h (-k - 1)
  rw [Bv.neg]
  have e1 : -(VI p k * up lo * d) = VI p (-k - 1 + 1) * up lo * d := by rw [show -k - 1 + 1 = -k by omega, VI_neg, Int.neg_mul, Int.neg_mul]
  have e2 : -(VI p (k + 1) * up lo * d) = VI p (-k - 1) * up lo * d := by rw [show -k - 1 = -(k + 1) by omega, VI_neg, Int.neg_mul, Int.neg_mul]
  have e3 : -(-n * dn lo) = n * dn lo := by rw [Int.neg_mul, Int.neg_neg]
  rw [e1, e2, e3, ← h]
  omega
theorem RJ.scale {md : Md} {p lo n d j c : Int} (hc : 0 < c) : RJ md p lo (c * n) (c * d) j ↔ RJ md p lo n d j := by
  unfold RJ
  have e : ∀ k, Bv md k (VI p k * up lo * (c * d)) (VI p (k + 1) * up lo * (c * d)) (c * n * dn lo) ↔ Bv md k (VI p k * up lo * d) (VI p (k + 1) * up lo * d) (n * dn lo) := fun k => by
    rw [show VI p k * up lo * (c * d) = c * (VI p k * up lo * d) by ac_rfl, show VI p (k + 1) * up lo * (c * d) = c * (VI p (k + 1) * up lo * d) by ac_rfl, Int.mul_assoc c]
    exact Bv.scale hc
  constructor
  · intro h k
    rw [h k, e]
  · intro h k
    rw [h k, e]
theorem RJ.fr {md : Md} {p lo n d j : Int} (hd : 0 < d) : RJ md p lo (fr n d).1 (fr n d).2 j ↔ RJ md p lo n d j := by
  have gp := gg_pos (n := n) hd
  obtain ⟨a, b⟩ := fr_mul (n := n) (d := d)
  rw [← RJ.scale gp, ← a, ← b]
theorem V_lts {p lo d k : Int} (hd : 0 < d) : VI p k * up lo * d < VI p (k + 1) * up lo * d := by
  have := VI_lt (p := p) (show k < k + 1 by omega)
  exact Int.mul_lt_mul_of_pos_right (Int.mul_lt_mul_of_pos_right this up_pos) hd
/-- in units of the binade -/
theorem RJ.of_unit {md : Md} {p lo n d e : Int} (p2 : 2 ≤ p) (hd : 0 < d) (hn : 0 ≤ n) (u : UEx p lo n d e) : RJ md p lo n d (toI md (n * dn e) (d * up e) + (e - lo) * HH p) ∧
    (∃ q, (toI md (n * dn e) (d * up e) = q ∨ toI md (n * dn e) (d * up e) = q + 1) ∧ FO p lo n d (q + (e - lo) * HH p) ∧ stp p (q + (e - lo) * HH p) = (e - lo).toNat ∧ 0 ≤ q ∧ q < 2 * HH p) := by
  obtain ⟨fo, st, q0, q1⟩ := FO.of_unit (by omega) hd hn u
  have m0 : 0 < d * up e := Int.mul_pos hd up_pos
  have e0 := u.1
  have hp := HH_pos (p := p)
  obtain ⟨s, hs⟩ : ∃ s : Nat, e = lo + s := ⟨(e - lo).toNat, by omega⟩
  subst hs
  rw [show lo + (s : Int) - lo = (s : Int) by omega] at *
  rw [Int.toNat_natCast] at st
  have two : toI md (n * dn (lo + s)) (d * up (lo + s)) = n * dn (lo + s) / (d * up (lo + s)) ∨ toI md (n * dn (lo + s)) (d * up (lo + s)) = n * dn (lo + s) / (d * up (lo + s)) + 1 := by
    unfold toI
    have : n * dn (lo + s) / (d * up (lo + s)) % 2 = 0 ∨ n * dn (lo + s) / (d * up (lo + s)) % 2 = 1 := by omega
    repeat' split
    all_goals omega
  refine ⟨fun k => ?_, _, two, fo, st, q0, q1⟩
  have tg := toI_gt (md := md) (n := n * dn (lo + s)) (d := d * up (lo + s)) (k := n * dn (lo + s) / (d * up (lo + s))) m0
  generalize hq : n * dn (lo + s) / (d * up (lo + s)) = q at *
  rcases Int.lt_trichotomy k (q + s * HH p) with h | h | h
  · refine ⟨fun _ => Bv.below (V_lts hd) ?_, fun _ => by omega⟩
    exact leV.mono hd fo.1 (by omega)
  · subst h
    have c0 : 0 ≤ q + s * HH p := by
      have := Int.mul_nonneg (show (0 : Int) ≤ s by omega) (Int.le_of_lt hp)
      omega
    have v1 : VI p (q + s * HH p) = q * 2 ^ s := by
      rw [VI_pos c0]
      unfold VN
      rw [st]
      congr 1
      omega
    have v2 : VI p (q + s * HH p + 1) = (q + 1) * 2 ^ s := by
      rw [VI_pos (by omega), VN_succ c0, st, ← VI_pos c0, v1, Int.add_mul, Int.one_mul]
    rw [v1, v2]
    -- by what both are multiplied
    have ua := up_add (a := lo) s
    have dl := dn_pos (k := lo)
    have de := dn_pos (k := lo + s)
    rw [← Bv.scale de]
    have f1 : ∀ x : Int, dn (lo + s) * (x * 2 ^ s * up lo * d) = dn lo * (x * (d * up (lo + s))) := fun x => by
      have g1 : dn (lo + s) * (x * 2 ^ s * up lo * d) = x * d * (2 ^ s * up lo * dn (lo + s)) := by ac_rfl
      rw [g1, ← ua]
      ac_rfl
    have f2 : dn (lo + s) * (n * dn lo) = dn lo * (n * dn (lo + s)) := by ac_rfl
    rw [f1, f1, f2, Bv.scale dl]
    have par : (q + s * HH p) % 2 = q % 2 := by
      have : HH p = 2 * 2 ^ (p - 2).toNat := by
        unfold HH
        rw [show (p - 1).toNat = (p - 2).toNat + 1 by omega, Int.pow_succ, Int.mul_comm]
      rw [this, Int.mul_left_comm]
      omega
    have sw : ∀ A B X : Int, Bv md (q + s * HH p) A B X ↔ Bv md q A B X := fun A B X => by
      cases md <;> simp only [Bv, par]
      · rw [show (0 ≤ q + s * HH p) ↔ 0 ≤ q from ⟨fun _ => q0, fun _ => c0⟩]
      · rw [if_pos c0, if_pos q0]
    rw [sw, ← tg]
    omega
  · refine ⟨fun y => by omega, fun y => absurd y (Bv.above (V_lts hd) ?_)⟩
    have : ¬ leV p lo (q + s * HH p + 1) n d := fo.2
    have l : ¬ VI p k * up lo * d ≤ n * dn lo := fun z => this (leV.mono (j := q + s * HH p + 1) hd (show leV p lo k n d from z) (by omega))
    omega
end FF

namespace FF
def k_is_way_1 : Ss := .cons (.ret (.ands (.cons (.isin (.idx (.var 0) (.int 1)) .str) (.cons (.cmp .in_ (.idx (.var 0) (.int 1)) (.gcon 5 (.tup [(.str [101, 118, 101, 110]), (.str [97, 119, 97, 121]), (.str [100, 111, 119, 110]), (.str [117, 112]), (.str [122, 101, 114, 111])]))) .nil)))) .nil
def k_is_way_2 : Ss := .cons (.ite (.ors (.cons (.not (.isin (.var 0) .tup)) (.cons (.cmp .ne (.bi .len (.cons (.var 0) .nil)) (.int 2)) (.cons (.not (.isin (.idx (.var 0) (.int 0)) (.obj 2))) .nil)))) (.cons (.ret (.bl false)) .nil) .nil) k_is_way_1
def ir_is_way : Fd := ⟨1, 1, k_is_way_2⟩
def ir_check_ways : Fd := ⟨1, 2, (.cons (.ite (.ors (.cons (.not (.isin (.var 0) .lst)) (.cons (.not (.chain .le .le (.int 1) (.bi .len (.cons (.var 0) .nil)) (.gcon 6 (.int 3)))) (.cons (.not (.bi .all (.cons (.comp (.name 1) (.seq (.var 0)) .nil (.call 68 (.cons (.var 1) .nil) []) [1]) .nil))) .nil)))) (.cons (.raise 0 (.str [119, 97, 121, 115])) .nil) .nil) .nil)⟩
def ir_sign_of : Fd := ⟨1, 1, (.cons (.ret (.ite (.cmp .gt (.idx (.var 0) (.int 0)) (.int 0)) (.int 1) (.neg (.int 1)))) .nil)⟩
def k_to_integer_1 : Ss := .cons (.ret (.ite (.cmp .eq (.var 0) (.str [101, 118, 101, 110])) (.bin .add (.var 3) (.bin .mod (.var 3) (.int 2))) (.bin .add (.var 3) (.bi .int (.cons (.cmp .gt (.var 1) (.int 0)) .nil))))) .nil
def k_to_integer_2 : Ss := .cons (.ite (.cmp .ne (.bin .mul (.int 2) (.var 4)) (.var 2)) (.cons (.ret (.bin .add (.var 3) (.bi .int (.cons (.cmp .gt (.bin .mul (.int 2) (.var 4)) (.var 2)) .nil)))) .nil) .nil) k_to_integer_1
def k_to_integer_3 : Ss := .cons (.ite (.cmp .eq (.var 0) (.str [122, 101, 114, 111])) (.cons (.ret (.bin .add (.var 3) (.bi .int (.cons (.cmp .lt (.var 1) (.int 0)) .nil)))) .nil) .nil) k_to_integer_2
def k_to_integer_4 : Ss := .cons (.ite (.cmp .eq (.var 0) (.str [117, 112])) (.cons (.ret (.bin .add (.var 3) (.int 1))) .nil) .nil) k_to_integer_3
def k_to_integer_5 : Ss := .cons (.ite (.ors (.cons (.cmp .eq (.var 4) (.int 0)) (.cons (.cmp .eq (.var 0) (.str [100, 111, 119, 110])) .nil))) (.cons (.ret (.var 3)) .nil) .nil) k_to_integer_4
def k_to_integer_6 : Ss := .cons (.setT (.cons (.name 3) (.cons (.name 4) .nil)) (.bi .divmod (.cons (.var 1) (.cons (.var 2) .nil)))) k_to_integer_5
def ir_to_integer : Fd := ⟨3, 5, k_to_integer_6⟩
def k_rounded_once_1 : Ss := .cons (.ret (.var 5)) .nil
def k_rounded_once_2 : Ss := .cons (.ite (.call 27 (.cons (.call 61 (.cons (.var 0) .nil) []) (.cons (.call 26 (.cons (.var 5) .nil) []) .nil)) []) (.cons (.raise 4 (.call 69 (.cons (.var 2) .nil) [])) .nil) .nil) k_rounded_once_1
def k_rounded_once_3 : Ss := .cons (.set 5 (.call 32 (.cons (.tup (.cons (.call 70 (.cons (.var 1) (.cons (.idx (.var 4) (.int 0)) (.cons (.idx (.var 4) (.int 1)) .nil))) []) (.cons (.int 1) .nil))) (.cons (.var 3) .nil)) [])) k_rounded_once_2
def k_rounded_once_4 : Ss := .cons (.set 4 (.call 34 (.cons (.var 2) (.cons (.var 3) .nil)) [])) k_rounded_once_3
def k_rounded_once_5 : Ss := .cons (.set 3 (.call 28 (.cons (.call 33 (.cons (.var 0) (.cons (.var 2) .nil)) []) .nil) [])) k_rounded_once_4
def k_rounded_once_6 : Ss := .cons (.ite (.call 31 (.cons (.var 0) (.cons (.var 2) .nil)) []) (.cons (.raise 4 (.call 69 (.cons (.var 2) .nil) [])) .nil) .nil) k_rounded_once_5
def ir_rounded_once : Fd := ⟨3, 6, k_rounded_once_6⟩
def k_rounded_through_1 : Ss := .cons (.set 1 (.call 71 (.cons (.var 2) (.cons (.var 3) (.cons (.var 1) .nil))) [])) .nil
def k_rounded_through_2 : Ss := .cons (.ret (.var 1)) .nil
def k_rounded_through_3 : Ss := .cons (.for_ (.tup (.cons (.name 2) (.cons (.name 3) .nil))) (.seq (.var 0)) k_rounded_through_1) k_rounded_through_2
def ir_rounded_through : Fd := ⟨2, 4, k_rounded_through_3⟩
def k_rounded_by_1 : Ss := .cons (.ret (.call 73 (.cons (.var 0) (.cons (.var 1) .nil)) [])) .nil
def k_rounded_by_2 : Ss := .cons (.expr (.call 53 (.cons (.str [120]) (.cons (.var 1) .nil)) [])) k_rounded_by_1
def k_rounded_by_3 : Ss := .cons (.expr (.call 72 (.cons (.var 0) .nil) [])) k_rounded_by_2
def ir_rounded_by : Fd := ⟨2, 2, k_rounded_by_3⟩
end FF

namespace FF
theorem md_ok {md : Md} {x : List Nat} (h : D.pln 60 (.str x) = true) : eqOk (.str md.s) (.str x) := ⟨by cases md <;> rfl, h⟩
theorem eqb_even {md : Md} : D.eqb (.str md.s) (.str [101, 118, 101, 110]) = decide (md = .even) := by cases md <;> rfl
theorem eqb_down {md : Md} : D.eqb (.str md.s) (.str [100, 111, 119, 110]) = decide (md = .down) := by cases md <;> rfl
theorem eqb_up {md : Md} : D.eqb (.str md.s) (.str [117, 112]) = decide (md = .up) := by cases md <;> rfl
theorem eqb_zero {md : Md} : D.eqb (.str md.s) (.str [122, 101, 114, 111]) = decide (md = .zero) := by cases md <;> rfl
def sp_to_integer : Spec := fun ds h Q _ => ∃ md n d, ds = [.str (Md.s md), .int n, .int d] ∧ 0 < d ∧ Sz 9000 d ∧ Q (.int (toI md n d)) h
theorem b_to_integer {Γ : Gam} : BodyOk Γ ir_to_integer sp_to_integer := by
  rintro ds h Q R ⟨md, n, d, rfl, d0, sd, q⟩
  refine ⟨rfl, ?_⟩
  show wpSs Γ ir_to_integer.body [.val (.str md.s), .val (.int n), .val (.int d), .un, .un] h _
  have bd := bitsI_le sd
  have s2 : Sz 64 2 := by unfold Sz; decide
  unfold toI at q
  simp only [ir_to_integer, k_to_integer_6, wpSs, wpS, wpE, wpEs, wpAnd, wpOr, wpI, wpF, wpT, wpH, Env.at, Env.put, Env.wipe, Env.nox, Slot.nox, wBin, binI, wCmp, cmpI, wBi, isTy, asL, asLT, bindT, bindTs, intsOf, boolsOf, ixL0, ixL1, ixL2, List.getElem?_cons_zero, List.getElem?_cons_succ, List.nil_append, List.cons_append, List.append_nil, if_true, ite_true]
  refine ⟨⟨d0, by omega⟩, ?_⟩
  simp only [k_to_integer_5, wpSs, wpS, wpE, wpEs, wpAnd, wpOr, wpI, wpF, wpT, wpH, Env.at, Env.put, Env.wipe, Env.nox, Slot.nox, wBin, binI, wCmp, cmpI, wBi, isTy, asL, asLT, bindT, bindTs, intsOf, boolsOf, ixL0, ixL1, ixL2, List.getElem?_cons_zero, List.getElem?_cons_succ, List.nil_append, List.cons_append, List.append_nil, if_true, ite_true]
  refine ⟨ok_int, ?_⟩
  rw [eqb_ints]
  by_cases c0 : n % d = 0
  · rw [decide_eq_true c0]
    rw [if_pos (.inl c0)] at q
    exact q
  rw [decide_eq_false c0]
  simp only [Bool.false_eq_true, if_false]
  refine ⟨md_ok rfl, ?_⟩
  rw [eqb_down]
  by_cases c1 : md = .down
  · rw [decide_eq_true c1]
    rw [if_pos (.inr c1)] at q
    exact q
  rw [decide_eq_false c1]
  rw [if_neg (fun z => by rcases z with z | z; exact c0 z; exact c1 z)] at q
  simp only [Bool.false_eq_true, if_false]
  simp only [k_to_integer_4, wpSs, wpS, wpE, wpEs, wpAnd, wpOr, wpI, wpF, wpT, wpH, Env.at, Env.put, Env.wipe, Env.nox, Slot.nox, wBin, binI, wCmp, cmpI, wBi, isTy, asL, asLT, bindT, bindTs, intsOf, boolsOf, ixL0, ixL1, ixL2, List.getElem?_cons_zero, List.getElem?_cons_succ, List.nil_append, List.cons_append, List.append_nil, if_true, ite_true]
  refine ⟨md_ok rfl, ?_⟩
  rw [eqb_up]
  by_cases c2 : md = .up
  · rw [decide_eq_true c2]
    rw [if_pos c2] at q
    exact q
  rw [decide_eq_false c2]
  rw [if_neg c2] at q
  simp only [Bool.false_eq_true, if_false]
  simp only [k_to_integer_3, wpSs, wpS, wpE, wpEs, wpAnd, wpOr, wpI, wpF, wpT, wpH, Env.at, Env.put, Env.wipe, Env.nox, Slot.nox, wBin, binI, wCmp, cmpI, wBi, isTy, asL, asLT, bindT, bindTs, intsOf, boolsOf, ixL0, ixL1, ixL2, List.getElem?_cons_zero, List.getElem?_cons_succ, List.nil_append, List.cons_append, List.append_nil, if_true, ite_true]
  refine ⟨md_ok rfl, ?_⟩
  rw [eqb_zero]
  by_cases c3 : md = .zero
  · rw [decide_eq_true c3]
    rw [if_pos c3] at q
    simp only [if_true]
    by_cases c4 : n < 0
    · rw [decide_eq_true c4]; rw [if_pos c4] at q; exact q
    · rw [decide_eq_false c4]; rw [if_neg c4] at q; exact q
  rw [decide_eq_false c3]
  rw [if_neg c3] at q
  simp only [Bool.false_eq_true, if_false]
  simp only [k_to_integer_2, wpSs, wpS, wpE, wpEs, wpAnd, wpOr, wpI, wpF, wpT, wpH, Env.at, Env.put, Env.wipe, Env.nox, Slot.nox, wBin, binI, wCmp, cmpI, wBi, isTy, asL, asLT, bindT, bindTs, intsOf, boolsOf, ixL0, ixL1, ixL2, List.getElem?_cons_zero, List.getElem?_cons_succ, List.nil_append, List.cons_append, List.append_nil, if_true, ite_true]
  refine ⟨mul_small s2, ok_int, ?_⟩
  rw [eqb_ints]
  by_cases c4 : 2 * (n % d) = d
  · rw [decide_eq_true c4]
    rw [if_neg (fun z => z c4)] at q
    simp only [Bool.not_true, Bool.false_eq_true, if_false]
    simp only [k_to_integer_1, wpSs, wpS, wpE, wpEs, wpAnd, wpOr, wpI, wpF, wpT, wpH, Env.at, Env.put, Env.wipe, Env.nox, Slot.nox, wBin, binI, wCmp, cmpI, wBi, isTy, asL, asLT, bindT, bindTs, intsOf, boolsOf, ixL0, ixL1, ixL2, List.getElem?_cons_zero, List.getElem?_cons_succ, List.nil_append, List.cons_append, List.append_nil, if_true, ite_true, fmod_pos (show (0 : Int) < 2 by decide)]
    refine ⟨md_ok rfl, ?_⟩
    rw [eqb_even]
    by_cases c5 : md = .even
    · rw [decide_eq_true c5]
      rw [if_pos c5] at q
      exact ⟨by decide, q⟩
    · rw [decide_eq_false c5]
      rw [if_neg c5] at q
      simp only [Bool.false_eq_true, if_false]
      by_cases c6 : 0 < n
      · rw [decide_eq_true c6]; rw [if_pos c6] at q; exact q
      · rw [decide_eq_false c6]; rw [if_neg c6] at q; exact q
  · rw [decide_eq_false c4]
    rw [if_pos c4] at q
    simp only [Bool.not_false, if_true]
    refine ⟨mul_small s2, ?_⟩
    by_cases c6 : d < 2 * (n % d)
    · rw [decide_eq_true c6]; rw [if_pos c6] at q; exact q
    · rw [decide_eq_false c6]; rw [if_neg c6] at q; exact q
def sg (n : Int) : Int := if 0 < n then 1 else -1
def sp_sign_of : Spec := fun ds h Q _ => ∃ n d, ds = [num (n, d)] ∧ Q (.int (sg n)) h
theorem b_sign_of {Γ : Gam} : BodyOk Γ ir_sign_of sp_sign_of := by
  rintro ds h Q R ⟨n, d, rfl, q⟩
  refine ⟨rfl, ?_⟩
  show wpSs Γ ir_sign_of.body [.val (num (n, d))] h _
  simp only [ir_sign_of, wpSs, wpS, wpE, wpEs, wpAnd, wpOr, wpI, wpF, wpT, wpH, Env.at, Env.put, Env.wipe, Env.nox, Slot.nox, wBin, binI, wCmp, cmpI, wBi, isTy, asL, asLT, bindT, bindTs, intsOf, boolsOf, ixL0, ixL1, ixL2, List.getElem?_cons_zero, List.getElem?_cons_succ, List.nil_append, List.cons_append, List.append_nil, if_true, ite_true]
  unfold sg at q
  by_cases c : 0 < n
  · rw [decide_eq_true c]; rw [if_pos c] at q; exact q
  · rw [decide_eq_false c]; rw [if_neg c] at q; exact q
theorem V_natAbs {p k : Int} : ((VI p k).natAbs : Int) = VI p k.natAbs := by
  by_cases c : 0 ≤ k
  · have := VI_le (p := p) c
    rw [VI_pos (Int.le_refl _), VN_zero] at this
    rw [show ((k.natAbs : Nat) : Int) = k by omega]
    omega
  · have := VI_le (p := p) (show 0 ≤ -k by omega)
    rw [VI_pos (Int.le_refl _), VN_zero, VI_neg] at this
    rw [show ((k.natAbs : Nat) : Int) = -k by omega, VI_neg]
    omega
theorem vR_natAbs {p lo k : Int} : (((vR p lo k).1.natAbs : Nat) : Int) = (vR p lo k.natAbs).1 ∧ (vR p lo k).2 = (vR p lo k.natAbs).2 := by
  by_cases c : 0 ≤ k
  · rw [show ((k.natAbs : Nat) : Int) = k by omega]
    have := vR_nonneg (p := p) (lo := lo) c
    exact ⟨by omega, rfl⟩
  · obtain ⟨j, rfl⟩ : ∃ j, k = -j := ⟨-k, by omega⟩
    rw [show (((-j).natAbs : Nat) : Int) = j by omega, vR_neg]
    have := vR_nonneg (p := p) (lo := lo) (show 0 ≤ j by omega)
    exact ⟨by show (((-(vR p lo j).1).natAbs : Nat) : Int) = _; omega, rfl⟩
theorem vR_lt {p lo j k : Int} : (vR p lo j).1 * (vR p lo k).2 < (vR p lo k).1 * (vR p lo j).2 ↔ j < k := by
  unfold vR
  rw [fr_lt dn_pos dn_pos]
  have m0 : 0 < up lo * dn lo := Int.mul_pos up_pos dn_pos
  have e1 : VI p j * up lo * dn lo = up lo * dn lo * VI p j := by ac_rfl
  have e2 : VI p k * up lo * dn lo = up lo * dn lo * VI p k := by ac_rfl
  rw [e1, e2, mul_lt_iff m0]
  have := VI_le_iff (p := p) (k := k) (j := j)
  omega
/-- in its unit, the rounded integer is worth the float with its number -/
theorem unit_vR {p lo m : Int} {s : Nat} (h0 : 0 ≤ m) (h1 : m ≤ 2 * HH p) (h2 : s = 0 ∨ HH p ≤ m) : fr (m * up (lo + s)) (1 * dn (lo + s)) = vR p lo (m + s * HH p) := by
  have hp := HH_pos (p := p)
  have c0 : 0 ≤ m + s * HH p := by
    have := Int.mul_nonneg (show (0 : Int) ≤ s by omega) (Int.le_of_lt hp)
    omega
  have v : VI p (m + s * HH p) = m * 2 ^ s := by
    rw [VI_pos c0]
    by_cases c : m = 2 * HH p
    · have := (VN_at (p := p) (q := HH p) (s := s + 1) (.inr ⟨Int.le_refl _, by omega⟩)).2
      have e : HH p + ((s + 1 : Nat) : Int) * HH p = m + s * HH p := by rw [Int.natCast_add, Int.add_mul, Int.natCast_one, Int.one_mul]; omega
      rw [e] at this
      rw [this, c, Int.pow_succ]
      ac_rfl
    · exact (VN_at (by omega)).2
  unfold vR
  rw [v, Int.one_mul]
  refine fr_of dn_pos dn_pos ?_
  have h := up_add (a := lo) s
  rw [Int.mul_assoc, h, ← Int.mul_assoc, ← Int.mul_assoc]
theorem mo_pos' {p lo hi : Int} (f : Fm p lo hi) : 0 < mo p lo hi := by
  have hp := HH_pos (p := p)
  have := Int.mul_nonneg (show 0 ≤ hi - lo by have := f.lh; omega) (Int.le_of_lt hp)
  unfold mo
  omega
theorem UEx.ex {p lo n d : Int} (hd : 0 < d) : ∃ e, UEx p lo n d e := by
  have low : ∀ k : Nat, ¬ le2 (lo + k + p) (n.natAbs : Int) d → ∃ j : Nat, ¬ le2 (lo + j + p) (n.natAbs : Int) d ∧ (j = 0 ∨ le2 (lo + j - 1 + p) (n.natAbs : Int) d) := fun k => by
    induction k with
    | zero => exact fun h => ⟨0, h, .inl rfl⟩
    | succ k ih =>
      intro h
      by_cases c : le2 (lo + k + p) (n.natAbs : Int) d
      · exact ⟨k + 1, h, .inr (by rw [show lo + ((k + 1 : Nat) : Int) - 1 + p = lo + k + p by omega]; exact c)⟩
      · exact ih c
  obtain ⟨K, hK⟩ : ∃ K : Nat, (n.natAbs : Int) ≤ lo + K + p := ⟨((n.natAbs : Int) - lo - p).toNat, by omega⟩
  obtain ⟨j, a, b⟩ := low K (fun z => by
    unfold le2 up dn at z
    rw [show (-(lo + (K : Int) + p)).toNat = 0 by omega, Int.pow_zero, Int.mul_one] at z
    have l := pow_le (show n.natAbs ≤ (lo + (K : Int) + p).toNat by omega)
    have t : ((n.natAbs : Nat) : Int) < 2 ^ n.natAbs := by
      have := Nat.lt_two_pow_self (n := n.natAbs)
      have e : ((2 ^ n.natAbs : Nat) : Int) = 2 ^ n.natAbs := by rw [Int.natCast_pow]; rfl
      omega
    have := Int.mul_le_mul_of_nonneg_left (show 1 ≤ d by omega) (Int.le_of_lt (two_pos (lo + (K : Int) + p).toNat))
    omega)
  refine ⟨lo + j, by omega, a, ?_⟩
  rcases b with b | b
  · exact .inl (by omega)
  · exact .inr b
/-- rounding a number from 0 on -/
structure Rd (md : Md) (p lo hi n d e : Int) : Prop where
  j : RJ md p lo n d (toI md (n * dn e) (d * up e) + (e - lo) * HH p)
  j0 : 0 ≤ toI md (n * dn e) (d * up e)
  j1 : toI md (n * dn e) (d * up e) ≤ 2 * HH p
  v : fr (toI md (n * dn e) (d * up e) * up e) (1 * dn e) = vR p lo (toI md (n * dn e) (d * up e) + (e - lo) * HH p)
theorem Rd.of {md : Md} {p lo hi n d e : Int} (f : Fm p lo hi) (hd : 0 < d) (hn : 0 ≤ n) (u : UEx p lo n d e) : Rd md p lo hi n d e := by
  obtain ⟨a, q, b, fo, st, q0, q1⟩ := RJ.of_unit (md := md) f.p2 hd hn u
  have e0 := u.1
  have hp := HH_pos (p := p)
  obtain ⟨s, hs⟩ : ∃ s : Nat, e = lo + s := ⟨(e - lo).toNat, by omega⟩
  subst hs
  rw [show lo + (s : Int) - lo = (s : Int) by omega] at *
  rw [Int.toNat_natCast] at st
  have hq : s = 0 ∨ HH p ≤ q := by
    by_cases s0 : s = 0
    · exact .inl s0
    · right
      apply Classical.byContradiction
      intro z
      have st' : ((q + s * HH p) / HH p - 1).toNat = s := st
      have k2 : (q + s * HH p) / HH p < s + 1 := (Int.ediv_lt_iff_lt_mul hp).mpr (by rw [Int.add_mul, Int.one_mul]; omega)
      omega
  refine ⟨by rw [show lo + (s : Int) - lo = (s : Int) by omega]; exact a, by omega, by omega, ?_⟩
  rw [show lo + (s : Int) - lo = (s : Int) by omega]
  exact unit_vR (by omega) (by omega) (by omega)
/-- what is too far comes beyond the greatest float -/
theorem Rd.far {md : Md} {p lo hi n d j : Int} (f : Fm p lo hi) (hd : 0 < d) (hn : 0 ≤ n) (h : le2 (hi + p) (n.natAbs : Int) d) (r : RJ md p lo n d j) : mo p lo hi < j := by
  -- below the number there is float mo + 1
  rw [r]
  refine Bv.below (V_lts hd) ?_
  rw [nab hn] at h
  obtain ⟨_, v⟩ := mo_at f
  have e : VI p (mo p lo hi + 1) = VN p (mo p lo hi) + 2 ^ (hi - lo).toNat := by
    have m0 := mo_pos' f
    obtain ⟨st, _⟩ := mo_at f
    rw [VI_pos (by omega), VN_succ (by omega), st]
  rw [e, v]
  have p1 := f.p2
  have lh := f.lh
  have HP : 2 * HH p = 2 ^ p.toNat := (HH_at (by omega)).symm
  have e2 : (2 * HH p - 1) * 2 ^ (hi - lo).toNat + 2 ^ (hi - lo).toNat = 2 ^ (hi - lo + p).toNat := by
    rw [Int.sub_mul, Int.one_mul, HP, ← Int.pow_add]
    rw [show p.toNat + (hi - lo).toNat = (hi - lo + p).toNat by omega]
    omega
  rw [e2]
  have := (leV_units (lo := lo) (n := n) (d := d) (m := 1) (hi - lo + p).toNat).mpr (by
    rw [Int.one_mul, show lo + (((hi - lo + p).toNat : Nat) : Int) = hi + p by omega]
    unfold le2 at h
    rw [Int.mul_comm d]
    exact h)
  rw [Int.one_mul] at this
  exact this
def sp_rounded_once : Spec := fun ds h Q R => ∃ p lo hi md n d, ds = [fmD p lo hi, .str (Md.s md), num (n, d)] ∧ Fm p lo hi ∧ Nz n d ∧ ∀ j, RJ md p lo n d j → ((j.natAbs : Int) ≤ mo p lo hi → Q (num (vR p lo j)) h) ∧ (mo p lo hi < (j.natAbs : Int) → R ⟨4, .int (sg n)⟩ h)
theorem b_rounded_once {Γ : Gam} (g26 : Γ.fn 26 = sp_size_of) (g27 : Γ.fn 27 = sp_is_less) (g28 : Γ.fn 28 = sp_power) (g31 : Γ.fn 31 = sp_is_far) (g32 : Γ.fn 32 = sp_times) (g33 : Γ.fn 33 = sp_unit_exponent) (g34 : Γ.fn 34 = sp_over) (g61 : Γ.fn 61 = sp_greatest) (g69 : Γ.fn 69 = sp_sign_of) (g70 : Γ.fn 70 = sp_to_integer) : BodyOk Γ ir_rounded_once sp_rounded_once := by
  rintro ds h Q R ⟨p, lo, hi, md, n, d, rfl, f, ⟨d0, sn, sd⟩, q⟩
  refine ⟨rfl, ?_⟩
  show wpSs Γ ir_rounded_once.body [.val (fmD p lo hi), .val (.str md.s), .val (num (n, d)), .un, .un, .un] h _
  simp only [ir_rounded_once, k_rounded_once_6, wpSs, wpS, wpE, wpEs, wpAnd, wpOr, wpI, wpF, wpT, wpH, Env.at, Env.put, Env.wipe, Env.nox, Slot.nox, wBin, binI, wCmp, cmpI, wBi, isTy, asL, asLT, bindT, bindTs, intsOf, boolsOf, ixL0, ixL1, ixL2, List.getElem?_cons_zero, List.getElem?_cons_succ, List.nil_append, List.cons_append, List.append_nil, if_true, ite_true, g31]
  refine ⟨p, lo, hi, n, d, rfl, f, d0, sn, sd, ?_⟩
  -- its number
  have key : ∀ e, UEx p lo n d e → ∃ j, RJ md p lo n d j ∧ vR p lo j = fr (toI md (n * dn e) (d * up e) * up e) (1 * dn e) ∧ ((toI md (n * dn e) (d * up e)).natAbs : Int) ≤ 2 * HH p := fun e u => by
    by_cases c : 0 ≤ n
    · obtain ⟨a, a0, a1, a2⟩ := Rd.of (md := md) f d0 c u
      exact ⟨_, a, a2.symm, by omega⟩
    · obtain ⟨k, rfl⟩ : ∃ k, n = -k := ⟨-n, by omega⟩
      have u' : UEx p lo k d e := by
        unfold UEx at u ⊢
        rw [Int.natAbs_neg] at u
        exact u
      obtain ⟨a, a0, a1, a2⟩ := Rd.of (md := md.ng) f d0 (show 0 ≤ k by omega) u'
      have m0 : 0 < d * up e := Int.mul_pos d0 up_pos
      have tn : toI md (-k * dn e) (d * up e) = -toI md.ng (k * dn e) (d * up e) := by rw [Int.neg_mul, toI_neg m0]
      refine ⟨_, a.neg, ?_, by rw [tn]; omega⟩
      rw [vR_neg, ← a2, tn, Int.neg_mul, fr_neg (by rw [Int.one_mul]; exact dn_pos)]
  have kf : le2 (hi + p) (n.natAbs : Int) d → ∀ j, RJ md p lo n d j → mo p lo hi < (j.natAbs : Int) := fun fa j r => by
    by_cases c : 0 ≤ n
    · have := Rd.far f d0 c fa r
      omega
    · obtain ⟨k, rfl⟩ : ∃ k, n = -k := ⟨-n, by omega⟩
      rw [Int.natAbs_neg] at fa
      have r' : RJ md.ng p lo k d (-j) := by
        have : RJ md.ng p lo (-(-k)) d (-j) := RJ.neg (md := md.ng) (by rw [Md.ng_ng]; exact r)
        rw [Int.neg_neg] at this
        exact this
      have := Rd.far f d0 (show 0 ≤ k by omega) fa r'
      omega
  obtain ⟨p2, p100, l0, lh, h0⟩ := id f
  by_cases fa : le2 (hi + p) (n.natAbs : Int) d
  · rw [decide_eq_true fa]
    simp only [if_true, wpSs, wpS, wpE, wpEs, wpAnd, wpOr, wpI, wpF, wpT, wpH, Env.at, Env.put, Env.wipe, Env.nox, Slot.nox, wBin, binI, wCmp, cmpI, wBi, isTy, asL, asLT, bindT, bindTs, intsOf, boolsOf, ixL0, ixL1, ixL2, List.getElem?_cons_zero, List.getElem?_cons_succ, List.nil_append, List.cons_append, List.append_nil, if_true, ite_true, g69]
    -- there is such a number
    refine ⟨n, d, rfl, ?_⟩
    have : ∃ j, RJ md p lo n d j := by
      obtain ⟨e, u⟩ : ∃ e, UEx p lo n d e := UEx.ex d0
      obtain ⟨j, a, _⟩ := key e u
      exact ⟨j, a⟩
    obtain ⟨j, r⟩ := this
    exact (q j r).2 (kf fa j r)
  · rw [decide_eq_false fa]
    simp only [Bool.false_eq_true, if_false]
    simp only [k_rounded_once_5, wpSs, wpS, wpE, wpEs, wpAnd, wpOr, wpI, wpF, wpT, wpH, Env.at, Env.put, Env.wipe, Env.nox, Slot.nox, wBin, binI, wCmp, cmpI, wBi, isTy, asL, asLT, bindT, bindTs, intsOf, boolsOf, ixL0, ixL1, ixL2, List.getElem?_cons_zero, List.getElem?_cons_succ, List.nil_append, List.cons_append, List.append_nil, if_true, ite_true, g33, g28]
    refine ⟨p, lo, hi, n, d, rfl, f, d0, sn, sd, fun e u => ?_⟩
    have eh : e ≤ hi := by
      apply Classical.byContradiction
      intro z
      rcases u.2.2 with y | y
      · omega
      · exact fa (y.mono (by omega) (Int.le_of_lt d0))
    have e0 := u.1
    have ue : Sz 201 (up e) := Sz.up (N := 200) (by omega)
    have de : Sz 201 (dn e) := Sz.dn (N := 200) (by omega)
    have mp : 0 < d * up e := Int.mul_pos d0 up_pos
    obtain ⟨j, r, v, sm⟩ := key e u
    refine ⟨e, rfl, by omega, by omega, ?_⟩
    simp only [k_rounded_once_4, wpSs, wpS, wpE, wpEs, wpAnd, wpOr, wpI, wpF, wpT, wpH, Env.at, Env.put, Env.wipe, Env.nox, Slot.nox, wBin, binI, wCmp, cmpI, wBi, isTy, asL, asLT, bindT, bindTs, intsOf, boolsOf, ixL0, ixL1, ixL2, List.getElem?_cons_zero, List.getElem?_cons_succ, List.nil_append, List.cons_append, List.append_nil, if_true, ite_true, g34]
    refine ⟨n, d, up e, dn e, rfl, d0, up_pos, sd.mono (by decide), ue.mono (by decide), sn.mono (by decide), de.mono (by decide), ?_⟩
    simp only [k_rounded_once_3, wpSs, wpS, wpE, wpEs, wpAnd, wpOr, wpI, wpF, wpT, wpH, Env.at, Env.put, Env.wipe, Env.nox, Slot.nox, wBin, binI, wCmp, cmpI, wBi, isTy, asL, asLT, bindT, bindTs, intsOf, boolsOf, ixL0, ixL1, ixL2, List.getElem?_cons_zero, List.getElem?_cons_succ, List.nil_append, List.cons_append, List.append_nil, if_true, ite_true, g70, g32]
    have sb := (sd.mul ue).fr2 (n := n * dn e) mp
    have fp := fr_pos (n := n * dn e) mp
    have te : toI md (fr (n * dn e) (d * up e)).1 (fr (n * dn e) (d * up e)).2 = toI md (n * dn e) (d * up e) := by
      have gp := gg_pos (n := n * dn e) mp
      obtain ⟨a, b⟩ := fr_mul (n := n * dn e) (d := d * up e)
      refine toI_eq fp fun k => ?_
      rw [toI_gt mp]
      have e1 : ∀ x : Int, gg (n * dn e) (d * up e) * (x * (fr (n * dn e) (d * up e)).2) = x * (d * up e) := fun x => by rw [Int.mul_left_comm, ← b]
      have := Bv.scale (md := md) (k := k) (A := k * (fr (n * dn e) (d * up e)).2) (B := (k + 1) * (fr (n * dn e) (d * up e)).2) (X := (fr (n * dn e) (d * up e)).1) gp
      rw [e1, e1, ← a] at this
      exact this
    refine ⟨md, _, _, rfl, fp, sb.mono (by decide), (show 2 ≤ SL by decide), ?_⟩
    rw [te]
    have hz := HH_sz p100
    have s1 : Sz 1 1 := by unfold Sz; decide
    have zm : Sz 103 (toI md (n * dn e) (d * up e)) := by unfold Sz at *; omega
    refine ⟨toI md (n * dn e) (d * up e), 1, up e, dn e, rfl, by decide, dn_pos, s1.mono (by decide), de.mono (by decide), zm.mono (by decide), ue.mono (by decide), ?_⟩
    rw [← v]
    simp only [k_rounded_once_2, wpSs, wpS, wpE, wpEs, wpAnd, wpOr, wpI, wpF, wpT, wpH, Env.at, Env.put, Env.wipe, Env.nox, Slot.nox, wBin, binI, wCmp, cmpI, wBi, isTy, asL, asLT, bindT, bindTs, intsOf, boolsOf, ixL0, ixL1, ixL2, List.getElem?_cons_zero, List.getElem?_cons_succ, List.nil_append, List.cons_append, List.append_nil, if_true, ite_true, g27, g61, g26]
    have mo0 := mo_pos' f
    obtain ⟨ga, gb⟩ := vR_sz f (show -mo p lo hi ≤ mo p lo hi by omega) (Int.le_refl _)
    have zj : Sz 304 (vR p lo j).1 ∧ Sz 202 (vR p lo j).2 := by
      rw [v]
      have dp : 0 < 1 * dn e := by rw [Int.one_mul]; exact dn_pos
      exact ⟨(zm.mul ue).fr1 dp, Sz.fr2 ((s1.mul de).mono (by decide)) dp⟩
    have za : Sz 304 ((((vR p lo j).1.natAbs : Nat) : Int)) := by have := zj.1; unfold Sz at *; omega
    refine ⟨p, lo, hi, rfl, f, (vR p lo j).1, (vR p lo j).2, rfl, (vR p lo (mo p lo hi)).1, (vR p lo (mo p lo hi)).2, _, (vR p lo j).2, rfl, ga.mono (by decide), gb.mono (by decide), za.mono (by decide), zj.2.mono (by decide), ?_⟩
    have cmp : (vR p lo (mo p lo hi)).1 * (vR p lo j).2 < (((vR p lo j).1.natAbs : Nat) : Int) * (vR p lo (mo p lo hi)).2 ↔ mo p lo hi < (j.natAbs : Int) := by
      obtain ⟨a, b⟩ := vR_natAbs (p := p) (lo := lo) (k := j)
      rw [a, b]
      exact vR_lt
    by_cases c : mo p lo hi < (j.natAbs : Int)
    · rw [decide_eq_true (cmp.mpr c)]
      simp only [if_true, wpSs, wpS, wpE, wpEs, wpAnd, wpOr, wpI, wpF, wpT, wpH, Env.at, Env.put, Env.wipe, Env.nox, Slot.nox, wBin, binI, wCmp, cmpI, wBi, isTy, asL, asLT, bindT, bindTs, intsOf, boolsOf, ixL0, ixL1, ixL2, List.getElem?_cons_zero, List.getElem?_cons_succ, List.nil_append, List.cons_append, List.append_nil, if_true, ite_true, g69]
      exact ⟨n, d, rfl, (q j r).2 c⟩
    · rw [decide_eq_false (fun z => c (cmp.mp z))]
      simp only [Bool.false_eq_true, if_false]
      simp only [k_rounded_once_1, wpSs, wpS, wpE, wpEs, wpAnd, wpOr, wpI, wpF, wpT, wpH, Env.at, Env.put, Env.wipe, Env.nox, Slot.nox, wBin, binI, wCmp, cmpI, wBi, isTy, asL, asLT, bindT, bindTs, intsOf, boolsOf, ixL0, ixL1, ixL2, List.getElem?_cons_zero, List.getElem?_cons_succ, List.nil_append, List.cons_append, List.append_nil, if_true, ite_true]
      exact (q j r).1 (by omega)
end FF

namespace FF
structure Way where
  p : Int
  lo : Int
  hi : Int
  md : Md
def Way.D (w : Way) : D := .tup [fmD w.p w.lo w.hi, .str w.md.s]
def Way.ok (w : Way) : Prop := Fm w.p w.lo w.hi
abbrev Way.mo (w : Way) : Int := FF.mo w.p w.lo w.hi
abbrev Way.v (w : Way) (j : Int) : Int × Int := vR w.p w.lo j
def sp_is_way : Spec := fun ds h Q _ => ∃ w : Way, ds = [w.D] ∧ Q (.bl true) h
theorem b_is_way {Γ : Gam} : BodyOk Γ ir_is_way sp_is_way := by
  rintro ds h Q R ⟨⟨p, lo, hi, md⟩, rfl, q⟩
  refine ⟨rfl, ?_⟩
  show wpSs Γ ir_is_way.body [.val (.tup [fmD p lo hi, .str md.s])] h _
  simp only [ir_is_way, k_is_way_2, wpSs, wpS, wpE, wpEs, wpAnd, wpOr, wpI, wpF, wpT, wpH, Env.at, Env.put, Env.wipe, Env.nox, Slot.nox, wBin, binI, wCmp, cmpI, wBi, isTy, asL, asLT, bindT, bindTs, intsOf, boolsOf, ixL0, ixL1, ixL2, List.getElem?_cons_zero, List.getElem?_cons_succ, List.nil_append, List.cons_append, List.append_nil, if_true, ite_true]
  refine ⟨ok_int, ?_⟩
  rw [show D.eqb (.int (([fmD p lo hi, .str md.s] : List D).length : Int)) (.int 2) = true from rfl]
  show wpSs Γ k_is_way_1 [.val (.tup [fmD p lo hi, .str md.s])] h ⟨fun _ h => Q .non h, Q, fun _ _ => False, fun x _ h => R x h⟩
  simp only [k_is_way_1, wpSs, wpS, wpE, wpEs, wpAnd, wpOr, wpI, wpF, wpT, wpH, Env.at, Env.put, Env.wipe, Env.nox, Slot.nox, wBin, binI, wCmp, cmpI, wBi, isTy, asL, asLT, bindT, bindTs, intsOf, boolsOf, ixL0, ixL1, ixL2, List.getElem?_cons_zero, List.getElem?_cons_succ, List.nil_append, List.cons_append, List.append_nil, if_true, ite_true]
  refine ⟨⟨rfl, rfl⟩, ?_⟩
  have : ([.str [101, 118, 101, 110], .str [97, 119, 97, 121], .str [100, 111, 119, 110], .str [117, 112], .str [122, 101, 114, 111]] : List D).any (D.eqb (.str md.s)) = true := by cases md <;> rfl
  rw [this]
  exact q
def sp_check_ways : Spec := fun ds h Q _ => ∃ ws : List Way, ds = [.lst (ws.map Way.D)] ∧ 1 ≤ ws.length ∧ ws.length ≤ 3 ∧ Q .non h
theorem all_true {n : Nat} : (List.replicate n true).all id = true := List.all_eq_true.mpr fun x m => List.eq_of_mem_replicate m
theorem b_check_ways {Γ : Gam} (g68 : Γ.fn 68 = sp_is_way) : BodyOk Γ ir_check_ways sp_check_ways := by
  rintro ds h Q R ⟨ws, rfl, w1, w3, q⟩
  refine ⟨rfl, ?_⟩
  show wpSs Γ ir_check_ways.body [.val (.lst (ws.map Way.D)), .un] h _
  have ll : ((ws.map Way.D).length : Int) = ws.length := by rw [List.length_map]
  simp only [ir_check_ways, wpSs, wpS, wpE, wpEs, wpAnd, wpOr, wpI, wpF, wpT, wpH, Env.at, Env.put, Env.wipe, Env.nox, Slot.nox, wBin, binI, wCmp, cmpI, wBi, isTy, asL, asLT, bindT, bindTs, intsOf, boolsOf, ixL0, ixL1, ixL2, List.getElem?_cons_zero, List.getElem?_cons_succ, List.nil_append, List.cons_append, List.append_nil, if_true, ite_true, g68, ll]
  rw [decide_eq_true (show (1 : Int) ≤ ws.length by omega)]
  simp only [if_true, Bool.not_true, Bool.false_eq_true, if_false]
  rw [decide_eq_true (show (ws.length : Int) ≤ 3 by omega)]
  simp only [Bool.not_true, Bool.false_eq_true, if_false]
  refine loopC_map (acc := []) (g := fun _ => .bl true) (fun d hd K kk => ?_) (by rw [List.length_map]; show 0 + _ ≤ 16777216; omega) ?_
  · obtain ⟨w, _, rfl⟩ := List.mem_map.mp hd
    exact ⟨w, rfl, kk⟩
  · have e : [] ++ (ws.map Way.D).map (fun _ => D.bl true) = (List.replicate ws.length true).map .bl := by
      rw [List.nil_append, List.map_map, List.map_replicate]
      exact List.eq_replicate_iff.mpr ⟨List.length_map .., fun x hx => by obtain ⟨_, _, e⟩ := List.mem_map.mp hx; exact e.symm⟩
    rw [e, boolsOf_map]
    simp only [all_true, Bool.not_true, Bool.false_eq_true, if_false]
    exact q
/-- a number rounded by ways, one after the other; or the sign of what is too great -/
def RTo : List Way → Int × Int → Int × Int ⊕ Int → Prop
  | [], x, r => r = .inl x
  | w :: ws, x, r => ∃ j, RJ w.md w.p w.lo x.1 x.2 j ∧ (if (j.natAbs : Int) ≤ w.mo then RTo ws (w.v j) r else r = .inr (sg x.1))
theorem RTo.uniq : ∀ {ws : List Way} {x : Int × Int} {r r' : Int × Int ⊕ Int}, RTo ws x r → RTo ws x r' → r = r'
  | [], _, _, _, h, h' => h.trans h'.symm
  | w :: ws, x, r, r', ⟨j, a, b⟩, ⟨j', a', b'⟩ => by
    obtain rfl := a.uniq a'
    by_cases c : (j.natAbs : Int) ≤ w.mo
    · rw [if_pos c] at b b'
      exact RTo.uniq b b'
    · rw [if_neg c] at b b'
      rw [b, b']
/-- what is told, or raised -/
def resQ (r : Int × Int ⊕ Int) (Q : QE) (R : RE) (h : AH) : Prop := match r with
  | .inl y => Q (num y) h
  | .inr s => R ⟨4, .int s⟩ h
theorem RJ.ex {md : Md} {p lo n d : Int} (p2 : 2 ≤ p) (hd : 0 < d) : ∃ j, RJ md p lo n d j := by
  obtain ⟨e, u⟩ := UEx.ex (p := p) (lo := lo) (n := n) hd
  by_cases c : 0 ≤ n
  · exact ⟨_, (RJ.of_unit (md := md) p2 hd c u).1⟩
  · obtain ⟨k, rfl⟩ : ∃ k, n = -k := ⟨-n, by omega⟩
    have u' : UEx p lo k d e := by
      unfold UEx at u ⊢
      rw [Int.natAbs_neg] at u
      exact u
    exact ⟨_, (RJ.of_unit (md := md.ng) p2 hd (show 0 ≤ k by omega) u').1.neg⟩
theorem resQ.mono {r : Int × Int ⊕ Int} {Q Q' : QE} {R R' : RE} {h : AH} (k : ∀ d h, Q d h → Q' d h) (kr : ∀ x h, R x h → R' x h) : resQ r Q R h → resQ r Q' R' h := by
  cases r with
  | inl y => exact k _ _
  | inr s => exact kr _ _
def sp_rounded_through : Spec := fun ds h Q R => ∃ ws n d, ds = [.lst (ws.map Way.D), num (n, d)] ∧ (∀ w ∈ ws, w.ok) ∧ Nz n d ∧ ∀ r, RTo ws (n, d) r → resQ r Q R h
theorem b_rounded_through {Γ : Gam} (g71 : Γ.fn 71 = sp_rounded_once) : BodyOk Γ ir_rounded_through sp_rounded_through := by
  rintro ds h Q R ⟨ws, n, d, rfl, wo, z, q⟩
  refine ⟨rfl, ?_⟩
  show wpSs Γ ir_rounded_through.body [.val (.lst (ws.map Way.D)), .val (num (n, d)), .un, .un] h _
  simp only [ir_rounded_through, k_rounded_through_3, wpSs, wpS, wpE, wpEs, wpAnd, wpOr, wpI, wpF, wpT, wpH, Env.at, Env.put, Env.wipe, Env.nox, Slot.nox, wBin, binI, wCmp, cmpI, wBi, isTy, asL, asLT, bindT, bindTs, intsOf, boolsOf, ixL0, ixL1, ixL2, List.getElem?_cons_zero, List.getElem?_cons_succ, List.nil_append, List.cons_append, List.append_nil, if_true, ite_true]
  refine forL_ix (I := fun j σ h' => h' = h ∧ ∃ x s2 s3, σ = [.val (.lst (ws.map Way.D)), .val (num x), s2, s3] ∧ Nz x.1 x.2 ∧ ∀ r, RTo (ws.drop j) x r → RTo ws (n, d) r) (j := 0) _ (fun i e hd σ h' hI P' hn' _ hrt hR => ?_) ⟨rfl, (n, d), _, _, rfl, z, fun _ r => r⟩ ?_
  · obtain ⟨rfl, x, s2, s3, rfl, zx, k⟩ := hI
    rw [Nat.zero_add] at k hn'
    obtain ⟨w, hw, rfl⟩ : ∃ w, ws[i]? = some w ∧ w.D = e := by
      rw [List.getElem?_map] at hd
      cases q : ws[i]? with
      | none => rw [q] at hd; cases hd
      | some w =>
        rw [q] at hd
        cases hd
        exact ⟨w, rfl, rfl⟩
    obtain ⟨il, ei⟩ := List.getElem?_eq_some_iff.mp hw
    have dr : ws.drop i = w :: ws.drop (i + 1) := by rw [← ei]; exact List.drop_eq_getElem_cons il
    have f : Fm w.p w.lo w.hi := wo w (List.mem_of_getElem? hw)
    rw [dr] at k
    show wpSs Γ k_rounded_through_1 [.val (.lst (ws.map Way.D)), .val (num x), .val (fmD w.p w.lo w.hi), .val (.str w.md.s)] h' P'
    simp only [k_rounded_through_1, wpSs, wpS, wpE, wpEs, wpAnd, wpOr, wpI, wpF, wpT, wpH, Env.at, Env.put, Env.wipe, Env.nox, Slot.nox, wBin, binI, wCmp, cmpI, wBi, isTy, asL, asLT, bindT, bindTs, intsOf, boolsOf, ixL0, ixL1, ixL2, List.getElem?_cons_zero, List.getElem?_cons_succ, List.nil_append, List.cons_append, List.append_nil, if_true, ite_true, g71]
    refine ⟨w.p, w.lo, w.hi, w.md, x.1, x.2, rfl, f, zx, fun j r => ⟨fun c => ?_, fun c => ?_⟩⟩
    · exact hn' _ _ ⟨rfl, w.v j, _, _, rfl, vR_nz f (by omega) (by omega), fun r' hr' => k r' ⟨j, r, by rw [if_pos c]; exact hr'⟩⟩
    · have := q _ (k (.inr (sg x.1)) ⟨j, r, by rw [if_neg (show ¬ (j.natAbs : Int) ≤ w.mo by show ¬ (j.natAbs : Int) ≤ FF.mo w.p w.lo w.hi; omega)]⟩)
      rw [hR]
      exact this
  · rintro σ h' ⟨rfl, x, s2, s3, rfl, zx, k⟩
    simp only [k_rounded_through_2, wpSs, wpS, wpE, wpEs, wpAnd, wpOr, wpI, wpF, wpT, wpH, Env.at, Env.put, Env.wipe, Env.nox, Slot.nox, wBin, binI, wCmp, cmpI, wBi, isTy, asL, asLT, bindT, bindTs, intsOf, boolsOf, ixL0, ixL1, ixL2, List.getElem?_cons_zero, List.getElem?_cons_succ, List.nil_append, List.cons_append, List.append_nil, if_true, ite_true]
    refine q (.inl x) (k _ ?_)
    rw [List.length_map, Nat.zero_add, List.drop_length]
    rfl
def sp_rounded_by : Spec := fun ds h Q R => ∃ ws n d, ds = [.lst (ws.map Way.D), num (n, d)] ∧ 1 ≤ ws.length ∧ ws.length ≤ 3 ∧ (∀ w ∈ ws, w.ok) ∧ Red n d ∧ Nz n d ∧ ∀ r, RTo ws (n, d) r → resQ r Q R h
theorem b_rounded_by {Γ : Gam} (g53 : Γ.fn 53 = sp_check_number) (g72 : Γ.fn 72 = sp_check_ways) (g73 : Γ.fn 73 = sp_rounded_through) : BodyOk Γ ir_rounded_by sp_rounded_by := by
  rintro ds h Q R ⟨ws, n, d, rfl, w1, w3, wo, rd, z, q⟩
  refine ⟨rfl, ?_⟩
  show wpSs Γ ir_rounded_by.body [.val (.lst (ws.map Way.D)), .val (num (n, d))] h _
  simp only [ir_rounded_by, k_rounded_by_3, wpSs, wpS, wpE, wpEs, wpAnd, wpOr, wpI, wpF, wpT, wpH, Env.at, Env.put, Env.wipe, Env.nox, Slot.nox, wBin, binI, wCmp, cmpI, wBi, isTy, asL, asLT, bindT, bindTs, intsOf, boolsOf, ixL0, ixL1, ixL2, List.getElem?_cons_zero, List.getElem?_cons_succ, List.nil_append, List.cons_append, List.append_nil, if_true, ite_true, g72]
  refine ⟨ws, rfl, w1, w3, ?_⟩
  simp only [k_rounded_by_2, wpSs, wpS, wpE, wpEs, wpAnd, wpOr, wpI, wpF, wpT, wpH, Env.at, Env.put, Env.wipe, Env.nox, Slot.nox, wBin, binI, wCmp, cmpI, wBi, isTy, asL, asLT, bindT, bindTs, intsOf, boolsOf, ixL0, ixL1, ixL2, List.getElem?_cons_zero, List.getElem?_cons_succ, List.nil_append, List.cons_append, List.append_nil, if_true, ite_true, g53]
  refine ⟨_, n, d, rfl, rd, ?_⟩
  simp only [k_rounded_by_1, wpSs, wpS, wpE, wpEs, wpAnd, wpOr, wpI, wpF, wpT, wpH, Env.at, Env.put, Env.wipe, Env.nox, Slot.nox, wBin, binI, wCmp, cmpI, wBi, isTy, asL, asLT, bindT, bindTs, intsOf, boolsOf, ixL0, ixL1, ixL2, List.getElem?_cons_zero, List.getElem?_cons_succ, List.nil_append, List.cons_append, List.append_nil, if_true, ite_true, g73]
  exact ⟨ws, n, d, rfl, wo, z, q⟩
theorem m_rounded_through : MoS sp_rounded_through := fun ds h Q Q' R R' k kr => by repeat' first | exact id | exact resQ.mono k kr | exact k _ _ | exact kr _ _ | refine Exists.imp fun _ => ?_ | refine And.imp ?_ ?_ | refine forall_imp fun _ => ?_
theorem m_rounded_by : MoS sp_rounded_by := fun ds h Q Q' R R' k kr => by repeat' first | exact id | exact resQ.mono k kr | exact k _ _ | exact kr _ _ | refine Exists.imp fun _ => ?_ | refine And.imp ?_ ?_ | refine forall_imp fun _ => ?_
end FF

namespace FF
theorem fr_one {n : Int} : fr n 1 = (n, 1) := by
  have e : gg n 1 = 1 := by unfold gg; simp
  obtain ⟨m1, m2⟩ := fr_mul (n := n) (d := 1)
  rw [e, Int.one_mul] at m1 m2
  exact Prod.ext m1.symm m2.symm
theorem up_s {s : Nat} : up (s : Int) = 2 ^ s := by unfold up; rw [Int.toNat_natCast]
theorem dn_s {k : Int} (h : 0 ≤ k) : dn k = 1 := by
  unfold dn
  rw [show (-k).toNat = 0 by omega]
  rfl
/-- in units of 2 ** s -/
theorem near {md : Md} {p hi n d : Int} {s : Nat} (f : Fm p 0 hi) (hd : 0 < d) (hn : 0 ≤ n) (h1 : n < d * 2 ^ s * 2 ^ p.toNat) (h2 : s = 0 ∨ 2 * n ≥ d * 2 ^ s * 2 ^ p.toNat) :
    ∃ j, RJ md p 0 n d j ∧ 0 ≤ j ∧ VI p j = toI md n (d * 2 ^ s) * 2 ^ s := by
  have p2 := f.p2
  have hp := HH_pos (p := p)
  have u : UEx p 0 n d (s : Int) := by
    refine ⟨by omega, ?_, ?_⟩
    · rw [nab hn]
      unfold le2
      rw [dn_s (by omega), Int.mul_one]
      unfold up
      rw [show ((s : Int) + p).toNat = s + p.toNat by omega, Int.pow_add]
      have : 2 ^ s * 2 ^ p.toNat * d = d * 2 ^ s * 2 ^ p.toNat := by ac_rfl
      omega
    · rcases h2 with h2 | h2
      · exact .inl (by omega)
      · by_cases s0 : s = 0
        · exact .inl (by omega)
        · right
          obtain ⟨t, rfl⟩ : ∃ t, s = t + 1 := ⟨s - 1, by omega⟩
          rw [nab hn]
          unfold le2
          rw [dn_s (by omega), Int.mul_one]
          unfold up
          rw [show (((t + 1 : Nat) : Int) - 1 + p).toNat = t + p.toNat by omega, Int.pow_add]
          have : d * 2 ^ (t + 1) * 2 ^ p.toNat = 2 * (2 ^ t * 2 ^ p.toNat * d) := by rw [two_succ]; ac_rfl
          omega
  have r := Rd.of (md := md) f hd hn u
  obtain ⟨a, a0, a1, v⟩ := r
  rw [dn_s (by omega), up_s, Int.mul_one, Int.sub_zero] at *
  refine ⟨_, a, ?_, ?_⟩
  · have := Int.mul_nonneg (show (0 : Int) ≤ s by omega) (Int.le_of_lt hp)
    omega
  · rw [Int.mul_one, fr_one] at v
    unfold vR at v
    rw [show up 0 = 1 from rfl, show dn 0 = 1 from rfl, Int.mul_one, fr_one] at v
    exact (congrArg (fun z : Int × Int => z.1) v).symm
/-- how the law does it -/
def lawUp (md : Md) (pos neg : Bool) (m D : Int) : Bool :=
  if md = .even ∨ md = .away then (if 2 * (m - m / D * D) = D then (decide (md = .away) || decide (m / D % 2 = 1)) else decide (D < 2 * (m - m / D * D)))
  else (decide (md = .up) && pos) || (decide (md = .down) && neg)
theorem law_toI {md : Md} {m D : Int} {pos : Bool} (hD : 0 < D) (hm : 0 ≤ m) (neg : Bool) (hn : 0 < m → neg = !pos) :
    m / D * D + D * (if (lawUp md pos neg m D && decide (m / D * D < m)) = true then 1 else 0) = toI (if pos then md else md.ng) m D * D := by
  have e := Int.ediv_mul_add_emod m D
  have r0 := Int.emod_nonneg m (show D ≠ 0 by omega)
  have r1 := Int.emod_lt_of_pos m hD
  unfold toI lawUp
  rw [show m - m / D * D = m % D by omega]
  generalize hq : m / D = q at *
  generalize hr : m % D = r at *
  have lt : decide (q * D < m) = decide (0 < r) := decide_eq_decide.mpr (by omega)
  rw [lt]
  by_cases z : r = 0
  · rw [show (decide (0 < r)) = false from decide_eq_false (by omega), Bool.and_false, if_neg (by simp), Int.mul_zero, Int.add_zero, if_pos (Or.inl z)]
  · have rp : 0 < r := by omega
    have mp : 0 < m := by
      rcases Int.lt_or_eq_of_le hm with h | h
      · exact h
      · exfalso
        apply z
        rw [← hr, ← h, Int.zero_emod]
    have ng := hn mp
    subst ng
    rw [decide_eq_true rp, Bool.and_true]
    have n0 : ¬ m < 0 := by omega
    have q2 : q % 2 = 0 ∨ q % 2 = 1 := by omega
    have dd : (q + 1) * D = q * D + D := by rw [Int.add_mul, Int.one_mul]
    by_cases c1 : 2 * r = D
    · rcases q2 with c2 | c2 <;> cases md <;> cases pos <;> simp [Md.ng, z, n0, mp, c1, c2, dd]
    · by_cases c3 : D < 2 * r
      · cases md <;> cases pos <;> simp [Md.ng, z, n0, mp, c1, c3, dd]
      · cases md <;> cases pos <;> simp [Md.ng, z, n0, mp, c1, c3, dd]
end FF

namespace FF
def ir_l_source_of : Fd := ⟨1, 1, (.cons (.set 0 (.ite (.cmp .ge (.var 0) (.int 0)) (.var 0) (.bin .sub (.bin .sub (.int 0) (.bin .mul (.int 3) (.var 0))) (.int 1)))) (.cons (.ret (.refl (.cons (.bin .mul (.var 0) (.bi .int (.cons (.cmp .ge (.var 0) (.bin .pow (.int 10) (.int 18))) .nil))) (.cons (.bin .mod (.bi .int (.cons (.var 0) .nil)) (.int 2147483647)) (.cons (.int 0) .nil))))) .nil))⟩
def k_l_next_1 : Ss := .cons (.ret (.var 2)) .nil
def k_l_next_2 : Ss := .cons (.setIdx (.var 0) (.int 0) (.bin .fdiv (.idx (.var 0) (.int 0)) (.var 1))) k_l_next_1
def k_l_next_3 : Ss := .cons (.set 2 (.bin .mod (.bi .int (.cons (.idx (.var 0) (.int 0)) .nil)) (.var 1))) k_l_next_2
def k_l_next_4 : Ss := .cons (.ret (.bin .mod (.bi .int (.cons (.bin .fdiv (.var 4) (.int 7)) .nil)) (.var 1))) .nil
def k_l_next_5 : Ss := .cons (.set 4 (.bin .mod (.bi .int (.cons (.bin .mul (.var 4) (.bin .add (.bin .fdiv (.var 4) (.int 2003)) (.int 40692))) .nil)) (.int 2147483399))) k_l_next_4
def k_l_next_6 : Ss := .cons (.set 4 (.bin .mod (.bi .int (.cons (.bin .mul (.var 4) (.bin .add (.bin .fdiv (.var 4) (.int 1009)) (.int 69621))) .nil)) (.var 3))) k_l_next_5
def k_l_next_7 : Ss := .cons (.set 4 (.bin .mod (.bi .int (.cons (.bin .mul (.var 4) (.int 48271)) .nil)) (.var 3))) k_l_next_6
def k_l_next_8 : Ss := .cons (.set 4 (.bin .mod (.bi .int (.cons (.bin .add (.bin .add (.idx (.var 0) (.int 1)) (.bin .mul (.int 104729) (.idx (.var 0) (.int 2)))) (.int 7919)) .nil)) (.var 3))) k_l_next_7
def k_l_next_9 : Ss := .cons (.set 3 (.int 2147483647)) k_l_next_8
def k_l_next_10 : Ss := .cons (.setIdx (.var 0) (.int 2) (.bin .add (.idx (.var 0) (.int 2)) (.int 1))) k_l_next_9
def k_l_next_11 : Ss := .cons (.ite (.cmp .gt (.idx (.var 0) (.int 0)) (.int 0)) k_l_next_3 .nil) k_l_next_10
def ir_l_next : Fd := ⟨2, 5, k_l_next_11⟩
def ir_l_one : Fd := ⟨2, 2, (.cons (.ret (.idx (.var 1) (.call 1900 (.cons (.var 0) (.cons (.bi .len (.cons (.var 1) .nil)) .nil)) []))) .nil)⟩
def ir_l_cell_at : Fd := ⟨2, 2, (.cons (.ret (.idx (.bin .add (.slOf (.var 0) (.var 1) (.bin .add (.var 1) (.int 1))) (.lst (.cons (.int 0) .nil))) (.int 0))) .nil)⟩
def k_l_common_1 : Ss := .cons (.setP 0 1 (.var 1) (.bin .mod (.bi .int (.cons (.var 0) .nil)) (.var 1))) .nil
def k_l_common_2 : Ss := .cons (.ret (.bi .abs (.cons (.var 0) .nil))) .nil
def k_l_common_3 : Ss := .cons (.whl (.cmp .ne (.var 1) (.int 0)) k_l_common_1) k_l_common_2
def ir_l_common : Fd := ⟨2, 2, k_l_common_3⟩
def ir_l_number : Fd := ⟨2, 3, (.cons (.set 2 (.call 1904 (.cons (.var 0) (.cons (.var 1) .nil)) [])) (.cons (.ret (.tup (.cons (.bin .fdiv (.var 0) (.var 2)) (.cons (.bin .fdiv (.var 1) (.var 2)) .nil)))) .nil))⟩
def k_l_power_1 : Ss := .cons (.set 1 (.bin .mul (.int 2) (.var 1))) .nil
def k_l_power_2 : Ss := .cons (.ret (.var 1)) .nil
def k_l_power_3 : Ss := .cons (.for_ (.name 2) (.rng1 (.var 0)) k_l_power_1) k_l_power_2
def k_l_power_4 : Ss := .cons (.set 1 (.int 1)) k_l_power_3
def ir_l_power : Fd := ⟨1, 3, k_l_power_4⟩
def k_l_wide_1 : Ss := .cons (.set 2 (.bin .add (.bin .mul (.var 2) (.int 2147483648)) (.call 1900 (.cons (.var 0) (.cons (.int 2147483648) .nil)) []))) .nil
def k_l_wide_2 : Ss := .cons (.ret (.bin .mod (.bi .int (.cons (.var 2) .nil)) (.var 1))) .nil
def k_l_wide_3 : Ss := .cons (.for_ (.name 3) (.rng1 (.bin .fdiv (.bits (.var 1)) (.int 30))) k_l_wide_1) k_l_wide_2
def k_l_wide_4 : Ss := .cons (.set 2 (.call 1900 (.cons (.var 0) (.cons (.var 1) .nil)) [])) k_l_wide_3
def ir_l_wide : Fd := ⟨2, 4, k_l_wide_4⟩
def ir_l_two : Fd := ⟨1, 1, (.cons (.ret (.ite (.cmp .ge (.var 0) (.int 0)) (.tup (.cons (.call 1906 (.cons (.var 0) .nil) []) (.cons (.int 1) .nil))) (.tup (.cons (.int 1) (.cons (.call 1906 (.cons (.bin .sub (.int 0) (.var 0)) .nil) []) .nil))))) .nil)⟩
end FF

namespace FF
/-! ### the laws' helpers -/
theorem b_next {Γ : Gam} : BodyOk Γ ir_l_next sp_draw := by
  rintro ds h Q R ⟨a, many, k, rfl, hm, bm, ⟨w0, w1, w2, e, h1, h2', h3, h4⟩, hk, q⟩
  refine ⟨rfl, ?_⟩
  show wpSs Γ ir_l_next.body [.val (.ref a), .val (.int many), .un, .un, .un] h _
  have m0 : many ≠ 0 := by omega
  simp only [ir_l_next, k_l_next_11, e, wpSs, wpS, wpE, wpEs, wpAnd, wpOr, wpI, wpF, wpT, wpH, Env.at, Env.put, Env.wipe, Env.nox, Slot.nox, wBin, binI, wCmp, cmpI, wBi, isTy, asL, asLT, bindT, bindTs, intsOf, boolsOf, ixL0, ixL1, ixL2, List.getElem?_cons_zero, List.getElem?_cons_succ, List.nil_append, List.cons_append, List.append_nil, if_true, ite_true]
  by_cases c : 0 < w0
  · rw [if_pos (decide_eq_true c)]
    simp only [k_l_next_3, k_l_next_2, k_l_next_1, e, wpSs, wpS, wpE, wpEs, wpAnd, wpOr, wpI, wpF, wpT, wpH, Env.at, Env.put, Env.wipe, Env.nox, Slot.nox, wBin, binI, wCmp, cmpI, wBi, isTy, asL, asLT, bindT, bindTs, intsOf, boolsOf, ixL0, ixL1, ixL2, List.getElem?_cons_zero, List.getElem?_cons_succ, List.nil_append, List.cons_append, List.append_nil, if_true, ite_true, AH.put_same, List.set_cons_zero, List.set_cons_succ]
    rw [fmod_pos hm, fdiv_pos hm]
    exact ⟨m0, ⟨m0, bm⟩, q _ _ (Int.emod_nonneg _ m0) (Int.emod_lt_of_pos _ hm) ⟨_, _, _, AH.put_same, h1, h2', h3, by omega⟩ fun b n => AH.put_ne n⟩
  · rw [if_neg (by simpa using c)]
    have p1 : (0 : Int) < 2147483647 := by decide
    have p2 : (0 : Int) < 2147483399 := by decide
    simp only [k_l_next_10, e, wpSs, wpS, wpE, wpEs, wpAnd, wpOr, wpI, wpF, wpT, wpH, Env.at, Env.put, Env.wipe, Env.nox, Slot.nox, wBin, binI, wCmp, cmpI, wBi, isTy, asL, asLT, bindT, bindTs, intsOf, boolsOf, ixL0, ixL1, ixL2, List.getElem?_cons_zero, List.getElem?_cons_succ, List.nil_append, List.cons_append, List.append_nil, if_true, ite_true, AH.put_same, List.set_cons_zero, List.set_cons_succ]
    have hh : (h.put a (Cell.lst [D.int w0, D.int w1, D.int (w2 + 1)])) a = some (Cell.lst [D.int w0, D.int w1, D.int (w2 + 1)]) := AH.put_same
    have hf : ∀ b, b ≠ a → (h.put a (Cell.lst [D.int w0, D.int w1, D.int (w2 + 1)])) b = h b := fun b n => AH.put_ne n
    generalize h.put a (Cell.lst [D.int w0, D.int w1, D.int (w2 + 1)]) = h2 at *
    unfold k_l_next_9
    rw [set_int]
    simp only [k_l_next_8, wpSs, wpS, wpE, wpEs, wpAnd, wpOr, wpI, wpF, wpT, wpH, Env.at, Env.put, Env.wipe, Env.nox, Slot.nox, wBin, binI, wCmp, cmpI, wBi, isTy, asL, asLT, bindT, bindTs, intsOf, boolsOf, ixL0, ixL1, ixL2, List.getElem?_cons_zero, List.getElem?_cons_succ, List.nil_append, List.cons_append, List.append_nil, if_true, ite_true, hh]
    refine ⟨mul_small (by unfold Sz; decide), by decide, ?_⟩
    rw [fmod_pos p1]
    have t1 := Int.emod_nonneg (w1 + 104729 * (w2 + 1) + 7919) (show (2147483647 : Int) ≠ 0 by decide)
    have t2 := Int.emod_lt_of_pos (w1 + 104729 * (w2 + 1) + 7919) p1
    generalize (w1 + 104729 * (w2 + 1) + 7919) % 2147483647 = x at *
    simp only [k_l_next_7, wpSs, wpS, wpE, wpEs, wpAnd, wpOr, wpI, wpF, wpT, wpH, Env.at, Env.put, Env.wipe, Env.nox, Slot.nox, wBin, binI, wCmp, cmpI, wBi, isTy, asL, asLT, bindT, bindTs, intsOf, boolsOf, ixL0, ixL1, ixL2, List.getElem?_cons_zero, List.getElem?_cons_succ, List.nil_append, List.cons_append, List.append_nil, if_true, ite_true]
    refine ⟨mul_small (by unfold Sz; omega), by decide, ?_⟩
    rw [fmod_pos p1]
    have t3 := Int.emod_nonneg (x * 48271) (show (2147483647 : Int) ≠ 0 by decide)
    have t4 := Int.emod_lt_of_pos (x * 48271) p1
    generalize x * 48271 % 2147483647 = y at *
    simp only [k_l_next_6, wpSs, wpS, wpE, wpEs, wpAnd, wpOr, wpI, wpF, wpT, wpH, Env.at, Env.put, Env.wipe, Env.nox, Slot.nox, wBin, binI, wCmp, cmpI, wBi, isTy, asL, asLT, bindT, bindTs, intsOf, boolsOf, ixL0, ixL1, ixL2, List.getElem?_cons_zero, List.getElem?_cons_succ, List.nil_append, List.cons_append, List.append_nil, if_true, ite_true]
    refine ⟨⟨by decide, by decide⟩, mul_small (by unfold Sz; omega), by decide, ?_⟩
    rw [fmod_pos p1, fdiv_pos (show (0 : Int) < 1009 by decide)]
    have t5 := Int.emod_nonneg (y * (y / 1009 + 69621)) (show (2147483647 : Int) ≠ 0 by decide)
    have t6 := Int.emod_lt_of_pos (y * (y / 1009 + 69621)) p1
    generalize y * (y / 1009 + 69621) % 2147483647 = z at *
    simp only [k_l_next_5, wpSs, wpS, wpE, wpEs, wpAnd, wpOr, wpI, wpF, wpT, wpH, Env.at, Env.put, Env.wipe, Env.nox, Slot.nox, wBin, binI, wCmp, cmpI, wBi, isTy, asL, asLT, bindT, bindTs, intsOf, boolsOf, ixL0, ixL1, ixL2, List.getElem?_cons_zero, List.getElem?_cons_succ, List.nil_append, List.cons_append, List.append_nil, if_true, ite_true]
    refine ⟨⟨by decide, by decide⟩, mul_small (by unfold Sz; omega), by decide, ?_⟩
    rw [fmod_pos p2]
    generalize z * (z.fdiv 2003 + 40692) % 2147483399 = u at *
    simp only [k_l_next_4, wpSs, wpS, wpE, wpEs, wpAnd, wpOr, wpI, wpF, wpT, wpH, Env.at, Env.put, Env.wipe, Env.nox, Slot.nox, wBin, binI, wCmp, cmpI, wBi, isTy, asL, asLT, bindT, bindTs, intsOf, boolsOf, ixL0, ixL1, ixL2, List.getElem?_cons_zero, List.getElem?_cons_succ, List.nil_append, List.cons_append, List.append_nil, if_true, ite_true]
    refine ⟨⟨by decide, by decide⟩, m0, ?_⟩
    rw [fmod_pos hm]
    exact q _ _ (Int.emod_nonneg _ m0) (Int.emod_lt_of_pos _ hm) ⟨_, _, _, hh, h1, h2', by omega, by omega⟩ hf
/-- some: any things -/
def sp_one : Spec := fun ds h Q _ => ∃ (a : Nat) (l : List D) (k : Nat), ds = [.ref a, .lst l] ∧ 0 < l.length ∧ l.length < 100000 ∧ Wel k h a ∧ k < 1073741824 ∧ ∀ d h', d ∈ l → Wel (k + 1) h' a → Fr a h h' → Q d h'
theorem b_one {Γ : Gam} (hd : Γ.fn 1900 = sp_draw) : BodyOk Γ ir_l_one sp_one := by
  rintro ds h Q R ⟨a, l, k, rfl, hl, hl2, hw, hk, q⟩
  refine ⟨rfl, ?_⟩
  show wpSs Γ ir_l_one.body [.val (.ref a), .val (.lst l)] h _
  simp only [ir_l_one, wpSs, wpS, wpE, wpEs, wpAnd, wpOr, wpI, wpF, wpT, wpH, Env.at, Env.put, Env.wipe, Env.nox, Slot.nox, wBin, binI, wCmp, cmpI, wBi, isTy, asL, asLT, bindT, bindTs, intsOf, boolsOf, ixL0, ixL1, ixL2, List.getElem?_cons_zero, List.getElem?_cons_succ, List.nil_append, List.cons_append, List.append_nil, if_true, ite_true, hd]
  refine ⟨a, _, k, rfl, by omega, Nat.le_trans (bitsI_le (show Sz 20 (l.length : Int) by unfold Sz; omega)) (by decide), hw, hk, fun d h' d0 d1 w' fr => ?_⟩
  simp only [wpSs, wpS, wpE, wpEs, wpAnd, wpOr, wpI, wpF, wpT, wpH, Env.at, Env.put, Env.wipe, Env.nox, Slot.nox, wBin, binI, wCmp, cmpI, wBi, isTy, asL, asLT, bindT, bindTs, intsOf, boolsOf, ixL0, ixL1, ixL2, List.getElem?_cons_zero, List.getElem?_cons_succ, List.nil_append, List.cons_append, List.append_nil, if_true, ite_true, asLT, ixP_ok d0 d1]
  have hi : d.toNat < l.length := by omega
  rw [List.getElem?_eq_getElem hi]
  exact q _ h' (List.getElem_mem hi) w' fr
def sp_cell_at : Spec := fun ds h Q _ => ∃ (l : List Int) (i : Int), ds = [.lst (l.map .int), .int i] ∧ l.length < 100000 ∧ 0 ≤ i ∧ ∀ c, Q (.int c) h
theorem b_cell_at {Γ : Gam} : BodyOk Γ ir_l_cell_at sp_cell_at := by
  rintro ds h Q R ⟨l, i, rfl, hl, i0, q⟩
  refine ⟨rfl, ?_⟩
  show wpSs Γ ir_l_cell_at.body [.val (.lst (l.map .int)), .val (.int i)] h _
  simp only [ir_l_cell_at, wpSs, wpS, wpE, wpEs, wpAnd, wpOr, wpI, wpF, wpT, wpH, Env.at, Env.put, Env.wipe, Env.nox, Slot.nox, wBin, binI, wCmp, cmpI, wBi, isTy, asL, asLT, bindT, bindTs, intsOf, boolsOf, ixL0, ixL1, ixL2, List.getElem?_cons_zero, List.getElem?_cons_succ, List.nil_append, List.cons_append, List.append_nil, if_true, ite_true]
  refine ⟨(show 1 ≤ SL by decide), ?_, ?_⟩
  · rw [List.length_drop, List.length_take, List.length_map]
    show _ + 1 ≤ 16777216
    omega
  · rw [← List.map_take, ← List.map_drop]
    generalize (l.take (slP (l.map D.int).length (i + 1))).drop (slP (l.map D.int).length i) = m
    have i0 : ixP (m.map D.int ++ [D.int 0]).length 0 = some 0 := by
      rw [List.length_append, List.length_singleton]
      exact ixP_ok (by decide) (by omega)
    rw [i0]
    cases m with
    | nil => exact q 0
    | cons c r => exact q c
theorem b_l_common {Γ : Gam} : BodyOk Γ ir_l_common sp_divisor := by
  rintro ds h Q R ⟨a, b, rfl, q⟩
  refine ⟨rfl, ?_⟩
  show wpSs Γ ir_l_common.body [.val (.int a), .val (.int b)] h _
  simp only [ir_l_common, k_l_common_3, wpSs, wpS, wpE, wpEs, wpAnd, wpOr, wpI, wpF, wpT, wpH, Env.at, Env.put, Env.wipe, Env.nox, Slot.nox, wBin, binI, wCmp, cmpI, wBi, isTy, asL, asLT, bindT, bindTs, intsOf, boolsOf, ixL0, ixL1, ixL2, List.getElem?_cons_zero, List.getElem?_cons_succ, List.nil_append, List.cons_append, List.append_nil, if_true, ite_true]
  refine ⟨fun k σ h' => ∃ x y, σ = [.val (.int x), .val (.int y)] ∧ h' = h ∧ k = y.natAbs ∧ Int.gcd x y = Int.gcd a b, ⟨_, a, b, rfl, rfl, rfl, rfl⟩, ?_⟩
  rintro k σ h' ⟨x, y, rfl, rfl, rfl, g⟩
  simp only [wpSs, wpS, wpE, wpEs, wpAnd, wpOr, wpI, wpF, wpT, wpH, Env.at, Env.put, Env.wipe, Env.nox, Slot.nox, wBin, binI, wCmp, cmpI, wBi, isTy, asL, asLT, bindT, bindTs, intsOf, boolsOf, ixL0, ixL1, ixL2, List.getElem?_cons_zero, List.getElem?_cons_succ, List.nil_append, List.cons_append, List.append_nil, if_true, ite_true, k_l_common_1]
  refine ⟨ok_int, ?_⟩
  rw [eqb_ints]
  by_cases c : y = 0
  · subst c
    rw [if_neg (by decide)]
    simp only [k_l_common_2, wpSs, wpS, wpE, wpEs, wpAnd, wpOr, wpI, wpF, wpT, wpH, Env.at, Env.put, Env.wipe, Env.nox, Slot.nox, wBin, binI, wCmp, cmpI, wBi, isTy, asL, asLT, bindT, bindTs, intsOf, boolsOf, ixL0, ixL1, ixL2, List.getElem?_cons_zero, List.getElem?_cons_succ, List.nil_append, List.cons_append, List.append_nil, if_true, ite_true]
    rw [Int.gcd_zero_right] at g
    rw [g]
    exact q
  · rw [if_pos (by simp [c])]
    refine ⟨c, _, fmod_lt c, y, x.fmod y, rfl, trivial, rfl, ?_⟩
    rw [gcd_fmod, g]
theorem b_l_number {Γ : Gam} (g : Γ.fn 1904 = sp_divisor) : BodyOk Γ ir_l_number sp_fraction := by
  rintro ds h Q R ⟨n, d, rfl, d0, sd, q⟩
  refine ⟨rfl, ?_⟩
  show wpSs Γ ir_l_number.body [.val (.int n), .val (.int d), .un] h _
  have gp := gg_pos (n := n) d0
  simp only [ir_l_number, wpSs, wpS, wpE, wpEs, wpAnd, wpOr, wpI, wpF, wpT, wpH, Env.at, Env.put, Env.wipe, Env.nox, Slot.nox, wBin, binI, wCmp, cmpI, wBi, isTy, asL, asLT, bindT, bindTs, intsOf, boolsOf, ixL0, ixL1, ixL2, List.getElem?_cons_zero, List.getElem?_cons_succ, List.nil_append, List.cons_append, List.append_nil, if_true, ite_true, g]
  refine ⟨n, d, rfl, ?_⟩
  have gs : Sz 9000 (gg n d) := by
    have : (gg n d).natAbs ≤ d.natAbs := by
      show (Int.gcd n d) ≤ d.natAbs
      exact Nat.le_of_dvd (by omega) (Int.gcd_dvd_natAbs_right n d)
    unfold Sz at *
    omega
  have bg := bitsI_le gs
  simp only [wpSs, wpS, wpE, wpEs, wpAnd, wpOr, wpI, wpF, wpT, wpH, Env.at, Env.put, Env.wipe, Env.nox, Slot.nox, wBin, binI, wCmp, cmpI, wBi, isTy, asL, asLT, bindT, bindTs, intsOf, boolsOf, ixL0, ixL1, ixL2, List.getElem?_cons_zero, List.getElem?_cons_succ, List.nil_append, List.cons_append, List.append_nil, if_true, ite_true, fdiv_pos gp]
  exact ⟨⟨by omega, bg⟩, ⟨by omega, bg⟩, (show 2 ≤ SL by decide), q⟩
def sp_l_power : Spec := fun ds h Q _ => ∃ n, ds = [.int n] ∧ -9000 ≤ n ∧ n ≤ 9000 ∧ Q (.int (2 ^ n.toNat)) h
theorem b_l_power {Γ : Gam} : BodyOk Γ ir_l_power sp_l_power := by
  rintro ds h Q R ⟨n, rfl, n0, n1, q⟩
  refine ⟨rfl, ?_⟩
  show wpSs Γ ir_l_power.body [.val (.int n), .un, .un] h _
  simp only [ir_l_power, k_l_power_4, k_l_power_3, wpSs, wpS, wpE, wpEs, wpAnd, wpOr, wpI, wpF, wpT, wpH, Env.at, Env.put, Env.wipe, Env.nox, Slot.nox, wBin, binI, wCmp, cmpI, wBi, isTy, asL, asLT, bindT, bindTs, intsOf, boolsOf, ixL0, ixL1, ixL2, List.getElem?_cons_zero, List.getElem?_cons_succ, List.nil_append, List.cons_append, List.append_nil, if_true, ite_true]
  refine ⟨⟨by omega, by omega⟩, ?_⟩
  refine forL_inv _ (I := fun j σ h' => ∃ s2, σ = [.val (.int n), .val (.int (2 ^ j)), s2] ∧ h' = h) (j := 0) (fun d hd j σ h' hI P' hn' _ hrt hR => ?_) ⟨_, rfl, rfl⟩ ?_
  · obtain ⟨s2, rfl, rfl⟩ := hI
    simp only [k_l_power_1, wpSs, wpS, wpE, wpEs, wpAnd, wpOr, wpI, wpF, wpT, wpH, Env.at, Env.put, Env.wipe, Env.nox, Slot.nox, wBin, binI, wCmp, cmpI, wBi, isTy, asL, asLT, bindT, bindTs, intsOf, boolsOf, ixL0, ixL1, ixL2, List.getElem?_cons_zero, List.getElem?_cons_succ, List.nil_append, List.cons_append, List.append_nil, if_true, ite_true]
    refine ⟨mul_small (by unfold Sz; decide), ?_⟩
    refine hn' _ _ ⟨.val d, ?_, rfl⟩
    rw [two_succ]
  rintro σ h' ⟨s2, rfl, rfl⟩
  simp only [k_l_power_2, wpSs, wpS, wpE, wpEs, wpAnd, wpOr, wpI, wpF, wpT, wpH, Env.at, Env.put, Env.wipe, Env.nox, Slot.nox, wBin, binI, wCmp, cmpI, wBi, isTy, asL, asLT, bindT, bindTs, intsOf, boolsOf, ixL0, ixL1, ixL2, List.getElem?_cons_zero, List.getElem?_cons_succ, List.nil_append, List.cons_append, List.append_nil, if_true, ite_true]
  have : 0 + (rangeL 0 n.toNat).length = n.toNat := by unfold rangeL; rw [List.length_map, List.length_range]; omega
  rw [this]
  exact q
theorem b_l_two {Γ : Gam} (g : Γ.fn 1906 = sp_l_power) : BodyOk Γ ir_l_two sp_power := by
  rintro ds h Q R ⟨e, rfl, e0, e1, q⟩
  refine ⟨rfl, ?_⟩
  show wpSs Γ ir_l_two.body [.val (.int e)] h _
  simp only [ir_l_two, wpSs, wpS, wpE, wpEs, wpAnd, wpOr, wpI, wpF, wpT, wpH, Env.at, Env.put, Env.wipe, Env.nox, Slot.nox, wBin, binI, wCmp, cmpI, wBi, isTy, asL, asLT, bindT, bindTs, intsOf, boolsOf, ixL0, ixL1, ixL2, List.getElem?_cons_zero, List.getElem?_cons_succ, List.nil_append, List.cons_append, List.append_nil, if_true, ite_true, g]
  by_cases c : 0 ≤ e
  · rw [if_pos (decide_eq_true c)]
    refine ⟨e, rfl, by omega, by omega, (show 2 ≤ SL by decide), ?_⟩
    unfold up dn at q
    rw [show (-e).toNat = 0 by omega] at q
    exact q
  · rw [if_neg (by simpa using c)]
    refine ⟨0 - e, rfl, by omega, by omega, (show 2 ≤ SL by decide), ?_⟩
    unfold up dn at q
    rw [show e.toNat = 0 by omega, show -e = 0 - e by omega] at q
    exact q
/-- a drawn number, as wide as needed -/
def sp_wide : Spec := fun ds h Q _ => ∃ (a : Nat) (m : Int) (k : Nat), ds = [.ref a, .int m] ∧ 0 < m ∧ bitsI m ≤ 9000 ∧ Wel k h a ∧ k < 1000000000 ∧ ∀ d h', 0 ≤ d → d < m → Wel (k + 301) h' a → Fr a h h' → Q (.int d) h'
theorem b_wide {Γ : Gam} (hd : Γ.fn 1900 = sp_draw) : BodyOk Γ ir_l_wide sp_wide := by
  rintro ds h Q R ⟨a, m, k, rfl, hm, bm, hw, hk, q⟩
  refine ⟨rfl, ?_⟩
  show wpSs Γ ir_l_wide.body [.val (.ref a), .val (.int m), .un, .un] h _
  simp only [ir_l_wide, k_l_wide_4, wpSs, wpS, wpE, wpEs, wpAnd, wpOr, wpI, wpF, wpT, wpH, Env.at, Env.put, Env.wipe, Env.nox, Slot.nox, wBin, binI, wCmp, cmpI, wBi, isTy, asL, asLT, bindT, bindTs, intsOf, boolsOf, ixL0, ixL1, ixL2, List.getElem?_cons_zero, List.getElem?_cons_succ, List.nil_append, List.cons_append, List.append_nil, if_true, ite_true, hd]
  refine ⟨a, m, k, rfl, hm, bm, hw, by omega, fun x h1 x0 x1 w1 f1 => ?_⟩
  have hb : ((bitsI m : Nat) : Int).fdiv 30 = ((bitsI m / 30 : Nat) : Int) := by
    rw [fdiv_pos (show (0 : Int) < 30 by decide)]; rfl
  simp only [k_l_wide_3, wpSs, wpS, wpE, wpEs, wpAnd, wpOr, wpI, wpF, wpT, wpH, Env.at, Env.put, Env.wipe, Env.nox, Slot.nox, wBin, binI, wCmp, cmpI, wBi, isTy, asL, asLT, bindT, bindTs, intsOf, boolsOf, ixL0, ixL1, ixL2, List.getElem?_cons_zero, List.getElem?_cons_succ, List.nil_append, List.cons_append, List.append_nil, if_true, ite_true, hb]
  have hl : bitsI m / 30 ≤ 300 := by omega
  refine ⟨⟨by decide, by decide⟩, ⟨by omega, by omega⟩, ?_⟩
  have ln : (rangeL 0 ((bitsI m / 30 : Nat) : Int).toNat).length = bitsI m / 30 := by unfold rangeL; rw [List.length_map, List.length_range]; omega
  generalize bitsI m / 30 = N at *
  refine forL_ix (I := fun j σ h' => ∃ s2 s3, σ = [.val (.ref a), .val (.int m), .val (.int s2), s3] ∧ Wel (k + 1 + j) h' a ∧ Fr a h h') (j := 0) _ (fun i d hd' σ h' hI P' hn' _ hrt hR => ?_) ⟨x, _, rfl, w1.mono (by omega), f1⟩ ?_
  · obtain ⟨s2, s3, rfl, w, f⟩ := hI
    have il := (rangeL_get hd').2
    simp only [k_l_wide_1, wpSs, wpS, wpE, wpEs, wpAnd, wpOr, wpI, wpF, wpT, wpH, Env.at, Env.put, Env.wipe, Env.nox, Slot.nox, wBin, binI, wCmp, cmpI, wBi, isTy, asL, asLT, bindT, bindTs, intsOf, boolsOf, ixL0, ixL1, ixL2, List.getElem?_cons_zero, List.getElem?_cons_succ, List.nil_append, List.cons_append, List.append_nil, if_true, ite_true, hd]
    refine ⟨mul_small2 (by unfold Sz; decide), a, _, _, rfl, by decide, by decide, w, by omega, fun y h2 y0 y1 w2 f2 => ?_⟩
    exact hn' _ _ ⟨_, .val d, rfl, w2.mono (by omega), f.trans f2⟩
  rintro σ h' ⟨s2, s3, rfl, w, f⟩
  rw [ln] at w
  simp only [k_l_wide_2, wpSs, wpS, wpE, wpEs, wpAnd, wpOr, wpI, wpF, wpT, wpH, Env.at, Env.put, Env.wipe, Env.nox, Slot.nox, wBin, binI, wCmp, cmpI, wBi, isTy, asL, asLT, bindT, bindTs, intsOf, boolsOf, ixL0, ixL1, ixL2, List.getElem?_cons_zero, List.getElem?_cons_succ, List.nil_append, List.cons_append, List.append_nil, if_true, ite_true]
  rw [fmod_pos hm]
  exact ⟨by omega, q _ _ (Int.emod_nonneg _ (by omega)) (Int.emod_lt_of_pos _ hm) (w.mono (by omega)) f⟩
theorem b_source_of {Γ : Gam} : BodyOk Γ ir_l_source_of sp_well := by
  rintro ds h Q R ⟨c, rfl, q⟩
  refine ⟨rfl, ?_⟩
  show wpSs Γ ir_l_source_of.body [.val (.int c)] h _
  have p1 : (0 : Int) < 2147483647 := by decide
  have fin : ∀ c : Int, wpSs Γ (.cons (.ret (.refl (.cons (.bin .mul (.var 0) (.bi .int (.cons (.cmp .ge (.var 0) (.bin .pow (.int 10) (.int 18))) .nil))) (.cons (.bin .mod (.bi .int (.cons (.var 0) .nil)) (.int 2147483647)) (.cons (.int 0) .nil))))) .nil) [.val (.int c)] h ⟨fun _ h => Q .non h, Q, fun _ _ => False, fun x _ h => R x h⟩ := by
    intro c
    simp only [wpSs, wpS, wpE, wpEs, wpAnd, wpOr, wpI, wpF, wpT, wpH, Env.at, Env.put, Env.wipe, Env.nox, Slot.nox, wBin, binI, wCmp, cmpI, wBi, isTy, asL, asLT, bindT, bindTs, intsOf, boolsOf, ixL0, ixL1, ixL2, List.getElem?_cons_zero, List.getElem?_cons_succ, List.nil_append, List.cons_append, List.append_nil, if_true, ite_true]
    refine ⟨⟨by decide, by decide, by decide⟩, mul_small2 ?_, by decide, (show 3 ≤ SL by decide), fun a ha => q a _ ha ⟨_, _, _, AH.put_same, ?_, ?_, Int.le_refl _, Int.le_refl _⟩ fun b n => AH.put_ne n⟩
    · unfold Sz
      split <;> decide
    · rw [fmod_pos p1]
      exact Int.emod_nonneg _ (by decide)
    · rw [fmod_pos p1]
      have := Int.emod_lt_of_pos c p1
      omega
  simp only [ir_l_source_of]
  by_cases c0 : 0 ≤ c
  · simp only [wpSs, wpS, wpE, wpEs, wpAnd, wpOr, wpI, wpF, wpT, wpH, Env.at, Env.put, Env.wipe, Env.nox, Slot.nox, wBin, binI, wCmp, cmpI, wBi, isTy, asL, asLT, bindT, bindTs, intsOf, boolsOf, ixL0, ixL1, ixL2, List.getElem?_cons_zero, List.getElem?_cons_succ, List.nil_append, List.cons_append, List.append_nil, if_true, ite_true]
    rw [if_pos (decide_eq_true c0)]
    have := fin c
    simp only [wpSs, wpS, wpE, wpEs, wpAnd, wpOr, wpI, wpF, wpT, wpH, Env.at, Env.put, Env.wipe, Env.nox, Slot.nox, wBin, binI, wCmp, cmpI, wBi, isTy, asL, asLT, bindT, bindTs, intsOf, boolsOf, ixL0, ixL1, ixL2, List.getElem?_cons_zero, List.getElem?_cons_succ, List.nil_append, List.cons_append, List.append_nil, if_true, ite_true] at this
    exact this
  · simp only [wpSs, wpS, wpE, wpEs, wpAnd, wpOr, wpI, wpF, wpT, wpH, Env.at, Env.put, Env.wipe, Env.nox, Slot.nox, wBin, binI, wCmp, cmpI, wBi, isTy, asL, asLT, bindT, bindTs, intsOf, boolsOf, ixL0, ixL1, ixL2, List.getElem?_cons_zero, List.getElem?_cons_succ, List.nil_append, List.cons_append, List.append_nil, if_true, ite_true]
    rw [if_neg (by simpa using c0)]
    refine ⟨mul_small (by unfold Sz; decide), ?_⟩
    have := fin (0 - 3 * c - 1)
    simp only [wpSs, wpS, wpE, wpEs, wpAnd, wpOr, wpI, wpF, wpT, wpH, Env.at, Env.put, Env.wipe, Env.nox, Slot.nox, wBin, binI, wCmp, cmpI, wBi, isTy, asL, asLT, bindT, bindTs, intsOf, boolsOf, ixL0, ixL1, ixL2, List.getElem?_cons_zero, List.getElem?_cons_succ, List.nil_append, List.cons_append, List.append_nil, if_true, ite_true] at this
    exact this
end FF

namespace FF
def k_l_nearest_1 : Ss := .cons (.set 8 (.bin .mul (.int 2) (.var 8))) .nil
def k_l_nearest_2 : Ss := .cons (.ite (.cmp .eq (.bin .mul (.int 2) (.bin .sub (.var 7) (.var 9))) (.var 8)) (.cons (.set 10 (.ors (.cons (.cmp .eq (.var 1) (.str [97, 119, 97, 121])) (.cons (.cmp .eq (.bin .mod (.bi .int (.cons (.bin .fdiv (.var 9) (.var 8)) .nil)) (.int 2)) (.int 1)) .nil)))) .nil) .nil) .nil
def k_l_nearest_3 : Ss := .cons (.set 10 (.cmp .gt (.bin .mul (.int 2) (.bin .sub (.var 7) (.var 9))) (.var 8))) k_l_nearest_2
def k_l_nearest_4 : Ss := .cons (.ret (.ite (.cmp .gt (.var 2) (.int 0)) (.var 11) (.bin .sub (.int 0) (.var 11)))) .nil
def k_l_nearest_5 : Ss := .cons (.ite (.cmp .gt (.var 11) (.bin .mul (.bin .mul (.var 3) (.bin .sub (.call 1906 (.cons (.var 4) .nil) []) (.int 1))) (.call 1906 (.cons (.bin .sub (.var 6) (.var 5)) .nil) []))) (.cons (.ret .non) .nil) .nil) k_l_nearest_4
def k_l_nearest_6 : Ss := .cons (.set 11 (.bin .add (.var 9) (.bin .mul (.var 8) (.bi .int (.cons (.ands (.cons (.var 10) (.cons (.cmp .gt (.var 7) (.var 9)) .nil))) .nil))))) k_l_nearest_5
def k_l_nearest_7 : Ss := .cons (.ite (.cmp .in_ (.var 1) (.tup (.cons (.str [101, 118, 101, 110]) (.cons (.str [97, 119, 97, 121]) .nil)))) k_l_nearest_3 .nil) k_l_nearest_6
def k_l_nearest_8 : Ss := .cons (.set 10 (.ors (.cons (.ands (.cons (.cmp .eq (.var 1) (.str [117, 112])) (.cons (.cmp .gt (.var 2) (.int 0)) .nil))) (.cons (.ands (.cons (.cmp .eq (.var 1) (.str [100, 111, 119, 110])) (.cons (.cmp .lt (.var 2) (.int 0)) .nil))) .nil)))) k_l_nearest_7
def k_l_nearest_9 : Ss := .cons (.set 9 (.bin .mul (.bin .fdiv (.var 7) (.var 8)) (.var 8))) k_l_nearest_8
def k_l_nearest_10 : Ss := .cons (.whl (.cmp .ge (.var 7) (.bin .mul (.var 8) (.call 1906 (.cons (.var 4) .nil) []))) k_l_nearest_1) k_l_nearest_9
def k_l_nearest_11 : Ss := .cons (.ite (.cmp .ge (.var 7) (.bin .mul (.var 3) (.call 1906 (.cons (.bin .sub (.bin .add (.var 4) (.var 6)) (.var 5)) .nil) []))) (.cons (.ret .non) .nil) .nil) k_l_nearest_10
def k_l_nearest_12 : Ss := .cons (.setP 7 8 (.bi .abs (.cons (.var 2) .nil)) (.var 3)) k_l_nearest_11
def k_l_nearest_13 : Ss := .cons (.setT (.cons (.name 4) (.cons (.name 5) (.cons (.name 6) .nil))) (.var 0)) k_l_nearest_12
def ir_l_nearest : Fd := ⟨4, 12, k_l_nearest_13⟩
def ir_l_placed : Fd := ⟨2, 2, (.cons (.ret (.call 1905 (.cons (.bin .mul (.var 0) (.call 1906 (.cons (.bi .max (.cons (.int 0) (.cons (.var 1) .nil))) .nil) [])) (.cons (.bin .mul (.int 24) (.call 1906 (.cons (.bi .max (.cons (.int 0) (.cons (.bin .sub (.int 0) (.var 1)) .nil))) .nil) [])) .nil)) [])) .nil)⟩
def ir_l_told : Fd := ⟨1, 3, (.cons (.set 1 .non) (.cons (.try_ (.cons (.set 1 (.act 0)) .nil) (.cons 4 (some 2) (.cons (.set 1 (.lst (.cons (.xfld 2 [4]) .nil))) .nil) (.cons 5 none (.cons (.set 1 (.str [97, 110, 111, 116, 104, 101, 114])) .nil) .nil))) (.cons (.ret (.var 1)) .nil)))⟩
end FF

namespace FF
def sp_l_nearest : Spec := fun ds h Q _ => ∃ (p lo hi : Int) (md : Md) (pl sz : Int), ds = [.tup [.int p, .int lo, .int hi], .str md.s, .int pl, .int sz] ∧ 2 ≤ p ∧ p ≤ 6 ∧ lo ≤ hi ∧ hi ≤ lo + 4 ∧ 0 < sz ∧ Sz 40 sz ∧ Sz 60 pl ∧
  ∀ j, RJ md p 0 pl sz j → ((j.natAbs : Int) ≤ mo p lo hi → Q (.int (VI p j * sz)) h) ∧ (mo p lo hi < (j.natAbs : Int) → Q .non h)
theorem eqb_away {md : Md} : D.eqb (.str md.s) (.str [97, 119, 97, 121]) = decide (md = .away) := by cases md <;> rfl
theorem eqb_i {a b : Int} : D.eqb (.int a) (.int b) = decide (a = b) := by
  unfold D.eqb
  by_cases c : a = b
  · rw [decide_eq_true c, c]; exact beq_self_eq_true b
  · rw [decide_eq_false c]; exact beq_eq_false_iff_ne.mpr c
theorem mo_0 {p lo hi : Int} : mo p 0 (hi - lo) = mo p lo hi := by unfold mo; rw [Int.sub_zero]
/-- a number's side -/
theorem RJ.side {md : Md} {p pl sz j : Int} (p2 : 2 ≤ p) (hi : Int) (f : Fm p 0 hi) (hz : 0 < sz) (h : RJ md p 0 pl sz j) : ∃ j', RJ (if decide (0 < pl) then md else md.ng) p 0 (pl.natAbs : Int) sz j' ∧ 0 ≤ j' ∧ j = (if 0 < pl then j' else -j') ∧ (j.natAbs : Int) = j' := by
  have nn : ∀ {md : Md} {m j : Int}, 0 ≤ m → RJ md p 0 m sz j → 0 ≤ j := fun {md m j} h0 r => by
    obtain ⟨e, u⟩ := UEx.ex (p := p) (lo := 0) (n := m) hz
    have rd := Rd.of (md := md) f hz h0 u
    have e1 := rd.j.uniq r
    have := rd.j0
    have := Int.mul_nonneg (show 0 ≤ e - 0 by have := u.1; omega) (Int.le_of_lt (HH_pos (p := p)))
    omega
  by_cases c : 0 < pl
  · rw [decide_eq_true c, if_pos rfl]
    simp only [if_pos c]
    have r : RJ md p 0 (pl.natAbs : Int) sz j := by rw [show ((pl.natAbs : Nat) : Int) = pl by omega]; exact h
    have j0 := nn (by omega) r
    exact ⟨j, r, j0, rfl, by omega⟩
  · rw [decide_eq_false c, if_neg (by decide)]
    simp only [if_neg c]
    have r : RJ md.ng p 0 (pl.natAbs : Int) sz (-j) := by
      rw [show ((pl.natAbs : Nat) : Int) = -pl by omega]
      have h' : RJ md.ng.ng p 0 pl sz j := by rw [Md.ng_ng]; exact h
      exact h'.neg
    have j0 := nn (by omega) r
    exact ⟨-j, r, j0, by omega, by omega⟩
theorem b_l_nearest {Γ : Gam} (hp : Γ.fn 1906 = sp_l_power) : BodyOk Γ ir_l_nearest sp_l_nearest := by
  rintro ds h Q R ⟨p, lo, hi, md, pl, sz, rfl, p2, p6, lh, h4, z0, zz, zp, q⟩
  refine ⟨rfl, ?_⟩
  show wpSs Γ ir_l_nearest.body [.val (.tup [.int p, .int lo, .int hi]), .val (.str md.s), .val (.int pl), .val (.int sz), .un, .un, .un, .un, .un, .un, .un, .un] h (PBd Q R)
  simp only [ir_l_nearest, k_l_nearest_13, wpSs, wpS, wpE, wpEs, wpAnd, wpOr, wpI, wpF, wpT, wpH, Env.at, Env.put, Env.wipe, Env.nox, Slot.nox, wBin, binI, wCmp, cmpI, wBi, isTy, asL, asLT, bindT, bindTs, intsOf, boolsOf, ixL0, ixL1, ixL2, List.getElem?_cons_zero, List.getElem?_cons_succ, List.nil_append, List.cons_append, List.append_nil, if_true, ite_true]
  simp only [k_l_nearest_12, wpSs, wpS, wpE, wpEs, wpAnd, wpOr, wpI, wpF, wpT, wpH, Env.at, Env.put, Env.wipe, Env.nox, Slot.nox, wBin, binI, wCmp, cmpI, wBi, isTy, asL, asLT, bindT, bindTs, intsOf, boolsOf, ixL0, ixL1, ixL2, List.getElem?_cons_zero, List.getElem?_cons_succ, List.nil_append, List.cons_append, List.append_nil, if_true, ite_true]
  simp only [k_l_nearest_11, wpSs, wpS, wpE, wpEs, wpAnd, wpOr, wpI, wpF, wpT, wpH, Env.at, Env.put, Env.wipe, Env.nox, Slot.nox, wBin, binI, wCmp, cmpI, wBi, isTy, asL, asLT, bindT, bindTs, intsOf, boolsOf, ixL0, ixL1, ixL2, List.getElem?_cons_zero, List.getElem?_cons_succ, List.nil_append, List.cons_append, List.append_nil, if_true, ite_true, hp]
  refine ⟨p + hi - lo, rfl, by omega, by omega, ?_⟩
  simp only [wpSs, wpS, wpE, wpEs, wpAnd, wpOr, wpI, wpF, wpT, wpH, Env.at, Env.put, Env.wipe, Env.nox, Slot.nox, wBin, binI, wCmp, cmpI, wBi, isTy, asL, asLT, bindT, bindTs, intsOf, boolsOf, ixL0, ixL1, ixL2, List.getElem?_cons_zero, List.getElem?_cons_succ, List.nil_append, List.cons_append, List.append_nil, if_true, ite_true]
  have f : Fm p 0 (hi - lo) := ⟨p2, by omega, by decide, by omega, by omega⟩
  obtain ⟨j, hj⟩ := RJ.ex (md := md) (p := p) (lo := 0) (n := pl) p2 z0
  obtain ⟨q1, q2⟩ := q j hj
  obtain ⟨j', r', j0, je, ja⟩ := hj.side p2 _ f z0
  rw [ja] at q1 q2
  have spw : ∀ n : Nat, n ≤ 20 → Sz 21 (2 ^ n) := fun n hn => by
    have a := pow_le (show n ≤ 20 by omega)
    have := two_pos n
    unfold Sz
    have e : (2 : Int) ^ 20 = 1048576 := rfl
    have e2 : 2 ^ 21 = 2097152 := rfl
    omega
  refine ⟨mul_ok zz (spw _ (by omega)) (by decide), ?_⟩
  have m0 : 0 ≤ (pl.natAbs : Int) := by omega
  by_cases c : sz * 2 ^ (p + hi - lo).toNat ≤ (pl.natAbs : Int)
  · rw [decide_eq_true c, if_pos rfl]
    refine q2 ?_
    have := Rd.far f z0 m0 (by
      rw [nab m0]
      unfold le2
      rw [dn_s (by omega), Int.mul_one]
      unfold up
      rw [show (hi - lo + p).toNat = (p + hi - lo).toNat by omega, Int.mul_comm]
      exact c) r'
    rw [mo_0] at this
    exact this
  rw [decide_eq_false c]
  simp only [Bool.false_eq_true, if_false]
  have pe : (p + hi - lo).toNat = (hi - lo).toNat + p.toNat := by omega
  rw [pe, Int.pow_add] at c
  simp only [k_l_nearest_10, wpSs, wpS, wpE, wpEs, wpAnd, wpOr, wpI, wpF, wpT, wpH, Env.at, Env.put, Env.wipe, Env.nox, Slot.nox, wBin, binI, wCmp, cmpI, wBi, isTy, asL, asLT, bindT, bindTs, intsOf, boolsOf, ixL0, ixL1, ixL2, List.getElem?_cons_zero, List.getElem?_cons_succ, List.nil_append, List.cons_append, List.append_nil, if_true, ite_true, hp]
  refine ⟨fun k σ h1 => h1 = h ∧ ∃ i : Nat, σ = [.val (.tup [.int p, .int lo, .int hi]), .val (.str md.s), .val (.int pl), .val (.int sz), .val (.int p), .val (.int lo), .val (.int hi), .val (.int pl.natAbs), .val (.int (sz * 2 ^ i)), .un, .un, .un] ∧ i ≤ (hi - lo).toNat ∧ k = (hi - lo).toNat - i ∧ (i = 0 ∨ 2 * (pl.natAbs : Int) ≥ sz * 2 ^ i * 2 ^ p.toNat), ⟨_, rfl, 0, by rw [Int.pow_zero, Int.mul_one], by omega, rfl, .inl rfl⟩, ?_⟩
  rintro k σ h1 ⟨rfl, i, rfl, il, rfl, il2⟩
  simp only [wpSs, wpS, wpE, wpEs, wpAnd, wpOr, wpI, wpF, wpT, wpH, Env.at, Env.put, Env.wipe, Env.nox, Slot.nox, wBin, binI, wCmp, cmpI, wBi, isTy, asL, asLT, bindT, bindTs, intsOf, boolsOf, ixL0, ixL1, ixL2, List.getElem?_cons_zero, List.getElem?_cons_succ, List.nil_append, List.cons_append, List.append_nil, if_true, ite_true]
  refine ⟨p, rfl, by omega, by omega, ?_⟩
  simp only [wpSs, wpS, wpE, wpEs, wpAnd, wpOr, wpI, wpF, wpT, wpH, Env.at, Env.put, Env.wipe, Env.nox, Slot.nox, wBin, binI, wCmp, cmpI, wBi, isTy, asL, asLT, bindT, bindTs, intsOf, boolsOf, ixL0, ixL1, ixL2, List.getElem?_cons_zero, List.getElem?_cons_succ, List.nil_append, List.cons_append, List.append_nil, if_true, ite_true]
  refine ⟨mul_ok (zz.mul (spw i (by omega))) (spw _ (by omega)) (by decide), ?_⟩
  by_cases c2 : sz * 2 ^ i * 2 ^ p.toNat ≤ (pl.natAbs : Int)
  · rw [decide_eq_true c2, if_pos rfl]
    simp only [k_l_nearest_1, wpSs, wpS, wpE, wpEs, wpAnd, wpOr, wpI, wpF, wpT, wpH, Env.at, Env.put, Env.wipe, Env.nox, Slot.nox, wBin, binI, wCmp, cmpI, wBi, isTy, asL, asLT, bindT, bindTs, intsOf, boolsOf, ixL0, ixL1, ixL2, List.getElem?_cons_zero, List.getElem?_cons_succ, List.nil_append, List.cons_append, List.append_nil, if_true, ite_true]
    have lt : i < (hi - lo).toNat := by
      apply Classical.byContradiction
      intro z
      have e : i = (hi - lo).toNat := by omega
      rw [e, Int.mul_assoc] at c2
      exact c c2
    have s2 : Sz 2 2 := by unfold Sz; decide
    refine ⟨mul_ok s2 (zz.mul (spw i (by omega))) (by decide), (hi - lo).toNat - (i + 1), ?_, trivial, i + 1, by rw [two_succ, Int.mul_left_comm], lt, rfl, .inr ?_⟩
    · omega
    · rw [two_succ, Int.mul_left_comm, Int.mul_assoc]
      omega
  rw [decide_eq_false c2]
  simp only [Bool.false_eq_true, if_false]
  obtain ⟨js, rs, _, vs⟩ := near f z0 m0 (show (pl.natAbs : Int) < sz * 2 ^ i * 2 ^ p.toNat by omega) il2
  obtain rfl := rs.uniq r'
  simp only [k_l_nearest_9, wpSs, wpS, wpE, wpEs, wpAnd, wpOr, wpI, wpF, wpT, wpH, Env.at, Env.put, Env.wipe, Env.nox, Slot.nox, wBin, binI, wCmp, cmpI, wBi, isTy, asL, asLT, bindT, bindTs, intsOf, boolsOf, ixL0, ixL1, ixL2, List.getElem?_cons_zero, List.getElem?_cons_succ, List.nil_append, List.cons_append, List.append_nil, if_true, ite_true]
  have zD := zz.mul (spw i (by omega))
  have D0 : 0 < sz * 2 ^ i := Int.mul_pos z0 (two_pos i)
  have bD : bitsI (sz * 2 ^ i) ≤ 9000 := Nat.le_trans (bitsI_le zD) (by decide)
  have zm : Sz 60 (pl.natAbs : Int) := by unfold Sz at *; omega
  rw [Int.fdiv_eq_ediv_of_nonneg _ (Int.le_of_lt D0)]
  have lw := law_toI (md := md) (pos := decide (0 < pl)) D0 m0 (decide (pl < 0)) (fun h => by
    by_cases c : 0 < pl
    · rw [decide_eq_true c, decide_eq_false (by omega)]; rfl
    · rw [decide_eq_false c, decide_eq_true (by omega)]; rfl)
  generalize hD : sz * 2 ^ i = D at *
  have qm := Int.ediv_mul_le (pl.natAbs : Int) (show D ≠ 0 by omega)
  have q0 : 0 ≤ (pl.natAbs : Int) / D := Int.ediv_nonneg m0 (Int.le_of_lt D0)
  have qD0 : 0 ≤ (pl.natAbs : Int) / D * D := Int.mul_nonneg q0 (Int.le_of_lt D0)
  have zq : Sz 60 ((pl.natAbs : Int) / D) := by
    have : (pl.natAbs : Int) / D ≤ (pl.natAbs : Int) := Int.ediv_le_self _ m0
    unfold Sz at *; omega
  refine ⟨⟨by omega, bD⟩, mul_ok zq zD (by decide), ?_⟩
  generalize hL : (pl.natAbs : Int) / D * D = Lw at *
  have key6 : ∀ b : Bool, b = lawUp md (decide (0 < pl)) (decide (pl < 0)) (pl.natAbs : Int) D → wpSs Γ k_l_nearest_6 [.val (.tup [.int p, .int lo, .int hi]), .val (.str md.s), .val (.int pl), .val (.int sz), .val (.int p), .val (.int lo), .val (.int hi), .val (.int pl.natAbs), .val (.int D), .val (.int Lw), .val (.bl b), .un] h1 (PBd Q R) := by
    intro b hb
    rw [← hb] at lw
    have key5 : ∀ b F, F = toI (if decide (0 < pl) = true then md else md.ng) (pl.natAbs : Int) D * D → wpSs Γ k_l_nearest_5 [.val (.tup [.int p, .int lo, .int hi]), .val (.str md.s), .val (.int pl), .val (.int sz), .val (.int p), .val (.int lo), .val (.int hi), .val (.int pl.natAbs), .val (.int D), .val (.int Lw), .val (.bl b), .val (.int F)] h1 (PBd Q R) := by
      intro b F hF
      simp only [k_l_nearest_5, wpSs, wpS, wpE, wpEs, wpAnd, wpOr, wpI, wpF, wpT, wpH, Env.at, Env.put, Env.wipe, Env.nox, Slot.nox, wBin, binI, wCmp, cmpI, wBi, isTy, asL, asLT, bindT, bindTs, intsOf, boolsOf, ixL0, ixL1, ixL2, List.getElem?_cons_zero, List.getElem?_cons_succ, List.nil_append, List.cons_append, List.append_nil, if_true, ite_true, hp]
      refine ⟨p, rfl, by omega, by omega, ?_⟩
      simp only [wpSs, wpS, wpE, wpEs, wpAnd, wpOr, wpI, wpF, wpT, wpH, Env.at, Env.put, Env.wipe, Env.nox, Slot.nox, wBin, binI, wCmp, cmpI, wBi, isTy, asL, asLT, bindT, bindTs, intsOf, boolsOf, ixL0, ixL1, ixL2, List.getElem?_cons_zero, List.getElem?_cons_succ, List.nil_append, List.cons_append, List.append_nil, if_true, ite_true]
      have sp1 : Sz 21 (2 ^ p.toNat - 1) := by
        have a := spw p.toNat (by omega)
        have := two_pos p.toNat
        unfold Sz at *
        omega
      refine ⟨mul_ok zz sp1 (by decide), hi - lo, rfl, by omega, by omega, ?_⟩
      dsimp only
      refine ⟨mul_ok (zz.mul sp1) (spw _ (by omega)) (by decide), ?_⟩
      have hD' : D = sz * 2 ^ i := hD.symm
      have eF : F = sz * VI p js := by rw [hF, vs, hD']; ac_rfl
      have mg : sz * (2 ^ p.toNat - 1) * 2 ^ (hi - lo).toNat = sz * VI p (mo p lo hi) := by
        obtain ⟨_, v⟩ := mo_at f
        rw [mo_0, Int.sub_zero] at v
        have := mo_pos' f
        rw [mo_0] at this
        rw [VI_pos (by omega), v, HH_at (by omega), Int.mul_assoc]
      rw [mg, eF]
      by_cases c5 : mo p lo hi < js
      · have := Int.mul_lt_mul_of_pos_left (VI_lt (p := p) c5) z0
        rw [decide_eq_true this, if_pos rfl]
        exact q2 c5
      · have := Int.mul_le_mul_of_nonneg_left (VI_le (p := p) (show js ≤ mo p lo hi by omega)) (Int.le_of_lt z0)
        rw [decide_eq_false (by omega), if_neg (by decide)]
        have q1 := q1 (by omega)
        simp only [k_l_nearest_4, wpSs, wpS, wpE, wpEs, wpAnd, wpOr, wpI, wpF, wpT, wpH, Env.at, Env.put, Env.wipe, Env.nox, Slot.nox, wBin, binI, wCmp, cmpI, wBi, isTy, asL, asLT, bindT, bindTs, intsOf, boolsOf, ixL0, ixL1, ixL2, List.getElem?_cons_zero, List.getElem?_cons_succ, List.nil_append, List.cons_append, List.append_nil, if_true, ite_true]
        by_cases c6 : 0 < pl
        · rw [decide_eq_true c6, if_pos rfl]
          rw [if_pos c6] at je
          rw [je, Int.mul_comm] at q1
          exact q1
        · rw [decide_eq_false c6, if_neg (by decide)]
          rw [if_neg c6] at je
          rw [je, VI_neg, Int.neg_mul, Int.mul_comm] at q1
          rw [Int.zero_sub]
          exact q1
    simp only [k_l_nearest_6, wpSs, wpS, wpE, wpEs, wpAnd, wpOr, wpI, wpF, wpT, wpH, Env.at, Env.put, Env.wipe, Env.nox, Slot.nox, wBin, binI, wCmp, cmpI, wBi, isTy, asL, asLT, bindT, bindTs, intsOf, boolsOf, ixL0, ixL1, ixL2, List.getElem?_cons_zero, List.getElem?_cons_succ, List.nil_append, List.cons_append, List.append_nil, if_true, ite_true]
    have s1 : ∀ b : Bool, Sz 2 (if b = true then 1 else 0) := fun b => by cases b <;> (unfold Sz; decide)
    cases b with
    | true =>
      rw [if_pos rfl]
      rw [Bool.true_and] at lw
      exact ⟨mul_ok zD (s1 _) (by decide), key5 _ _ lw⟩
    | false =>
      rw [if_neg (by decide)]
      rw [Bool.false_and] at lw
      exact ⟨mul_ok zD (s1 _) (by decide), key5 _ _ lw⟩
  have key7 : ∀ b : Bool, b = ((decide (md = .up) && decide (0 < pl)) || (decide (md = .down) && decide (pl < 0))) → wpSs Γ k_l_nearest_7 [.val (.tup [.int p, .int lo, .int hi]), .val (.str md.s), .val (.int pl), .val (.int sz), .val (.int p), .val (.int lo), .val (.int hi), .val (.int pl.natAbs), .val (.int D), .val (.int Lw), .val (.bl b), .un] h1 (PBd Q R) := by
    intro b hb
    simp only [k_l_nearest_7, wpSs, wpS, wpE, wpEs, wpAnd, wpOr, wpI, wpF, wpT, wpH, Env.at, Env.put, Env.wipe, Env.nox, Slot.nox, wBin, binI, wCmp, cmpI, wBi, isTy, asL, asLT, bindT, bindTs, intsOf, boolsOf, ixL0, ixL1, ixL2, List.getElem?_cons_zero, List.getElem?_cons_succ, List.nil_append, List.cons_append, List.append_nil, if_true, ite_true]
    refine ⟨(show 2 ≤ SL by decide), ⟨rfl, rfl⟩, ?_⟩
    have e : ([.str [101, 118, 101, 110], .str [97, 119, 97, 121]] : List FF.D).any (FF.D.eqb (.str md.s)) = decide (md = .even ∨ md = .away) := by cases md <;> rfl
    rw [e]
    by_cases c3 : md = .even ∨ md = .away
    · rw [decide_eq_true c3, if_pos rfl]
      simp only [k_l_nearest_3, wpSs, wpS, wpE, wpEs, wpAnd, wpOr, wpI, wpF, wpT, wpH, Env.at, Env.put, Env.wipe, Env.nox, Slot.nox, wBin, binI, wCmp, cmpI, wBi, isTy, asL, asLT, bindT, bindTs, intsOf, boolsOf, ixL0, ixL1, ixL2, List.getElem?_cons_zero, List.getElem?_cons_succ, List.nil_append, List.cons_append, List.append_nil, if_true, ite_true]
      have zs : Sz 61 ((pl.natAbs : Int) - Lw) := by unfold Sz at *; omega
      have s2 : Sz 2 2 := by unfold Sz; decide
      refine ⟨mul_ok s2 zs (by decide), ?_⟩
      simp only [k_l_nearest_2, wpSs, wpS, wpE, wpEs, wpAnd, wpOr, wpI, wpF, wpT, wpH, Env.at, Env.put, Env.wipe, Env.nox, Slot.nox, wBin, binI, wCmp, cmpI, wBi, isTy, asL, asLT, bindT, bindTs, intsOf, boolsOf, ixL0, ixL1, ixL2, List.getElem?_cons_zero, List.getElem?_cons_succ, List.nil_append, List.cons_append, List.append_nil, if_true, ite_true]
      refine ⟨mul_ok s2 zs (by decide), ⟨rfl, rfl⟩, ?_⟩
      have qe : Lw.fdiv D = (pl.natAbs : Int) / D := by
        rw [Int.fdiv_eq_ediv_of_nonneg _ (Int.le_of_lt D0), ← hL]
        exact Int.mul_ediv_cancel _ (show D ≠ 0 by omega)
      rw [eqb_i, eqb_away, qe, Int.fmod_eq_emod_of_nonneg _ (by decide), eqb_i]
      by_cases c4 : 2 * ((pl.natAbs : Int) - Lw) = D
      · rw [decide_eq_true c4, if_pos rfl]
        refine ⟨md_ok rfl, ?_⟩
        by_cases c5 : md = .away
        · rw [decide_eq_true c5, if_pos rfl]
          refine key6 _ ?_
          unfold lawUp
          rw [if_pos c3, hL, if_pos c4, decide_eq_true c5]
          rfl
        · rw [decide_eq_false c5, if_neg (by decide)]
          refine ⟨⟨by omega, bD⟩, by decide, ⟨rfl, rfl⟩, key6 _ ?_⟩
          unfold lawUp
          rw [if_pos c3, hL, if_pos c4, decide_eq_false c5]
          rfl
      · rw [decide_eq_false c4, if_neg (by decide)]
        refine key6 _ ?_
        unfold lawUp
        rw [if_pos c3, hL, if_neg c4]
    · rw [decide_eq_false c3, if_neg (by decide)]
      refine key6 _ ?_
      unfold lawUp
      rw [if_neg c3]
      exact hb
  simp only [k_l_nearest_8, wpSs, wpS, wpE, wpEs, wpAnd, wpOr, wpI, wpF, wpT, wpH, Env.at, Env.put, Env.wipe, Env.nox, Slot.nox, wBin, binI, wCmp, cmpI, wBi, isTy, asL, asLT, bindT, bindTs, intsOf, boolsOf, ixL0, ixL1, ixL2, List.getElem?_cons_zero, List.getElem?_cons_succ, List.nil_append, List.cons_append, List.append_nil, if_true, ite_true]
  refine ⟨md_ok rfl, ?_⟩
  rw [eqb_up, eqb_down]
  by_cases c3 : md = .up
  · rw [decide_eq_true c3, if_pos rfl]
    by_cases c4 : 0 < pl
    · rw [if_pos (decide_eq_true c4)]
      exact key7 _ (by rw [decide_eq_true c3, decide_eq_true c4]; rfl)
    · rw [if_neg (by rw [decide_eq_false c4]; decide)]
      refine ⟨md_ok rfl, ?_⟩
      rw [decide_eq_false (show ¬ md = .down by rw [c3]; decide), if_neg (by decide)]
      exact key7 _ (by rw [decide_eq_false c4, decide_eq_false (show ¬ md = .down by rw [c3]; decide), Bool.and_false]; rfl)
  · rw [decide_eq_false c3, if_neg (by decide)]
    refine ⟨md_ok rfl, ?_⟩
    by_cases c4 : md = .down
    · rw [decide_eq_true c4, if_pos rfl]
      exact key7 _ (by rw [decide_eq_false c3, decide_eq_true c4]; simp)
    · rw [decide_eq_false c4, if_neg (by decide)]
      exact key7 _ (by rw [decide_eq_false c3, decide_eq_false c4]; rfl)
end FF

namespace FF
theorem m_divisor : MoS sp_divisor := by
  rintro ds h Q Q' R R' k _ ⟨a0, a1, a2, q⟩
  exact ⟨a0, a1, a2, k _ _ q⟩
theorem m_fraction : MoS sp_fraction := by
  rintro ds h Q Q' R R' k _ ⟨a0, a1, a2, a3, a4, q⟩
  exact ⟨a0, a1, a2, a3, a4, k _ _ q⟩
theorem m_power : MoS sp_power := by
  rintro ds h Q Q' R R' k _ ⟨a0, a1, a2, a3, q⟩
  exact ⟨a0, a1, a2, a3, k _ _ q⟩
theorem m_times : MoS sp_times := by
  rintro ds h Q Q' R R' k _ ⟨a0, a1, a2, a3, a4, a5, a6, a7, a8, a9, a10, q⟩
  exact ⟨a0, a1, a2, a3, a4, a5, a6, a7, a8, a9, a10, k _ _ q⟩
theorem m_over : MoS sp_over := by
  rintro ds h Q Q' R R' k _ ⟨a0, a1, a2, a3, a4, a5, a6, a7, a8, a9, a10, q⟩
  exact ⟨a0, a1, a2, a3, a4, a5, a6, a7, a8, a9, a10, k _ _ q⟩
theorem m_is_less : MoS sp_is_less := by
  rintro ds h Q Q' R R' k _ ⟨a0, a1, a2, a3, a4, a5, a6, a7, a8, q⟩
  exact ⟨a0, a1, a2, a3, a4, a5, a6, a7, a8, k _ _ q⟩
theorem m_size_of : MoS sp_size_of := by
  rintro ds h Q Q' R R' k _ ⟨a0, a1, a2, q⟩
  exact ⟨a0, a1, a2, k _ _ q⟩
theorem m_Format_init : MoS sp_Format_init := by
  rintro ds h Q Q' R R' k _ ⟨a0, a1, a2, a3, a4, a5, a6, q⟩
  exact ⟨a0, a1, a2, a3, a4, a5, a6, k _ _ q⟩
theorem m_parts : MoS sp_parts := by
  rintro ds h Q Q' R R' k _ ⟨a0, a1, a2, a3, q⟩
  exact ⟨a0, a1, a2, a3, k _ _ q⟩
theorem m_check_format : MoS sp_check_format := by
  rintro ds h Q Q' R R' k _ ⟨a0, a1, a2, a3, q⟩
  exact ⟨a0, a1, a2, a3, k _ _ q⟩
theorem m_exponent : MoS sp_exponent := by
  rintro ds h Q Q' R R' k _ ⟨a0, a1, a2, a3, a4, a5, a6, q⟩
  exact ⟨a0, a1, a2, a3, a4, a5, a6, fun e b1 b2 => k _ _ (q e b1 b2)⟩
theorem m_unit_exponent : MoS sp_unit_exponent := by
  rintro ds h Q Q' R R' k _ ⟨a0, a1, a2, a3, a4, a5, a6, a7, a8, a9, q⟩
  exact ⟨a0, a1, a2, a3, a4, a5, a6, a7, a8, a9, fun e b1 => k _ _ (q e b1)⟩
theorem m_is_far : MoS sp_is_far := by
  rintro ds h Q Q' R R' k _ ⟨a0, a1, a2, a3, a4, a5, a6, a7, a8, a9, q⟩
  exact ⟨a0, a1, a2, a3, a4, a5, a6, a7, a8, a9, k _ _ q⟩
end FF

namespace FF
theorem m_is_number : MoS sp_is_number := by
  rintro ds h Q Q' R R' k _ ⟨a0, a1, a2, q⟩
  exact ⟨a0, a1, a2, k _ _ q⟩
theorem m_check_number : MoS sp_check_number := by
  rintro ds h Q Q' R R' k _ ⟨a0, a1, a2, a3, a4, q⟩
  exact ⟨a0, a1, a2, a3, a4, k _ _ q⟩
theorem m_minus : MoS sp_minus := by
  rintro ds h Q Q' R R' k _ ⟨a0, a1, a2, a3, a4, a5, a6, a7, a8, a9, a10, q⟩
  exact ⟨a0, a1, a2, a3, a4, a5, a6, a7, a8, a9, a10, k _ _ q⟩
theorem m_whole_part : MoS sp_whole_part := by
  rintro ds h Q Q' R R' k _ ⟨a0, a1, a2, a3, a4, q⟩
  exact ⟨a0, a1, a2, a3, a4, k _ _ q⟩
theorem m_most_order : MoS sp_most_order := by
  rintro ds h Q Q' R R' k _ ⟨a0, a1, a2, a3, a4, q⟩
  exact ⟨a0, a1, a2, a3, a4, k _ _ q⟩
theorem m_order_of : MoS sp_order_of := by
  rintro ds h Q Q' R R' k _ ⟨a0, a1, a2, a3, a4, a5, a6, a7, a8, q⟩
  exact ⟨a0, a1, a2, a3, a4, a5, a6, a7, a8, fun b1 b2 b3 b4 => k _ _ (q b1 b2 b3 b4)⟩
theorem m_value_of : MoS sp_value_of := by
  rintro ds h Q Q' R R' k _ ⟨a0, a1, a2, a3, a4, a5, a6, q⟩
  exact ⟨a0, a1, a2, a3, a4, a5, a6, k _ _ q⟩
theorem m_floor_order : MoS sp_floor_order := by
  rintro ds h Q Q' R R' k _ ⟨a0, a1, a2, a3, a4, a5, a6, a7, a8, q⟩
  exact ⟨a0, a1, a2, a3, a4, a5, a6, a7, a8, fun b1 b2 b3 b4 => k _ _ (q b1 b2 b3 b4)⟩
theorem m_ceiling_order : MoS sp_ceiling_order := by
  rintro ds h Q Q' R R' k _ ⟨a0, a1, a2, a3, a4, a5, a6, a7, a8, q⟩
  exact ⟨a0, a1, a2, a3, a4, a5, a6, a7, a8, fun b1 b2 b3 b4 => k _ _ (q b1 b2 b3 b4)⟩
theorem m_is_float_of : MoS sp_is_float_of := by
  rintro ds h Q Q' R R' k _ ⟨a0, a1, a2, a3, a4, a5, a6, a7, a8, q⟩
  exact ⟨a0, a1, a2, a3, a4, a5, a6, a7, a8, fun b1 b2 => k _ _ (q b1 b2)⟩
theorem m_check_float : MoS sp_check_float := by
  rintro ds h Q Q' R R' k _ ⟨a0, a1, a2, a3, a4, a5, a6, a7, a8, a9, a10, q⟩
  exact ⟨a0, a1, a2, a3, a4, a5, a6, a7, a8, a9, a10, k _ _ q⟩
theorem m_greatest : MoS sp_greatest := by
  rintro ds h Q Q' R R' k _ ⟨a0, a1, a2, a3, a4, q⟩
  exact ⟨a0, a1, a2, a3, a4, k _ _ q⟩
theorem m_least : MoS sp_least := by
  rintro ds h Q Q' R R' k _ ⟨a0, a1, a2, a3, a4, q⟩
  exact ⟨a0, a1, a2, a3, a4, k _ _ q⟩
theorem m_is_float : MoS sp_is_float := by
  rintro ds h Q Q' R R' k _ ⟨a0, a1, a2, a3, a4, a5, a6, a7, a8, q⟩
  exact ⟨a0, a1, a2, a3, a4, a5, a6, a7, a8, fun b1 b2 => k _ _ (q b1 b2)⟩
theorem m_unit : MoS sp_unit := by
  rintro ds h Q Q' R R' k _ ⟨a0, a1, a2, a3, a4, a5, a6, a7, a8, a9, q⟩
  exact ⟨a0, a1, a2, a3, a4, a5, a6, a7, a8, a9, fun b1 b2 => k _ _ (q b1 b2)⟩
theorem m_order : MoS sp_order := by
  rintro ds h Q Q' R R' k _ ⟨a0, a1, a2, a3, a4, a5, a6, a7, a8, a9, a10, a11, a12, q⟩
  exact ⟨a0, a1, a2, a3, a4, a5, a6, a7, a8, a9, a10, a11, a12, k _ _ q⟩
theorem m_float_at : MoS sp_float_at := by
  rintro ds h Q Q' R R' k _ ⟨a0, a1, a2, a3, a4, a5, a6, a7, q⟩
  exact ⟨a0, a1, a2, a3, a4, a5, a6, a7, k _ _ q⟩
theorem m_below : MoS sp_below := by
  rintro ds h Q Q' R R' k _ ⟨a0, a1, a2, a3, a4, a5, a6, a7, a8, q⟩
  exact ⟨a0, a1, a2, a3, a4, a5, a6, a7, a8, fun b1 b2 => k _ _ (q b1 b2)⟩
theorem m_above : MoS sp_above := by
  rintro ds h Q Q' R R' k _ ⟨a0, a1, a2, a3, a4, a5, a6, a7, a8, q⟩
  exact ⟨a0, a1, a2, a3, a4, a5, a6, a7, a8, fun b1 b2 => k _ _ (q b1 b2)⟩
theorem m_between : MoS sp_between := by
  rintro ds h Q Q' R R' k _ ⟨a0, a1, a2, a3, a4, a5, a6, a7, a8, a9, a10, a11, a12, q⟩
  exact ⟨a0, a1, a2, a3, a4, a5, a6, a7, a8, a9, a10, a11, a12, fun b1 b2 b3 b4 => k _ _ (q b1 b2 b3 b4)⟩
theorem m_middle : MoS sp_middle := by
  rintro ds h Q Q' R R' k _ ⟨a0, a1, a2, a3, a4, a5, a6, a7, a8, a9, a10, a11, a12, a13, a14, a15, a16, a17, a18, a19, a20, q⟩
  exact ⟨a0, a1, a2, a3, a4, a5, a6, a7, a8, a9, a10, a11, a12, a13, a14, a15, a16, a17, a18, a19, a20, k _ _ q⟩
theorem m_one : MoS sp_one := by
  rintro ds h Q Q' R R' k _ ⟨a0, a1, a2, a3, a4, a5, a6, a7, q⟩
  exact ⟨a0, a1, a2, a3, a4, a5, a6, a7, fun b1 b2 b3 b4 b5 => k _ _ (q b1 b2 b3 b4 b5)⟩
theorem m_cell_at : MoS sp_cell_at := by
  rintro ds h Q Q' R R' k _ ⟨a0, a1, a2, a3, a4, q⟩
  exact ⟨a0, a1, a2, a3, a4, fun b1 => k _ _ (q b1)⟩
theorem m_l_power : MoS sp_l_power := by
  rintro ds h Q Q' R R' k _ ⟨a0, a1, a2, a3, q⟩
  exact ⟨a0, a1, a2, a3, k _ _ q⟩
theorem m_wide : MoS sp_wide := by
  rintro ds h Q Q' R R' k _ ⟨a0, a1, a2, a3, a4, a5, a6, a7, q⟩
  exact ⟨a0, a1, a2, a3, a4, a5, a6, a7, fun b1 b2 b3 b4 b5 b6 => k _ _ (q b1 b2 b3 b4 b5 b6)⟩
end FF

namespace FF
/-- the place k, in 24ths of 2 ** low, as a number -/
def plc (low k : Int) : Int × Int := fr (k * up low) (24 * dn low)
theorem plc_d {low : Int} : 0 < 24 * dn low := by have := dn_pos (k := low); omega
def sp_l_placed : Spec := fun ds h Q _ => ∃ k low, ds = [.int k, .int low] ∧ Sz 60 k ∧ -300 ≤ low ∧ low ≤ 300 ∧ Q (num (plc low k)) h
theorem b_l_placed {Γ : Gam} (hp : Γ.fn 1906 = sp_l_power) (hn : Γ.fn 1905 = sp_fraction) : BodyOk Γ ir_l_placed sp_l_placed := by
  rintro ds h Q R ⟨k, low, rfl, zk, l0, l1, q⟩
  refine ⟨rfl, ?_⟩
  show wpSs Γ ir_l_placed.body [.val (.int k), .val (.int low)] h _
  simp only [ir_l_placed, wpSs, wpS, wpE, wpEs, wpAnd, wpOr, wpI, wpF, wpT, wpH, Env.at, Env.put, Env.wipe, Env.nox, Slot.nox, wBin, binI, wCmp, cmpI, wBi, isTy, asL, asLT, bindT, bindTs, intsOf, boolsOf, ixL0, ixL1, ixL2, List.getElem?_cons_zero, List.getElem?_cons_succ, List.nil_append, List.cons_append, List.append_nil, if_true, ite_true, hp, hn]
  refine ⟨max 0 low, rfl, by omega, by omega, ?_⟩
  rw [show (max 0 low).toNat = low.toNat by omega]
  have spw : ∀ n : Nat, n ≤ 300 → Sz 301 (2 ^ n) := fun n hn => by
    have a := pow_le (show n ≤ 300 by omega)
    have := two_pos n
    unfold Sz
    have e : (((2 ^ 300 : Nat)) : Int) = 2 ^ 300 := by rw [Int.natCast_pow]; rfl
    have e2 : (2 : Nat) ^ 301 = 2 * 2 ^ 300 := by rw [Nat.pow_succ, Nat.mul_comm]
    omega
  refine ⟨mul_ok zk (spw _ (by omega)) (by decide), ?_⟩
  refine ⟨max 0 (0 - low), rfl, by omega, by omega, ?_⟩
  rw [show (max 0 (0 - low)).toNat = (-low).toNat by omega]
  have s24 : Sz 5 24 := by unfold Sz; decide
  refine ⟨mul_ok s24 (spw _ (by omega)) (by decide), ?_⟩
  exact ⟨k * up low, 24 * dn low, rfl, plc_d, (s24.mul (spw _ (by omega))).mono (by decide), q⟩
theorem RJ.place {md : Md} {p low k j : Int} {t : Nat} : RJ md p (low + t) (plc low k).1 (plc low k).2 j ↔ RJ md p 0 k (24 * 2 ^ t) j := by
  unfold plc
  rw [RJ.fr plc_d]
  have ua := up_add (a := low) t
  have c0 : 0 < up low * dn (low + t) := Int.mul_pos up_pos dn_pos
  have e1 : ∀ v : Int, v * up (low + t) * (24 * dn low) = up low * dn (low + t) * (v * up 0 * (24 * 2 ^ t)) := fun v => by
    rw [show up 0 = 1 from rfl, show v * up (low + t) * (24 * dn low) = v * 24 * (up (low + t) * dn low) by ac_rfl, ua, Int.mul_one]
    ac_rfl
  have e2 : k * up low * dn (low + t) = up low * dn (low + t) * (k * dn 0) := by
    rw [show dn 0 = 1 from rfl, Int.mul_one]
    ac_rfl
  unfold RJ
  constructor
  · intro h i
    have := h i
    rw [e1, e1, e2, Bv.scale c0] at this
    exact this
  · intro h i
    rw [e1, e1, e2, Bv.scale c0]
    exact h i
/-- a float as a place -/
theorem plc_v {p low j : Int} {t : Nat} : plc low (VI p j * (24 * 2 ^ t)) = vR p (low + t) j := by
  unfold plc vR
  refine fr_of plc_d dn_pos ?_
  have ua := up_add (a := low) t
  rw [show VI p j * (24 * 2 ^ t) * up low * dn (low + t) = VI p j * 24 * (2 ^ t * up low * dn (low + t)) by ac_rfl, ← ua]
  ac_rfl
/-- formats as tuples with modes -/
def Way.T (w : Way) : FF.D := .tup [.tup [.int w.p, .int w.lo, .int w.hi], .str w.md.s]
structure W7 (low : Int) (w : Way) : Prop where
  p2 : 2 ≤ w.p
  p6 : w.p ≤ 6
  l0 : low ≤ w.lo
  l2 : w.lo ≤ low + 2
  h0 : w.lo ≤ w.hi
  h4 : w.hi ≤ w.lo + 4
theorem W7.fm {low : Int} {w : Way} (a : -6 ≤ low) (b : low ≤ 6) (l : W7 low w) : Fm w.p w.lo w.hi := by
  obtain ⟨p2, p6, l0, l2, h0, h4⟩ := l
  exact ⟨p2, by omega, by omega, h0, by omega⟩
/-- what is told of a rounding -/
def resT : Int × Int ⊕ Int → D
  | .inl y => num y
  | .inr s => .lst [.int s]
theorem V_small {low : Int} {w : Way} {j : Int} (l : W7 low w) (h : (j.natAbs : Int) ≤ mo w.p w.lo w.hi) : -1024 ≤ VI w.p j ∧ VI w.p j ≤ 1024 := by
  obtain ⟨p2, p6, l0, l2, h0, h4⟩ := l
  have f : Fm w.p 0 (w.hi - w.lo) := ⟨p2, by omega, by decide, by omega, by omega⟩
  have m0 := mo_pos' f
  obtain ⟨_, v⟩ := mo_at f
  rw [mo_0] at v m0
  rw [Int.sub_zero, ← VI_pos (by omega), ← HH_at (by omega)] at v
  have a : (2 : Int) ^ w.p.toNat ≤ 2 ^ 6 := pow_le (by omega)
  have b : (2 : Int) ^ (w.hi - w.lo).toNat ≤ 2 ^ 4 := pow_le (by omega)
  have a0 := two_pos w.p.toNat
  have b0 := two_pos (w.hi - w.lo).toNat
  have c : ((2 : Int) ^ w.p.toNat - 1) * 2 ^ (w.hi - w.lo).toNat ≤ (2 ^ 6 - 1) * 2 ^ 4 := Int.le_trans (Int.mul_le_mul_of_nonneg_left b (by omega)) (Int.mul_le_mul_of_nonneg_right (show (2 : Int) ^ w.p.toNat - 1 ≤ 2 ^ 6 - 1 by omega) (by decide))
  have c2 : VI w.p (mo w.p w.lo w.hi) ≤ 1024 := by rw [v]; omega
  have d1 := VI_le (p := w.p) (show j ≤ mo w.p w.lo w.hi by omega)
  have d2 := VI_le (p := w.p) (show -mo w.p w.lo w.hi ≤ j by omega)
  rw [VI_neg] at d2
  omega
theorem pos_of {a b : Int} (h : 0 < a * b) (hb : 0 < b) : 0 < a := by
  apply Classical.byContradiction
  intro z
  have := Int.mul_le_mul_of_nonneg_right (show a ≤ 0 by omega) (Int.le_of_lt hb)
  omega
theorem plc_sg {low k : Int} : sg (plc low k).1 = sg k := by
  obtain ⟨m1, _⟩ := fr_mul (n := k * up low) (d := 24 * dn low)
  have g0 := gg_pos (n := k * up low) (plc_d (low := low))
  have u0 := up_pos (k := low)
  have e : (plc low k).1 * gg (k * up low) (24 * dn low) = k * up low := by rw [Int.mul_comm]; exact m1.symm
  have key : 0 < (plc low k).1 ↔ 0 < k := by
    constructor
    · intro h
      have := Int.mul_pos h g0
      rw [e] at this
      exact pos_of this u0
    · intro h
      have := Int.mul_pos h u0
      rw [← e] at this
      exact pos_of this g0
  unfold sg
  by_cases c : 0 < k
  · rw [if_pos c, if_pos (key.mpr c)]
  · rw [if_neg c, if_neg fun z => c (key.mp z)]
/-- the sign of Overflow in a list -/
def hsp_told : (AH → QE → RE → Prop) → AH → QE → RE → Prop := fun act h Q R => ∀ (Q' : QE) (R' : RE), (∀ d h, Q d h → Q' d h) → (∀ x h, x.c = 4 → Q (.lst [x.v]) h → R' x h) → act h Q' R'
theorem bh_told {Γ : Gam} (s4 : Γ.sub 4 4 = some true) : BodyOkH Γ ir_l_told hsp_told := by
  rintro a act h Q R hs
  refine ⟨rfl, ?_⟩
  show wpSs (Γ.given a act) ir_l_told.body [.val (.ref a), .un, .un] h _
  simp only [ir_l_told, wpSs, wpS, wpE, wpEs, wpAnd, wpOr, wpI, wpF, wpT, wpH, Env.at, Env.put, Env.wipe, Env.nox, Slot.nox, wBin, binI, wCmp, cmpI, wBi, isTy, asL, asLT, bindT, bindTs, intsOf, boolsOf, ixL0, ixL1, ixL2, List.getElem?_cons_zero, List.getElem?_cons_succ, List.nil_append, List.cons_append, List.append_nil, if_true, ite_true, Env.nex, Slot.nex]
  refine ⟨rfl, hs _ _ (fun d h q => ?_) fun x h hx q => ?_⟩
  · exact q
  · have e : (Γ.given a act).sub x.c 4 = some true := by rw [hx]; exact s4
    rw [e]
    exact ⟨List.mem_singleton.mpr hx, (show 1 ≤ SL by decide), q⟩
theorem maxL_mem : ∀ {l : List Int}, l ≠ [] → maxL l ∈ l
  | [], h => absurd rfl h
  | [x], _ => List.mem_singleton.mpr rfl
  | x :: y :: r, _ => by
    have ih := maxL_mem (l := y :: r) (by simp)
    show max x (maxL (y :: r)) ∈ _
    by_cases c : x ≤ maxL (y :: r)
    · rw [Int.max_eq_right c]
      exact List.mem_cons_of_mem _ ih
    · rw [Int.max_eq_left (by omega)]
      exact List.mem_cons_self
/-- numbers are drawn into a list -/
theorem drawL {w : Nat} {h0 : AH} {B : Int} {step : D → AH → (Option D → AH → Prop) → Prop} {K : List D → AH → Prop} (n k : Nat) (hs : ∀ d h k' (K' : Option D → AH → Prop), Wel k' h w → Fr w h0 h → k' ≤ k + n → (∀ y h', -B ≤ y → y ≤ B → Wel (k' + 1) h' w → Fr w h0 h' → K' (some (.int y)) h') → step d h K') :
    ∀ (ds : List D) {l : List Int} {h : AH} {j : Nat}, ds.length + j = n → l.length + ds.length ≤ SL → (∀ x ∈ l, -B ≤ x ∧ x ≤ B) → Wel (k + j) h w → Fr w h0 h → (∀ (l' : List Int) h', l'.length = l.length + ds.length → (∀ x ∈ l', -B ≤ x ∧ x ≤ B) → Wel (k + n) h' w → Fr w h0 h' → K (l'.map .int) h') → loopC step ds (l.map .int) h K
  | [], l, h, j, e, ll, hl, wk, fk, q => by
    have e : j = n := by simpa using e
    subst e
    exact q l h (by simp) hl wk fk
  | d :: r, l, h, j, e, ll, hl, wk, fk, q => by
    rw [List.length_cons] at e ll
    refine hs d h (k + j) _ wk fk (by omega) fun y h' y0 y1 wk' fk' => ?_
    have e2 : l.map D.int ++ [D.int y] = (l ++ [y]).map D.int := by rw [List.map_append]; rfl
    refine ⟨by rw [List.length_map]; omega, ?_⟩
    rw [e2]
    refine drawL n k hs r (l := l ++ [y]) (j := j + 1) (by omega) (by rw [List.length_append]; show l.length + 1 + r.length ≤ SL; omega) (fun x hx => ?_) wk' fk' fun l' h2 e3 hl' wk2 fk2 => q l' h2 (by simp only [List.length_append, List.length_cons, List.length_nil] at e3 ⊢; omega) hl' wk2 fk2
    rcases List.mem_append.mp hx with z | z
    · exact hl x z
    · rw [List.mem_singleton.mp z]
      exact ⟨y0, y1⟩
theorem resT_ok {r : Int × Int ⊕ Int} : eqOk (resT r) (resT r) := by cases r <;> exact ⟨rfl, rfl⟩
theorem resT_eqb {r : Int × Int ⊕ Int} : D.eqb (resT r) (resT r) = true := by
  cases r with
  | inl y => show D.eqb (num y) (num y) = true; rw [num_eqb]; exact decide_eq_true rfl
  | inr s => show D.eqb (.lst [.int s]) (.lst [.int s]) = true; simp [D.eqb, D.eqbs]
theorem plc_nz {low x : Int} (a : -6 ≤ low) (b : low ≤ 6) (h : Sz 60 x) : Nz (plc low x).1 (plc low x).2 := by
  have rd : Red (plc low x).1 (plc low x).2 := fr_red plc_d
  have spw : ∀ n : Nat, n ≤ 6 → Sz 7 (2 ^ n) := fun n hn => by
    have a := pow_le (show n ≤ 6 by omega)
    have := two_pos n
    unfold Sz
    have e : (2 : Int) ^ 6 = 64 := rfl
    have e2 : 2 ^ 7 = 128 := rfl
    omega
  have s24 : Sz 5 24 := by unfold Sz; decide
  exact ⟨rd.1, (((h.mul (spw low.toNat (by omega))).fr1 plc_d).mono (by decide)), (((s24.mul (spw (-low).toNat (by omega))).fr2 plc_d).mono (by decide))⟩
end FF

namespace FF
theorem fr_self {n d : Int} (r : Red n d) : fr n d = (n, d) := by
  obtain ⟨m1, m2⟩ := fr_mul (n := n) (d := d)
  rw [r.2, Int.one_mul] at m1 m2
  exact Prod.ext m1.symm m2.symm
theorem gg_one {n : Int} : gg n 1 = 1 := by
  unfold gg
  simp
theorem red_ud {e : Int} : Red (up e) (dn e) := by
  refine ⟨dn_pos, ?_⟩
  by_cases c : 0 ≤ e
  · have : dn e = 1 := by
      unfold dn
      rw [show (-e).toNat = 0 by omega]
      rfl
    rw [this, gg_one]
  · have : up e = 1 := by
      unfold up
      rw [show e.toNat = 0 by omega]
      rfl
    rw [this]
    unfold gg
    simp
/-! ### numbers as rationals -/
def nq (x : Int × Int) : Rat := (x.1 : Rat) / (x.2 : Rat)
def vq (p lo k : Int) : Rat := ((VI p k * up lo : Int) : Rat) / ((dn lo : Int) : Rat)
theorem cast_pos {d : Int} (h : 0 < d) : (0 : Rat) < (d : Rat) := by exact_mod_cast h
theorem nq_lt {a b : Int × Int} (ha : 0 < a.2) (hb : 0 < b.2) : nq a < nq b ↔ a.1 * b.2 < b.1 * a.2 := by
  have p := cast_pos ha
  have q := cast_pos hb
  unfold nq
  rw [Rat.div_lt_iff p]
  have e : (b.1 : Rat) / b.2 * a.2 = ((b.1 * a.2 : Int) : Rat) / b.2 := by
    rw [Rat.intCast_mul]
    grind
  rw [e, Rat.lt_div_iff q, ← Rat.intCast_mul]
  exact_mod_cast Iff.rfl
theorem nq_eq {a b : Int × Int} (ha : 0 < a.2) (hb : 0 < b.2) : nq a = nq b ↔ a.1 * b.2 = b.1 * a.2 := by
  have h1 := nq_lt ha hb
  have h2 := nq_lt hb ha
  constructor
  · intro h
    have := mt h1.mpr (by grind)
    have := mt h2.mpr (by grind)
    omega
  · intro h
    have := mt h1.mp (by omega)
    have := mt h2.mp (by omega)
    grind
theorem nq_le {a b : Int × Int} (ha : 0 < a.2) (hb : 0 < b.2) : nq a ≤ nq b ↔ a.1 * b.2 ≤ b.1 * a.2 := by
  have h2 := nq_lt hb ha
  constructor
  · intro h
    have := mt h2.mpr (by grind)
    omega
  · intro h
    have := mt h2.mp (by omega)
    grind
theorem nq_fr {n d : Int} (hd : 0 < d) : nq (fr n d) = nq (n, d) := by
  rw [nq_eq (fr_pos hd) hd]
  obtain ⟨m1, m2⟩ := fr_mul (n := n) (d := d)
  generalize fr n d = x at *
  generalize gg n d = g at *
  show x.1 * d = n * x.2
  rw [m1, m2]
  ac_rfl
theorem nq_vR {p lo k : Int} : nq (vR p lo k) = vq p lo k := nq_fr dn_pos
theorem red_eq {n d n' d' : Int} (r : Red n d) (r' : Red n' d') (e : n * d' = n' * d) : (n, d) = (n', d') := by
  have h := fr_of r.1 r'.1 e
  have f : ∀ {a b : Int}, Red a b → fr a b = (a, b) := fun {a b} r => by
    obtain ⟨m1, m2⟩ := fr_mul (n := a) (d := b)
    rw [r.2, Int.one_mul] at m1 m2
    exact Prod.ext m1.symm m2.symm
  rw [f r, f r'] at h
  exact h
theorem nq_inj {a b : Int × Int} (ra : Red a.1 a.2) (rb : Red b.1 b.2) (e : nq a = nq b) : a = b := red_eq ra rb ((nq_eq ra.1 rb.1).mp e)
theorem vq_lt {p lo j k : Int} : vq p lo j < vq p lo k ↔ j < k := by
  have h := nq_lt (a := (VI p j * up lo, dn lo)) (b := (VI p k * up lo, dn lo)) dn_pos dn_pos
  show nq (VI p j * up lo, dn lo) < nq (VI p k * up lo, dn lo) ↔ _
  rw [h]
  show VI p j * up lo * dn lo < VI p k * up lo * dn lo ↔ _
  have m : 0 < up lo * dn lo := Int.mul_pos up_pos dn_pos
  rw [Int.mul_assoc, Int.mul_assoc, Int.mul_comm (VI p j), Int.mul_comm (VI p k), mul_lt_iff m]
  have := VI_le_iff (p := p) (k := k) (j := j)
  omega
/-! ### powers of two -/
def pq (e : Int) : Rat := ((up e : Int) : Rat) / ((dn e : Int) : Rat)
theorem vq_pow {p lo : Int} (s : Nat) : vq p lo (HH p + s * HH p) = pq (lo + (((p - 1).toNat + s : Nat) : Int)) := by
  have hp := HH_pos (p := p)
  have sH := Int.mul_nonneg (show (0 : Int) ≤ s by omega) (Int.le_of_lt hp)
  have e := up_add (a := lo) ((p - 1).toNat + s)
  generalize hm : lo + (((p - 1).toNat + s : Nat) : Int) = m at *
  have v : VI p (HH p + s * HH p) = 2 ^ ((p - 1).toNat + s) := by
    rw [VI_pos (by omega), (VN_at (.inr ⟨Int.le_refl _, by omega⟩)).2, Int.pow_add]
    rfl
  have h := (nq_eq (a := (VI p (HH p + s * HH p) * up lo, dn lo)) (b := (up m, dn m)) dn_pos dn_pos).mpr (by
    show VI p (HH p + s * HH p) * up lo * dn m = up m * dn lo
    rw [v, e])
  exact h
theorem pq_succ {e : Int} : pq (e + 1) = 2 * pq e := by
  have a := up_add (a := e) 1
  have h := (nq_eq (a := (up (e + 1), dn (e + 1))) (b := (2 * up e, dn e)) dn_pos dn_pos).mpr (by
    show up (e + 1) * dn e = 2 * up e * dn (e + 1)
    exact a)
  have h : pq (e + 1) = ((2 * up e : Int) : Rat) / ((dn e : Int) : Rat) := h
  rw [h, Rat.intCast_mul]
  unfold pq
  have : ((2 : Int) : Rat) = 2 := rfl
  grind
theorem pq_pos {e : Int} : 0 < pq e := by
  have a := cast_pos (up_pos (k := e))
  have b := cast_pos (dn_pos (k := e))
  unfold pq
  rw [Rat.lt_div_iff b]
  grind
theorem pq_add {e : Int} : ∀ n : Nat, pq (e + n) = ((2 ^ n : Int) : Rat) * pq e
  | 0 => by
    rw [show e + ((0 : Nat) : Int) = e by omega]
    show pq e = ((1 : Int) : Rat) * pq e
    have : ((1 : Int) : Rat) = 1 := rfl
    grind
  | n + 1 => by
    rw [show e + ((n + 1 : Nat) : Int) = e + n + 1 by omega, pq_succ, pq_add n, two_succ, Rat.intCast_mul]
    have : ((2 : Int) : Rat) = 2 := rfl
    grind
theorem pq_le {a b : Int} (h : a ≤ b) : pq a ≤ pq b := by
  obtain ⟨n, rfl⟩ : ∃ n : Nat, b = a + n := ⟨(b - a).toNat, by omega⟩
  have p := pq_pos (e := a)
  rw [pq_add]
  have : (1 : Rat) ≤ ((2 ^ n : Int) : Rat) := by exact_mod_cast (show (1 : Int) ≤ 2 ^ n by have := two_pos n; omega)
  have := Rat.mul_le_mul_of_nonneg_right this (show (0 : Rat) ≤ pq a by grind)
  grind
theorem pq_two {e : Int} : pq (e + 2) = 4 * pq e := by
  rw [show e + 2 = e + 1 + 1 by omega, pq_succ, pq_succ]
  grind
theorem nq_up {e : Int} : nq (up e, dn e) = pq e := rfl
theorem le2_q {k n d : Int} (hd : 0 < d) : le2 k n d ↔ pq k ≤ nq (n, d) := by
  rw [← nq_up, nq_le dn_pos hd]
  exact Iff.rfl
/-- the unit of a number -/
theorem UEx.of_q {p lo n d e : Int} (hd : 0 < d) (hn : 0 ≤ n) (h0 : lo ≤ e) (h1 : nq (n, d) < pq (e + p)) (h2 : e = lo ∨ pq (e - 1 + p) ≤ nq (n, d)) : UEx p lo n d e := by
  rw [← nab hn] at h1 h2
  refine ⟨h0, fun z => ?_, h2.imp id fun z => (le2_q hd).mpr z⟩
  have := (le2_q hd).mp z
  grind
theorem vq_zero {p lo : Int} : vq p lo 0 = 0 := by
  unfold vq
  rw [VI_pos (by decide), VN_zero, Int.zero_mul]
  have : ((0 : Int) : Rat) = 0 := rfl
  grind
theorem vq_1 {p lo : Int} : vq p lo 1 = pq lo := by
  have hp := HH_pos (p := p)
  have h := (VN_at (p := p) (q := 1) (s := 0) (.inl ⟨rfl, by omega, by omega⟩)).2
  rw [show (1 : Int) + ((0 : Nat) : Int) * HH p = 1 by omega] at h
  unfold vq pq
  rw [VI_pos (by omega), h, Int.pow_zero, Int.one_mul, Int.one_mul]
theorem vq_neg {p lo k : Int} : vq p lo (-k) = -vq p lo k := by
  unfold vq
  rw [VI_neg, Int.neg_mul, Rat.intCast_neg]
  grind
theorem nq_neg {n d : Int} : nq (-n, d) = -nq (n, d) := by
  unfold nq
  show ((-n : Int) : Rat) / _ = _
  rw [Rat.intCast_neg]
  grind
theorem vq_step {p lo k : Int} (h : 0 ≤ k) : vq p lo (k + 1) = vq p lo k + pq (lo + (stp p k : Int)) := by
  have a : vq p lo (k + 1) = vq p lo k + ((2 ^ stp p k : Int) : Rat) * pq lo := by
    unfold vq pq
    rw [VI_pos (by omega), VN_succ h, ← VI_pos h, Int.add_mul, Rat.intCast_add, Rat.intCast_mul]
    grind
  rw [a, pq_add]
theorem FO_q {p lo n d k : Int} (hd : 0 < d) : FO p lo n d k ↔ vq p lo k ≤ nq (n, d) ∧ nq (n, d) < vq p lo (k + 1) := by
  have g : ∀ j, leV p lo j n d ↔ vq p lo j ≤ nq (n, d) := fun j => by
    show _ ↔ nq (VI p j * up lo, dn lo) ≤ nq (n, d)
    rw [nq_le dn_pos hd]
    exact Iff.rfl
  unfold FO
  rw [g, g]
  constructor
  · rintro ⟨a, b⟩
    exact ⟨a, by grind⟩
  · rintro ⟨a, b⟩
    exact ⟨a, by grind⟩
theorem eqV_q {p lo n d k : Int} (hd : 0 < d) : eqV p lo k n d ↔ nq (n, d) = vq p lo k := by
  show VI p k * up lo * d = n * dn lo ↔ nq (n, d) = nq (VI p k * up lo, dn lo)
  rw [nq_eq hd dn_pos]
  show _ ↔ n * dn lo = VI p k * up lo * d
  exact eq_comm
end FF

namespace FF
def ir_check_mode : Fd := ⟨1, 1, (.cons (.ite (.ors (.cons (.not (.isin (.var 0) .str)) (.cons (.cmp .nin (.var 0) (.gcon 5 (.tup [(.str [101, 118, 101, 110]), (.str [97, 119, 97, 121]), (.str [100, 111, 119, 110]), (.str [117, 112]), (.str [122, 101, 114, 111])]))) .nil))) (.cons (.raise 0 (.str [109, 111, 100, 101])) .nil) .nil) .nil)⟩
def ir_rounded : Fd := ⟨3, 3, (.cons (.expr (.call 39 (.cons (.var 0) .nil) [])) (.cons (.expr (.call 88 (.cons (.var 1) .nil) [])) (.cons (.expr (.call 53 (.cons (.str [120]) (.cons (.var 2) .nil)) [])) (.cons (.ret (.call 71 (.cons (.var 0) (.cons (.var 1) (.cons (.var 2) .nil))) [])) .nil))))⟩
def ir_steps_away : Fd := ⟨3, 3, (.cons (.expr (.call 39 (.cons (.var 0) .nil) [])) (.cons (.expr (.call 88 (.cons (.var 1) .nil) [])) (.cons (.expr (.call 53 (.cons (.str [120]) (.cons (.var 2) .nil)) [])) (.cons (.ret (.call 34 (.cons (.call 47 (.cons (.call 71 (.cons (.var 0) (.cons (.var 1) (.cons (.var 2) .nil))) []) (.cons (.var 2) .nil)) []) (.cons (.call 28 (.cons (.call 33 (.cons (.var 0) (.cons (.var 2) .nil)) []) .nil) []) .nil)) [])) .nil))))⟩
end FF

namespace FF
def sp_check_mode : Spec := fun ds h Q _ => ∃ md, ds = [.str (Md.s md)] ∧ Q .non h
theorem b_check_mode {Γ : Gam} : BodyOk Γ ir_check_mode sp_check_mode := by
  rintro ds h Q R ⟨md, rfl, q⟩
  refine ⟨rfl, ?_⟩
  show wpSs Γ ir_check_mode.body [.val (.str md.s)] h _
  simp only [ir_check_mode, wpSs, wpS, wpE, wpEs, wpAnd, wpOr, wpI, wpF, wpT, wpH, Env.at, Env.put, Env.wipe, Env.nox, Slot.nox, wBin, binI, wCmp, cmpI, wBi, isTy, asL, asLT, bindT, bindTs, intsOf, boolsOf, ixL0, ixL1, ixL2, List.getElem?_cons_zero, List.getElem?_cons_succ, List.nil_append, List.cons_append, List.append_nil, if_true, ite_true]
  have e : ([.str [101, 118, 101, 110], .str [97, 119, 97, 121], .str [100, 111, 119, 110], .str [117, 112], .str [122, 101, 114, 111]] : List D).any (D.eqb (.str md.s)) = true := by cases md <;> rfl
  rw [e]
  exact ⟨⟨rfl, rfl⟩, q⟩
def sp_rounded : Spec := fun ds h Q R => ∃ p lo hi md n d, ds = [fmD p lo hi, .str (Md.s md), num (n, d)] ∧ Fm p lo hi ∧ Red n d ∧ Nz n d ∧ ∀ j, RJ md p lo n d j → ((j.natAbs : Int) ≤ mo p lo hi → Q (num (vR p lo j)) h) ∧ (mo p lo hi < (j.natAbs : Int) → R ⟨4, .int (sg n)⟩ h)
theorem b_rounded {Γ : Gam} (g39 : Γ.fn 39 = sp_check_format) (g53 : Γ.fn 53 = sp_check_number) (g71 : Γ.fn 71 = sp_rounded_once) (g88 : Γ.fn 88 = sp_check_mode) : BodyOk Γ ir_rounded sp_rounded := by
  rintro ds h Q R ⟨p, lo, hi, md, n, d, rfl, f, r, z, q⟩
  refine ⟨rfl, ?_⟩
  show wpSs Γ ir_rounded.body [.val (fmD p lo hi), .val (.str md.s), .val (num (n, d))] h _
  simp only [ir_rounded, wpSs, wpS, wpE, wpEs, wpAnd, wpOr, wpI, wpF, wpT, wpH, Env.at, Env.put, Env.wipe, Env.nox, Slot.nox, wBin, binI, wCmp, cmpI, wBi, isTy, asL, asLT, bindT, bindTs, intsOf, boolsOf, ixL0, ixL1, ixL2, List.getElem?_cons_zero, List.getElem?_cons_succ, List.nil_append, List.cons_append, List.append_nil, if_true, ite_true, g39, g53, g71, g88]
  exact ⟨p, lo, hi, rfl, md, rfl, _, n, d, rfl, r, p, lo, hi, md, n, d, rfl, f, z, q⟩
/-- how many units away -/
def sp_steps : Spec := fun ds h Q R => ∃ p lo hi md n d, ds = [fmD p lo hi, .str (Md.s md), num (n, d)] ∧ Fm p lo hi ∧ Red n d ∧ Nz n d ∧ ∀ j, RJ md p lo n d j →
  ((j.natAbs : Int) ≤ mo p lo hi → ∀ e y, UEx p lo n d e → Red y.1 y.2 → nq y * pq e = vq p lo j - nq (n, d) → Q (num y) h) ∧ (mo p lo hi < (j.natAbs : Int) → R ⟨4, .int (sg n)⟩ h)
theorem b_steps {Γ : Gam} (g39 : Γ.fn 39 = sp_check_format) (g53 : Γ.fn 53 = sp_check_number) (g71 : Γ.fn 71 = sp_rounded_once) (g88 : Γ.fn 88 = sp_check_mode) (g28 : Γ.fn 28 = sp_power) (g33 : Γ.fn 33 = sp_unit_exponent) (g34 : Γ.fn 34 = sp_over) (g47 : Γ.fn 47 = sp_minus) : BodyOk Γ ir_steps_away sp_steps := by
  rintro ds h Q R ⟨p, lo, hi, md, n, d, rfl, f, r, z, q⟩
  refine ⟨rfl, ?_⟩
  show wpSs Γ ir_steps_away.body [.val (fmD p lo hi), .val (.str md.s), .val (num (n, d))] h _
  simp only [ir_steps_away, wpSs, wpS, wpE, wpEs, wpAnd, wpOr, wpI, wpF, wpT, wpH, Env.at, Env.put, Env.wipe, Env.nox, Slot.nox, wBin, binI, wCmp, cmpI, wBi, isTy, asL, asLT, bindT, bindTs, intsOf, boolsOf, ixL0, ixL1, ixL2, List.getElem?_cons_zero, List.getElem?_cons_succ, List.nil_append, List.cons_append, List.append_nil, if_true, ite_true, g39, g53, g71, g88, g28, g33, g34, g47]
  refine ⟨p, lo, hi, rfl, md, rfl, _, n, d, rfl, r, p, lo, hi, md, n, d, rfl, f, z, fun j hj => ⟨fun hle => ?_, (q j hj).2⟩⟩
  have vz := vR_nz (k := j) f (by omega) (by omega)
  have sb := vz.sd.mul z.sd
  refine ⟨(vR p lo j).1, (vR p lo j).2, n, d, rfl, vz.d0, z.d0, vz.sd.mono (by decide), z.sd.mono (by decide), vz.sn.mono (by decide), z.sn.mono (by decide), ?_⟩
  refine ⟨p, lo, hi, n, d, rfl, f, z.d0, z.sn, z.sd, fun e he => ?_⟩
  have e0 := he.1
  have e4 := he.le z.d0 (by have := f.lh; have := f.h0; omega) z.sn (by have := f.p2; omega)
  have l0 := f.l0
  refine ⟨e, rfl, by omega, by omega, ?_⟩
  have bd : 0 < (vR p lo j).2 * d := Int.mul_pos vz.d0 z.d0
  obtain ⟨w1, w2⟩ := vR_sz (k := j) f (by omega) (by omega)
  have n1 : Sz 8001 ((vR p lo j).1 * d - n * (vR p lo j).2) := by
    have a := vz.sn.mul z.sd
    have b := z.sn.mul vz.sd
    unfold Sz at *
    rw [Nat.pow_succ]
    omega
  have y1 := n1.fr1 bd
  have y2 := (w2.mul z.sd).fr2 (n := (vR p lo j).1 * d - n * (vR p lo j).2) bd
  have yr : Red (fr ((vR p lo j).1 * d - n * (vR p lo j).2) ((vR p lo j).2 * d)).1 (fr ((vR p lo j).1 * d - n * (vR p lo j).2) ((vR p lo j).2 * d)).2 := fr_red bd
  have yq : nq (fr ((vR p lo j).1 * d - n * (vR p lo j).2) ((vR p lo j).2 * d)) = vq p lo j - nq (n, d) := by
    rw [nq_fr bd, ← nq_vR]
    have a := cast_pos vz.d0
    have b := cast_pos z.d0
    unfold nq
    simp only [Rat.intCast_sub, Rat.intCast_mul]
    grind
  generalize fr ((vR p lo j).1 * d - n * (vR p lo j).2) ((vR p lo j).2 * d) = Y at *
  have ue := Sz.up (k := e) (N := 4000) (by omega)
  have de := Sz.dn (k := e) (N := 4000) (by omega)
  have bu : 0 < Y.2 * up e := Int.mul_pos yr.1 up_pos
  refine ⟨Y.1, Y.2, up e, dn e, rfl, yr.1, up_pos, y2.mono (by decide), ue.mono (by decide), y1.mono (by decide), de.mono (by decide), ?_⟩
  refine (q j hj).1 hle e _ he (fr_red bu) ?_
  rw [nq_fr bu, ← yq]
  have a := cast_pos yr.1
  have b := cast_pos (up_pos (k := e))
  have c := cast_pos (dn_pos (k := e))
  unfold nq pq
  simp only [Rat.intCast_mul]
  grind
end FF

namespace FF
def k_l_right_1 : Ss := .cons (.set 6 (.call 1905 (.cons (.var 9) (.cons (.bin .mul (.bin .mul (.int 24) (.idx (.var 8) (.int 0))) (.call 1906 (.cons (.bi .max (.cons (.int 0) (.cons (.bin .sub (.int 0) (.idx (.var 0) (.int 1))) .nil))) .nil) [])) .nil)) [])) .nil
def k_l_right_2 : Ss := .cons (.set 9 (.bin .mul (.bin .mul (.bin .sub (.var 5) (.var 2)) (.idx (.var 8) (.int 1))) (.call 1906 (.cons (.bi .max (.cons (.int 0) (.cons (.idx (.var 0) (.int 1)) .nil))) .nil) []))) k_l_right_1
def k_l_right_3 : Ss := .cons (.set 8 (.call 46 (.cons (.var 1) (.cons (.var 3) .nil)) [])) k_l_right_2
def k_l_right_4 : Ss := .cons (.ite (.ors (.cons (.cmp .ne (.var 7) (.var 6)) (.cons (.cmp .ne (.lamc 1012 (.callk 87 .nil (.cons (.var 3) (.cons (.var 4) (.cons (.var 1) .nil))) [2, 1, 0])) (.var 6)) .nil))) (.cons (.ret (.bl false)) .nil) .nil) .nil
def k_l_right_5 : Ss := .cons (.ite (.cmp .isn (.var 5) .non) k_l_right_3 .nil) k_l_right_4
def k_l_right_6 : Ss := .cons (.set 7 (.lamc 1012 (.call 87 (.cons (.var 1) (.cons (.var 4) (.cons (.var 3) .nil))) []))) k_l_right_5
def k_l_right_7 : Ss := .cons (.ite (.cmp .ne (.lamc 1012 (.callk 86 .nil (.cons (.var 3) (.cons (.var 4) (.cons (.var 1) .nil))) [2, 1, 0])) (.var 6)) (.cons (.ret (.bl false)) .nil) .nil) k_l_right_6
def k_l_right_8 : Ss := .cons (.ite (.cmp .ne (.lamc 1012 (.call 86 (.cons (.var 1) (.cons (.var 4) (.cons (.var 3) .nil))) [])) (.var 6)) (.cons (.ret (.bl false)) .nil) .nil) k_l_right_7
def k_l_right_9 : Ss := .cons (.set 6 (.ite (.cmp .is_ (.var 5) .non) (.lst (.cons (.ite (.cmp .gt (.var 2) (.int 0)) (.int 1) (.neg (.int 1))) .nil)) (.call 1010 (.cons (.var 5) (.cons (.idx (.var 0) (.int 1)) .nil)) []))) k_l_right_8
def k_l_right_10 : Ss := .cons (.set 5 (.call 1011 (.cons (.var 0) (.cons (.var 4) (.cons (.var 2) (.cons (.int 24) .nil)))) [])) k_l_right_9
def k_l_right_11 : Ss := .cons (.ret (.bl true)) .nil
def k_l_right_12 : Ss := .cons (.for_ (.name 4) (.seq (.lst (.cons (.str [101, 118, 101, 110]) (.cons (.str [97, 119, 97, 121]) (.cons (.str [100, 111, 119, 110]) (.cons (.str [117, 112]) (.cons (.str [122, 101, 114, 111]) .nil))))))) k_l_right_10) k_l_right_11
def k_l_right_13 : Ss := .cons (.set 3 (.call 1010 (.cons (.var 2) (.cons (.idx (.var 0) (.int 1)) .nil)) [])) k_l_right_12
def ir_l_right : Fd := ⟨3, 10, k_l_right_13⟩
def k_law_1 : Ss := .cons (.ite (.cmp .ne (.comp (.name 11) (.seq (.var 5)) (.cons (.not (.call 1013 (.cons (.var 3) (.cons (.var 8) (.cons (.var 11) .nil))) [])) .nil) (.var 11) [11]) (.lst .nil)) (.cons (.ret (.bl false)) .nil) .nil) .nil
def k_law_2 : Ss := .cons (.set 5 (.bin .add (.var 5) (.comp (.name 10) (.rng1 (.int 10)) .nil (.bin .mul (.int 12) (.bin .sub (.call 1900 (.cons (.var 2) (.cons (.bin .fdiv (.var 9) (.int 6)) .nil)) []) (.bin .fdiv (.var 9) (.int 12)))) [10]))) k_law_1
def k_law_3 : Ss := .cons (.set 5 (.bin .add (.var 5) (.comp (.name 10) (.rng1 (.int 20)) .nil (.bin .sub (.call 1900 (.cons (.var 2) (.cons (.bin .mul (.int 2) (.var 9)) .nil)) []) (.var 9)) [10]))) k_law_2
def k_law_4 : Ss := .cons (.set 5 (.bin .add (.var 5) (.lst (.cons (.bin .sub (.var 9) (.int 1)) (.cons (.bin .add (.var 9) (.int 30)) .nil))))) k_law_3
def k_law_5 : Ss := .cons (.set 5 (.lst (.cons (.int 0) (.cons (.int 12) (.cons (.neg (.int 12)) (.cons (.int 24) (.cons (.int 36) (.cons (.var 4) (.cons (.bin .sub (.int 0) (.var 4)) (.cons (.bin .sub (.var 4) (.int 1)) (.cons (.bin .sub (.int 1) (.var 4)) (.cons (.bin .add (.var 4) (.int 1)) (.cons (.var 9) (.cons (.bin .sub (.int 0) (.var 9)) .nil)))))))))))))) k_law_4
def k_law_6 : Ss := .cons (.set 4 (.bin .sub (.var 9) (.bin .mul (.int 12) (.call 1906 (.cons (.bin .sub (.idx (.var 3) (.int 2)) (.var 7)) .nil) [])))) k_law_5
def k_law_7 : Ss := .cons (.setT (.cons (.name 8) (.cons (.name 9) .nil)) (.tup (.cons (.make 43 2 (.cons (.var 6) (.cons (.var 7) (.cons (.idx (.var 3) (.int 2)) .nil))) true) (.cons (.bin .mul (.int 24) (.call 1906 (.cons (.bin .sub (.bin .add (.var 6) (.idx (.var 3) (.int 2))) (.var 7)) .nil) [])) .nil)))) k_law_6
def k_law_8 : Ss := .cons (.set 3 (.tup (.cons (.var 6) (.cons (.var 7) (.cons (.bin .add (.var 7) (.call 1900 (.cons (.var 2) (.cons (.int 5) .nil)) [])) .nil))))) k_law_7
def k_law_9 : Ss := .cons (.setP 6 7 (.bin .add (.int 2) (.call 1900 (.cons (.var 2) (.cons (.int 4) .nil)) [])) (.bin .sub (.call 1900 (.cons (.var 2) (.cons (.int 12) .nil)) []) (.int 6))) k_law_8
def k_law_10 : Ss := .cons (.set 2 (.call 1901 (.cons (.var 1) .nil) [])) k_law_9
def k_law_11 : Ss := .cons (.ret (.bl true)) .nil
def k_law_12 : Ss := .cons (.for_ (.name 1) (.seq (.bin .add (.lst (.cons (.call 1903 (.cons (.var 0) (.cons (.int 0) .nil)) []) .nil)) (.slOf (.var 0) (.int 1) (.int 5)))) k_law_10) k_law_11
def ir_law : Fd := ⟨1, 12, k_law_12⟩
end FF

namespace FF
theorem far_of {md : Md} {p lo hi n d j : Int} (f : Fm p lo hi) (d0 : 0 < d) (fa : le2 (hi + p) (n.natAbs : Int) d) (r : RJ md p lo n d j) : mo p lo hi < (j.natAbs : Int) := by
  by_cases c : 0 ≤ n
  · have := Rd.far f d0 c fa r
    omega
  · obtain ⟨k, rfl⟩ : ∃ k, n = -k := ⟨-n, by omega⟩
    rw [Int.natAbs_neg] at fa
    have r' : RJ md.ng p lo k d (-j) := by
      have : RJ md.ng p lo (-(-k)) d (-j) := RJ.neg (md := md.ng) (by rw [Md.ng_ng]; exact r)
      rw [Int.neg_neg] at this
      exact this
    have := Rd.far f d0 (show 0 ≤ k by omega) fa r'
    omega
theorem num_go3 {x : Int × Int} {A B : Prop} (k : B) : eqOk (num x) (num x) ∧ if (!D.eqb (num x) (num x)) = true then A else B := by
  refine ⟨num_ok, ?_⟩
  rw [num_eqb, decide_eq_true rfl]
  exact k
def sp_l_right6 : Spec := fun ds h Q _ => ∃ p lo hi k, ds = [.tup [.int p, .int lo, .int hi], fmD p lo hi, .int k] ∧ 2 ≤ p ∧ p ≤ 6 ∧ -6 ≤ lo ∧ lo ≤ 5 ∧ lo ≤ hi ∧ hi ≤ lo + 4 ∧ Sz 40 k ∧ Q (.bl true) h
theorem b_l_right6 {Γ : Gam} (hp : Γ.fn 1906 = sp_l_power) (hn : Γ.fn 1905 = sp_fraction) (h1 : Γ.fn 1011 = sp_l_nearest) (h0 : Γ.fn 1010 = sp_l_placed) (g46 : Γ.fn 46 = sp_unit) (g86 : Γ.fn 86 = sp_rounded) (g87 : Γ.fn 87 = sp_steps) (ht : Γ.hf 1012 = hsp_told) : BodyOk Γ ir_l_right sp_l_right6 := by
  rintro ds h Q R ⟨p, lo, hi, k, rfl, p2, p6, l0, l5, lh, h4, zk, q⟩
  refine ⟨rfl, ?_⟩
  show wpSs Γ ir_l_right.body [.val (.tup [.int p, .int lo, .int hi]), .val (fmD p lo hi), .val (.int k), .un, .un, .un, .un, .un, .un, .un] h (PBd Q R)
  have f : Fm p lo hi := ⟨p2, by omega, by omega, lh, by omega⟩
  have s24 : Sz 5 24 := by unfold Sz; decide
  have zk6 : Sz 60 k := zk.mono (by decide)
  simp only [ir_l_right, k_l_right_13, wpSs, wpS, wpE, wpEs, wpAnd, wpOr, wpI, wpF, wpT, wpH, Env.at, Env.put, Env.wipe, Env.nox, Slot.nox, wBin, binI, wCmp, cmpI, wBi, isTy, asL, asLT, bindT, bindTs, intsOf, boolsOf, ixL0, ixL1, ixL2, List.getElem?_cons_zero, List.getElem?_cons_succ, List.nil_append, List.cons_append, List.append_nil, if_true, ite_true, h0]
  refine ⟨k, lo, rfl, zk6, by omega, by omega, ?_⟩
  have rd : Red (plc lo k).1 (plc lo k).2 := fr_red plc_d
  have nz : Nz (plc lo k).1 (plc lo k).2 := plc_nz l0 (by omega) zk6
  simp only [k_l_right_12, wpSs, wpS, wpE, wpEs, wpAnd, wpOr, wpI, wpF, wpT, wpH, Env.at, Env.put, Env.wipe, Env.nox, Slot.nox, wBin, binI, wCmp, cmpI, wBi, isTy, asL, asLT, bindT, bindTs, intsOf, boolsOf, ixL0, ixL1, ixL2, List.getElem?_cons_zero, List.getElem?_cons_succ, List.nil_append, List.cons_append, List.append_nil, if_true, ite_true]
  refine ⟨(show 5 ≤ SL by decide), ?_⟩
  have em : ([.str [101, 118, 101, 110], .str [97, 119, 97, 121], .str [100, 111, 119, 110], .str [117, 112], .str [122, 101, 114, 111]] : List D) = ([.even, .away, .down, .up, .zero] : List Md).map fun md => .str md.s := rfl
  rw [em]
  refine forL_inv _ (I := fun _ σ h' => h' = h ∧ ∃ s4 s5 s6 s7 s8 s9, σ = [.val (.tup [.int p, .int lo, .int hi]), .val (fmD p lo hi), .val (.int k), .val (num (plc lo k)), s4, s5, s6, s7, s8, s9]) (j := 0) (fun d hd' j σ h' hI P' hn' _ hrt hR => ?_) ⟨rfl, _, _, _, _, _, _, rfl⟩ ?_
  · obtain ⟨rfl, s4, s5, s6, s7, s8, s9, rfl⟩ := hI
    obtain ⟨md, _, rfl⟩ := List.mem_map.mp hd'
    simp only [k_l_right_10, wpSs, wpS, wpE, wpEs, wpAnd, wpOr, wpI, wpF, wpT, wpH, Env.at, Env.put, Env.wipe, Env.nox, Slot.nox, wBin, binI, wCmp, cmpI, wBi, isTy, asL, asLT, bindT, bindTs, intsOf, boolsOf, ixL0, ixL1, ixL2, List.getElem?_cons_zero, List.getElem?_cons_succ, List.nil_append, List.cons_append, List.append_nil, if_true, ite_true, h1]
    refine ⟨p, lo, hi, md, k, 24, rfl, p2, p6, lh, h4, by decide, s24.mono (by decide), zk6, fun j hj => ?_⟩
    have rj : RJ md p lo (plc lo k).1 (plc lo k).2 j := by
      have := (RJ.place (md := md) (p := p) (low := lo) (k := k) (j := j) (t := 0)).mpr hj
      rw [show lo + ((0 : Nat) : Int) = lo by omega] at this
      exact this
    -- what rounded tells
    have ask : ∀ (r : Int × Int ⊕ Int) (Q : QE) (R : RE), ((j.natAbs : Int) ≤ mo p lo hi → r = .inl (vR p lo j)) → (mo p lo hi < (j.natAbs : Int) → r = .inr (sg k)) → Q (resT r) h' → hsp_told (fun h Q R => sp_rounded [fmD p lo hi, .str md.s, num (plc lo k)] h Q R) h' Q R := by
      intro r Q R c1 c2 qq Q' R' kq kr
      refine ⟨p, lo, hi, md, (plc lo k).1, (plc lo k).2, rfl, f, rd, nz, fun j' hj' => ?_⟩
      obtain rfl := rj.uniq hj'
      refine ⟨fun hle => ?_, fun hgt => ?_⟩
      · rw [c1 hle] at qq
        exact kq _ _ qq
      · rw [c2 hgt] at qq
        refine kr _ _ rfl ?_
        rw [plc_sg]
        exact qq
    have ev : plc lo (VI p j * 24) = vR p lo j := by
      have := plc_v (p := p) (low := lo) (j := j) (t := 0)
      rw [show lo + ((0 : Nat) : Int) = lo by omega, Int.pow_zero, Int.mul_one] at this
      exact this
    have vsm : -1024 ≤ VI p j → VI p j ≤ 1024 → Sz 60 (VI p j * 24) := fun a b => by unfold Sz; omega
    have w7 : W7 lo ⟨p, lo, hi, md⟩ := ⟨p2, p6, Int.le_refl _, by show lo ≤ lo + 2; omega, lh, h4⟩
    have key8 : ∀ (pl : D) (r : Int × Int ⊕ Int) (s7 s8 s9 : Slot), (pl = .int (VI p j * 24) ∧ r = .inl (vR p lo j) ∧ (j.natAbs : Int) ≤ mo p lo hi) ∨ (pl = .non ∧ r = .inr (sg k) ∧ mo p lo hi < (j.natAbs : Int)) →
        wpSs Γ k_l_right_8 [.val (.tup [.int p, .int lo, .int hi]), .val (fmD p lo hi), .val (.int k), .val (num (plc lo k)), .val (.str md.s), .val pl, .val (resT r), s7, s8, s9] h' P' := by
      intro pl r s7 s8 s9 hc
      have c1 : (j.natAbs : Int) ≤ mo p lo hi → r = .inl (vR p lo j) := fun a => by
        rcases hc with ⟨_, b, _⟩ | ⟨_, _, b⟩
        · exact b
        · omega
      have c2 : mo p lo hi < (j.natAbs : Int) → r = .inr (sg k) := fun a => by
        rcases hc with ⟨_, _, b⟩ | ⟨_, b, _⟩
        · omega
        · exact b
      simp only [k_l_right_8, wpSs, wpS, wpE, wpEs, wpAnd, wpOr, wpI, wpF, wpT, wpH, Env.at, Env.put, Env.wipe, Env.nox, Slot.nox, wBin, binI, wCmp, cmpI, wBi, isTy, asL, asLT, bindT, bindTs, intsOf, boolsOf, ixL0, ixL1, ixL2, List.getElem?_cons_zero, List.getElem?_cons_succ, List.nil_append, List.cons_append, List.append_nil, if_true, ite_true, ht, g86]
      refine ask r _ _ c1 c2 ⟨resT_ok, ?_⟩
      rw [resT_eqb]
      simp only [Bool.not_true, Bool.false_eq_true, if_false]
      simp only [k_l_right_7, wpSs, wpS, wpE, wpEs, wpAnd, wpOr, wpI, wpF, wpT, wpH, Env.at, Env.put, Env.wipe, Env.nox, Slot.nox, wBin, binI, wCmp, cmpI, wBi, isTy, asL, asLT, bindT, bindTs, intsOf, boolsOf, ixL0, ixL1, ixL2, List.getElem?_cons_zero, List.getElem?_cons_succ, List.nil_append, List.cons_append, List.append_nil, if_true, ite_true, ht, g86]
      refine ask r _ _ c1 c2 ⟨resT_ok, ?_⟩
      rw [resT_eqb]
      simp only [Bool.not_true, Bool.false_eq_true, if_false]
      simp only [k_l_right_6, wpSs, wpS, wpE, wpEs, wpAnd, wpOr, wpI, wpF, wpT, wpH, Env.at, Env.put, Env.wipe, Env.nox, Slot.nox, wBin, binI, wCmp, cmpI, wBi, isTy, asL, asLT, bindT, bindTs, intsOf, boolsOf, ixL0, ixL1, ixL2, List.getElem?_cons_zero, List.getElem?_cons_succ, List.nil_append, List.cons_append, List.append_nil, if_true, ite_true, ht, g87]
      rcases hc with ⟨rfl, rfl, hle⟩ | ⟨rfl, rfl, hgt⟩
      · obtain ⟨e, he⟩ := UEx.ex (p := p) (lo := lo) (n := (plc lo k).1) rd.1
        have nf : ¬ le2 (hi + p) ((plc lo k).1.natAbs : Int) (plc lo k).2 := fun z => by
          have := far_of f rd.1 z rj
          omega
        have e0 := he.1
        have e1 : e ≤ hi := by
          apply Classical.byContradiction
          intro w
          rcases he.2.2 with y | y
          · omega
          · exact nf (y.mono (by omega) (Int.le_of_lt rd.1))
        -- what steps_away tells
        obtain ⟨y, hy⟩ : ∃ y, fr ((VI p j * 24 - k) * dn e * up lo) (24 * up e * dn lo) = y := ⟨_, rfl⟩
        have y0 : 0 < 24 * up e * dn lo := Int.mul_pos (by have := up_pos (k := e); omega) dn_pos
        have yr : Red y.1 y.2 := by rw [← hy]; exact fr_red y0
        have xq : nq (plc lo k) * 24 = (k : Rat) * pq lo := by
          unfold plc
          rw [nq_fr plc_d]
          have b := cast_pos (dn_pos (k := lo))
          unfold nq pq
          simp only [Rat.intCast_mul]
          have : ((24 : Int) : Rat) = 24 := rfl
          rw [this]
          grind
        have vq' : vq p lo j = (VI p j : Rat) * pq lo := by
          have b := cast_pos (dn_pos (k := lo))
          unfold vq pq
          simp only [Rat.intCast_mul]
          grind
        have yq : nq y * pq e = vq p lo j - nq (plc lo k) := by
          rw [← hy, nq_fr y0, vq']
          have a := cast_pos (up_pos (k := e))
          have b := cast_pos (dn_pos (k := lo))
          have c := cast_pos (dn_pos (k := e))
          have x1 : nq (plc lo k) = (k : Rat) * pq lo / 24 := by grind
          rw [x1]
          unfold nq pq
          simp only [Rat.intCast_mul, Rat.intCast_sub]
          have : ((24 : Int) : Rat) = 24 := rfl
          rw [this]
          grind
        have E0 := pq_pos (e := e)
        have steps : ∀ (Q : QE) (R : RE), Q (num y) h' → hsp_told (fun h Q R => sp_steps [fmD p lo hi, .str md.s, num (plc lo k)] h Q R) h' Q R := by
          intro Q R qq Q' R' kq kr
          refine ⟨p, lo, hi, md, (plc lo k).1, (plc lo k).2, rfl, f, rd, nz, fun j' hj' => ?_⟩
          obtain rfl := rj.uniq hj'
          refine ⟨fun _ e' y' he' hy' hq' => kq _ _ ?_, fun w => by omega⟩
          obtain rfl := he.uniq rd.1 he'
          have e2 : nq y' * pq e = nq y * pq e := by rw [hq', yq]
          have e3 : nq y' = nq y := by
            have := congrArg (fun z : Rat => z / pq e) e2
            grind
          rw [nq_inj hy' yr e3]
          exact qq
        refine steps _ _ ?_
        simp only [k_l_right_5, wpSs, wpS, wpE, wpEs, wpAnd, wpOr, wpI, wpF, wpT, wpH, Env.at, Env.put, Env.wipe, Env.nox, Slot.nox, wBin, binI, wCmp, cmpI, wBi, isTy, asL, asLT, bindT, bindTs, intsOf, boolsOf, ixL0, ixL1, ixL2, List.getElem?_cons_zero, List.getElem?_cons_succ, List.nil_append, List.cons_append, List.append_nil, if_true, ite_true, D.isNon]
        simp only [Bool.not_false, if_true]
        simp only [k_l_right_3, wpSs, wpS, wpE, wpEs, wpAnd, wpOr, wpI, wpF, wpT, wpH, Env.at, Env.put, Env.wipe, Env.nox, Slot.nox, wBin, binI, wCmp, cmpI, wBi, isTy, asL, asLT, bindT, bindTs, intsOf, boolsOf, ixL0, ixL1, ixL2, List.getElem?_cons_zero, List.getElem?_cons_succ, List.nil_append, List.cons_append, List.append_nil, if_true, ite_true, g46]
        refine ⟨p, lo, hi, (plc lo k).1, (plc lo k).2, rfl, f, rd, nz, nf, fun e' he' => ?_⟩
        obtain rfl := he.uniq rd.1 he'
        have vs0 := V_small w7 hle
        have zd : Sz 61 (VI p j * 24 - k) := by
          have := vsm vs0.1 vs0.2
          unfold Sz at *
          rw [Nat.pow_succ]
          omega
        have ze := Sz.dn (k := e) (N := 200) (by omega)
        have zu := Sz.up (k := e) (N := 200) (by omega)
        have zl := Sz.up (k := lo) (N := 200) (by omega)
        have zm := Sz.dn (k := lo) (N := 200) (by omega)
        simp only [k_l_right_2, wpSs, wpS, wpE, wpEs, wpAnd, wpOr, wpI, wpF, wpT, wpH, Env.at, Env.put, Env.wipe, Env.nox, Slot.nox, wBin, binI, wCmp, cmpI, wBi, isTy, asL, asLT, bindT, bindTs, intsOf, boolsOf, ixL0, ixL1, ixL2, List.getElem?_cons_zero, List.getElem?_cons_succ, List.nil_append, List.cons_append, List.append_nil, if_true, ite_true, hp]
        refine ⟨mul_ok zd ze (by decide), max 0 lo, rfl, by omega, by omega, ?_⟩
        dsimp only
        rw [show (2 : Int) ^ (max 0 lo).toNat = up lo by unfold up; congr 1; omega]
        refine ⟨mul_ok (zd.mul ze) zl (by decide), ?_⟩
        simp only [k_l_right_1, wpSs, wpS, wpE, wpEs, wpAnd, wpOr, wpI, wpF, wpT, wpH, Env.at, Env.put, Env.wipe, Env.nox, Slot.nox, wBin, binI, wCmp, cmpI, wBi, isTy, asL, asLT, bindT, bindTs, intsOf, boolsOf, ixL0, ixL1, ixL2, List.getElem?_cons_zero, List.getElem?_cons_succ, List.nil_append, List.cons_append, List.append_nil, if_true, ite_true, hp, hn]
        refine ⟨mul_ok s24 zu (by decide), max 0 (0 - lo), rfl, by omega, by omega, ?_⟩
        dsimp only
        rw [show (2 : Int) ^ (max 0 (0 - lo)).toNat = dn lo by unfold dn; congr 1; omega]
        refine ⟨mul_ok (s24.mul zu) zm (by decide), (VI p j * 24 - k) * dn e * up lo, 24 * up e * dn lo, rfl, y0, ((s24.mul zu).mul zm).mono (by decide), ?_⟩
        rw [hy]
        simp only [k_l_right_4, wpSs, wpS, wpE, wpEs, wpAnd, wpOr, wpI, wpF, wpT, wpH, Env.at, Env.put, Env.wipe, Env.nox, Slot.nox, wBin, binI, wCmp, cmpI, wBi, isTy, asL, asLT, bindT, bindTs, intsOf, boolsOf, ixL0, ixL1, ixL2, List.getElem?_cons_zero, List.getElem?_cons_succ, List.nil_append, List.cons_append, List.append_nil, if_true, ite_true, ht, g87]
        refine num_go3 ?_
        refine steps _ _ (num_go3 ?_)
        exact hn' _ _ ⟨rfl, _, _, _, _, _, _, rfl⟩
      · have steps : ∀ (Q : QE) (R : RE), Q (.lst [.int (sg k)]) h' → hsp_told (fun h Q R => sp_steps [fmD p lo hi, .str md.s, num (plc lo k)] h Q R) h' Q R := by
          intro Q R qq Q' R' kq kr
          refine ⟨p, lo, hi, md, (plc lo k).1, (plc lo k).2, rfl, f, rd, nz, fun j' hj' => ?_⟩
          obtain rfl := rj.uniq hj'
          refine ⟨fun hle => by omega, fun _ => kr _ _ rfl ?_⟩
          rw [plc_sg]
          exact qq
        refine steps _ _ ?_
        simp only [k_l_right_5, wpSs, wpS, wpE, wpEs, wpAnd, wpOr, wpI, wpF, wpT, wpH, Env.at, Env.put, Env.wipe, Env.nox, Slot.nox, wBin, binI, wCmp, cmpI, wBi, isTy, asL, asLT, bindT, bindTs, intsOf, boolsOf, ixL0, ixL1, ixL2, List.getElem?_cons_zero, List.getElem?_cons_succ, List.nil_append, List.cons_append, List.append_nil, if_true, ite_true, D.isNon]
        simp only [Bool.not_true, Bool.false_eq_true, if_false]
        simp only [k_l_right_4, wpSs, wpS, wpE, wpEs, wpAnd, wpOr, wpI, wpF, wpT, wpH, Env.at, Env.put, Env.wipe, Env.nox, Slot.nox, wBin, binI, wCmp, cmpI, wBi, isTy, asL, asLT, bindT, bindTs, intsOf, boolsOf, ixL0, ixL1, ixL2, List.getElem?_cons_zero, List.getElem?_cons_succ, List.nil_append, List.cons_append, List.append_nil, if_true, ite_true, ht, g87]
        refine ⟨resT_ok (r := .inr (sg k)), ?_⟩
        rw [show D.eqb (.lst [.int (sg k)]) (resT (.inr (sg k))) = true from resT_eqb (r := .inr (sg k))]
        simp only [Bool.not_true, Bool.false_eq_true, if_false]
        refine steps _ _ ⟨resT_ok (r := .inr (sg k)), ?_⟩
        rw [show D.eqb (.lst [.int (sg k)]) (resT (.inr (sg k))) = true from resT_eqb (r := .inr (sg k))]
        simp only [Bool.not_true, Bool.false_eq_true, if_false]
        exact hn' _ _ ⟨rfl, _, _, _, _, _, _, rfl⟩
    have sgk : (if 0 < k then (1 : Int) else -1) = sg k := rfl
    constructor
    · intro hle
      have vs0 := V_small w7 hle
      simp only [k_l_right_9, wpSs, wpS, wpE, wpEs, wpAnd, wpOr, wpI, wpF, wpT, wpH, Env.at, Env.put, Env.wipe, Env.nox, Slot.nox, wBin, binI, wCmp, cmpI, wBi, isTy, asL, asLT, bindT, bindTs, intsOf, boolsOf, ixL0, ixL1, ixL2, List.getElem?_cons_zero, List.getElem?_cons_succ, List.nil_append, List.cons_append, List.append_nil, if_true, ite_true, D.isNon, h0]
      rw [if_neg (by decide)]
      refine ⟨_, lo, rfl, vsm vs0.1 vs0.2, by omega, by omega, ?_⟩
      rw [ev]
      exact key8 _ (.inl (vR p lo j)) _ _ _ (.inl ⟨rfl, rfl, hle⟩)
    · intro hgt
      simp only [k_l_right_9, wpSs, wpS, wpE, wpEs, wpAnd, wpOr, wpI, wpF, wpT, wpH, Env.at, Env.put, Env.wipe, Env.nox, Slot.nox, wBin, binI, wCmp, cmpI, wBi, isTy, asL, asLT, bindT, bindTs, intsOf, boolsOf, ixL0, ixL1, ixL2, List.getElem?_cons_zero, List.getElem?_cons_succ, List.nil_append, List.cons_append, List.append_nil, if_true, ite_true, D.isNon, h0]
      have g := key8 .non (.inr (sg k)) s7 s8 s9 (.inr ⟨rfl, rfl, hgt⟩)
      unfold sg at g
      by_cases c : 0 < k
      · rw [decide_eq_true c, if_pos rfl]
        rw [if_pos c] at g
        exact ⟨(show 1 ≤ SL by decide), g⟩
      · rw [decide_eq_false c, if_neg (by decide)]
        rw [if_neg c] at g
        exact ⟨(show 1 ≤ SL by decide), g⟩
  · rintro σ h' ⟨rfl, s4, s5, s6, s7, s8, s9, rfl⟩
    simp only [k_l_right_11, wpSs, wpS, wpE, wpEs, wpAnd, wpOr, wpI, wpF, wpT, wpH, Env.at, Env.put, Env.wipe, Env.nox, Slot.nox, wBin, binI, wCmp, cmpI, wBi, isTy, asL, asLT, bindT, bindTs, intsOf, boolsOf, ixL0, ixL1, ixL2, List.getElem?_cons_zero, List.getElem?_cons_succ, List.nil_append, List.cons_append, List.append_nil, if_true, ite_true]
    exact q
theorem skipC {step : D → AH → (Option D → AH → Prop) → Prop} {h : AH} {K : List D → AH → Prop} : ∀ {ds acc : List D}, (∀ d ∈ ds, ∀ K : Option D → AH → Prop, K none h → step d h K) → K acc h → loopC step ds acc h K
  | [], acc, _, q => q
  | d :: r, acc, hs, q => hs d List.mem_cons_self _ (skipC (ds := r) (fun e he => hs e (List.mem_cons_of_mem _ he)) q)
theorem k6_e {Γ : Gam} (hp : Γ.fn 1906 = sp_l_power) {x0 x1 x2 x4 s5 s8 s10 s11 : Slot} {lo hi p top : Int} {h4 : AH} {Q : QE} {R : RE} (H : 0 ≤ hi - lo) (H2 : hi - lo ≤ 4) (K1 : mulOk 12 (2 ^ (hi - lo).toNat)) (K : Q (.int (top - 12 * 2 ^ (hi - lo).toNat)) h4) :
    wpE Γ (.bin .sub (.var 9) (.bin .mul (.int 12) (.call 1906 (.cons (.bin .sub (.idx (.var 3) (.int 2)) (.var 7)) .nil) []))) [x0, x1, x2, .val (.tup [.int p, .int lo, .int hi]), x4, s5, .val (.int p), .val (.int lo), s8, .val (.int top), s10, s11] h4 Q R := by
  simp only [wpSs, wpS, wpE, wpEs, wpAnd, wpOr, wpI, wpF, wpT, wpH, Env.at, Env.put, Env.wipe, Env.nox, Slot.nox, wBin, binI, wCmp, cmpI, wBi, isTy, asL, asLT, bindT, bindTs, intsOf, boolsOf, ixL0, ixL1, ixL2, List.getElem?_cons_zero, List.getElem?_cons_succ, List.nil_append, List.cons_append, List.append_nil, if_true, ite_true, hp]
  exact ⟨hi - lo, rfl, by omega, by omega, K1, K⟩
def sp_law : Spec := fun ds h Q _ => ∃ l : List Int, ds = [.lst (l.map .int)] ∧ l.length < 1000 ∧ ∀ h', Q (.bl true) h'
theorem b_law {Γ : Gam} (hd : Γ.fn 1900 = sp_draw) (hs : Γ.fn 1901 = sp_well) (hc : Γ.fn 1903 = sp_cell_at) (hp : Γ.fn 1906 = sp_l_power) (g43 : Γ.fn 43 = sp_Format_init) (hr : Γ.fn 1013 = sp_l_right6) : BodyOk Γ ir_law sp_law := by
  rintro ds h Q R ⟨l, rfl, hl, q⟩
  refine ⟨rfl, ?_⟩
  show wpSs Γ ir_law.body [.val (.lst (l.map .int)), .un, .un, .un, .un, .un, .un, .un, .un, .un, .un, .un] h _
  simp only [ir_law, k_law_12, wpSs, wpS, wpE, wpEs, wpAnd, wpOr, wpI, wpF, wpT, wpH, Env.at, Env.put, Env.wipe, Env.nox, Slot.nox, wBin, binI, wCmp, cmpI, wBi, isTy, asL, asLT, bindT, bindTs, intsOf, boolsOf, ixL0, ixL1, ixL2, List.getElem?_cons_zero, List.getElem?_cons_succ, List.nil_append, List.cons_append, List.append_nil, if_true, ite_true, hc]
  refine ⟨l, 0, rfl, by omega, by decide, fun c0 => ?_⟩
  refine ⟨(show 1 ≤ SL by decide), ?_, ?_⟩
  · rw [List.length_drop, List.length_take, List.length_map]
    show 1 + _ ≤ 16777216
    omega
  rw [← List.map_take, ← List.map_drop]
  generalize (l.take (slP (l.map D.int).length 5)).drop (slP (l.map D.int).length 1) = m
  refine forL_inv _ (I := fun _ σ _ => ∃ s1 s2 s3 s4 s5 s6 s7 s8 s9 s10 s11, σ = [.val (.lst (l.map .int)), s1, s2, s3, s4, s5, s6, s7, s8, s9, s10, s11]) (j := 0) (fun d hd' j σ h' hI P' hn' _ hrt hR => ?_) ⟨_, _, _, _, _, _, _, _, _, _, _, rfl⟩ ?_
  · obtain ⟨s1, s2, s3, s4, s5, s6, s7, s8, s9, s10, s11, rfl⟩ := hI
    obtain ⟨c, rfl⟩ : ∃ c, d = .int c := by
      rcases List.mem_cons.mp hd' with z | z
      · exact ⟨c0, z⟩
      · obtain ⟨c, _, rfl⟩ := List.mem_map.mp z
        exact ⟨c, rfl⟩
    simp only [k_law_10, wpSs, wpS, wpE, wpEs, wpAnd, wpOr, wpI, wpF, wpT, wpH, Env.at, Env.put, Env.wipe, Env.nox, Slot.nox, wBin, binI, wCmp, cmpI, wBi, isTy, asL, asLT, bindT, bindTs, intsOf, boolsOf, ixL0, ixL1, ixL2, List.getElem?_cons_zero, List.getElem?_cons_succ, List.nil_append, List.cons_append, List.append_nil, if_true, ite_true, hs]
    refine ⟨c, rfl, fun w h1 _ w1 _ => ?_⟩
    simp only [k_law_9, wpSs, wpS, wpE, wpEs, wpAnd, wpOr, wpI, wpF, wpT, wpH, Env.at, Env.put, Env.wipe, Env.nox, Slot.nox, wBin, binI, wCmp, cmpI, wBi, isTy, asL, asLT, bindT, bindTs, intsOf, boolsOf, ixL0, ixL1, ixL2, List.getElem?_cons_zero, List.getElem?_cons_succ, List.nil_append, List.cons_append, List.append_nil, if_true, ite_true, hd]
    refine ⟨w, _, _, rfl, by decide, by decide, w1, by omega, fun x0 h2 a0 b0 w2 f2 => ?_⟩
    refine ⟨w, _, _, rfl, by decide, by decide, w2, by omega, fun x1 h3 a1 b1 w3 f3 => ?_⟩
    simp only [wpSs, wpS, wpE, wpEs, wpAnd, wpOr, wpI, wpF, wpT, wpH, Env.at, Env.put, Env.wipe, Env.nox, Slot.nox, wBin, binI, wCmp, cmpI, wBi, isTy, asL, asLT, bindT, bindTs, intsOf, boolsOf, ixL0, ixL1, ixL2, List.getElem?_cons_zero, List.getElem?_cons_succ, List.nil_append, List.cons_append, List.append_nil, if_true, ite_true]
    obtain ⟨p, hp'⟩ : ∃ p, 2 + x0 = p := ⟨_, rfl⟩
    obtain ⟨lo, hlo⟩ : ∃ lo, x1 - 6 = lo := ⟨_, rfl⟩
    rw [hp', hlo]
    simp only [k_law_8, wpSs, wpS, wpE, wpEs, wpAnd, wpOr, wpI, wpF, wpT, wpH, Env.at, Env.put, Env.wipe, Env.nox, Slot.nox, wBin, binI, wCmp, cmpI, wBi, isTy, asL, asLT, bindT, bindTs, intsOf, boolsOf, ixL0, ixL1, ixL2, List.getElem?_cons_zero, List.getElem?_cons_succ, List.nil_append, List.cons_append, List.append_nil, if_true, ite_true, hd]
    refine ⟨w, _, _, rfl, by decide, by decide, w3, by omega, fun x2 h4 a2 b2 w4 f4 => ?_⟩
    obtain ⟨hi, hhi⟩ : ∃ hi, lo + x2 = hi := ⟨_, rfl⟩
    dsimp only
    rw [hhi]
    refine ⟨(show 3 ≤ SL by decide), ?_⟩
    have f : Fm p lo hi := ⟨by omega, by omega, by omega, by omega, by omega⟩
    simp only [k_law_7, wpSs, wpS, wpE, wpEs, wpAnd, wpOr, wpI, wpF, wpT, wpH, Env.at, Env.put, Env.wipe, Env.nox, Slot.nox, wBin, binI, wCmp, cmpI, wBi, isTy, asL, asLT, bindT, bindTs, intsOf, boolsOf, ixL0, ixL1, ixL2, List.getElem?_cons_zero, List.getElem?_cons_succ, List.nil_append, List.cons_append, List.append_nil, if_true, ite_true, g43, hp]
    refine fun a na => ⟨a, p, lo, hi, rfl, AH.put_same, f, _, AH.put_same, ?_⟩
    rw [made_gone na]
    refine ⟨p + hi - lo, rfl, by omega, by omega, ?_⟩
    have spw : ∀ n : Nat, n ≤ 20 → Sz 21 (2 ^ n) := fun n hn => by
      have a := pow_le (show n ≤ 20 by omega)
      have := two_pos n
      unfold Sz
      have e : (2 : Int) ^ 20 = 1048576 := rfl
      have e2 : 2 ^ 21 = 2097152 := rfl
      omega
    have s24 : Sz 5 24 := by unfold Sz; decide
    have s12 : Sz 4 12 := by unfold Sz; decide
    have s2 : Sz 2 2 := by unfold Sz; decide
    refine ⟨mul_ok s24 (spw _ (by omega)) (by decide), ?_⟩
    have t0 : (1 : Int) ≤ 2 ^ (p + hi - lo).toNat := by have := two_pos (p + hi - lo).toNat; omega
    have t1 : (2 : Int) ^ (p + hi - lo).toNat ≤ 2 ^ 9 := pow_le (by omega)
    obtain ⟨top, htop⟩ : ∃ top : Int, 24 * 2 ^ (p + hi - lo).toNat = top := ⟨_, rfl⟩
    rw [htop]
    have t2 : 24 ≤ top := by omega
    have t3 : top ≤ 12288 := by omega
    refine ⟨(show 2 ≤ SL by decide), ?_⟩
    have hl0 : 0 ≤ hi - lo := by omega
    have hl1 : hi - lo ≤ 4 := by omega
    simp only [k_law_6, wpSs, wpS]
    have u0 := two_pos (hi - lo).toNat
    have u1 : (2 : Int) ^ (hi - lo).toNat ≤ 2 ^ 4 := pow_le (by omega)
    refine k6_e hp hl0 hl1 (mul_ok s12 (spw _ (by omega)) (by decide)) ?_
    simp only [Env.put]
    obtain ⟨ed, hed⟩ : ∃ ed : Int, top - 12 * 2 ^ (hi - lo).toNat = ed := ⟨_, rfl⟩
    rw [hed]
    have e0 : -1000000 ≤ ed := by omega
    have e1 : ed ≤ 1000000 := by omega
    simp only [k_law_5, wpSs, wpS, wpE, wpEs, wpAnd, wpOr, wpI, wpF, wpT, wpH, Env.at, Env.put, Env.wipe, Env.nox, Slot.nox, wBin, binI, wCmp, cmpI, wBi, isTy, asL, asLT, bindT, bindTs, intsOf, boolsOf, ixL0, ixL1, ixL2, List.getElem?_cons_zero, List.getElem?_cons_succ, List.nil_append, List.cons_append, List.append_nil, if_true, ite_true]
    refine ⟨(show 12 ≤ SL by decide), ?_⟩
    simp only [k_law_4, wpSs, wpS, wpE, wpEs, wpAnd, wpOr, wpI, wpF, wpT, wpH, Env.at, Env.put, Env.wipe, Env.nox, Slot.nox, wBin, binI, wCmp, cmpI, wBi, isTy, asL, asLT, bindT, bindTs, intsOf, boolsOf, ixL0, ixL1, ixL2, List.getElem?_cons_zero, List.getElem?_cons_succ, List.nil_append, List.cons_append, List.append_nil, if_true, ite_true]
    refine ⟨(show 2 ≤ SL by decide), (show 12 + 2 ≤ SL by decide), ?_⟩
    obtain ⟨n0, en0⟩ : ∃ n0 : List Int, n0 = [0, 12, -12, 24, 36, ed, 0 - ed, ed - 1, 1 - ed, ed + 1, top, 0 - top, top - 1, top + 30] := ⟨_, rfl⟩
    have eD : ([.int 0, .int 12, .int (-12), .int 24, .int 36, .int ed, .int (0 - ed), .int (ed - 1), .int (1 - ed), .int (ed + 1), .int top, .int (0 - top), .int (top - 1), .int (top + 30)] : List D) = n0.map D.int := by rw [en0]; rfl
    rw [eD]
    have bn0 : ∀ x ∈ n0, -3000000 ≤ x ∧ x ≤ 3000000 := by
      intro x hx
      rw [en0] at hx
      simp only [List.mem_cons, List.not_mem_nil, or_false] at hx
      rcases hx with rfl | rfl | rfl | rfl | rfl | rfl | rfl | rfl | rfl | rfl | rfl | rfl | rfl | rfl <;> omega
    have ln0 : n0.length = 14 := by rw [en0]; rfl
    clear eD en0
    have lR : ∀ n : Nat, (rangeL 0 n).length = n := fun n => by simp [rangeL]
    have b9 : ∀ m : Int, 0 ≤ m → m ≤ 1000000 → bitsI m ≤ 9000 := fun m m0 m1 => Nat.le_trans (bitsI_le (show Sz 20 m by unfold Sz; omega)) (by decide)
    have szi : ∀ m : Int, -10000000 ≤ m → m ≤ 10000000 → Sz 60 m := fun m m0 m1 => by unfold Sz; omega
    simp only [k_law_3, wpSs, wpS, wpE, wpEs, wpAnd, wpOr, wpI, wpF, wpT, wpH, Env.at, Env.put, Env.wipe, Env.nox, Slot.nox, wBin, binI, wCmp, cmpI, wBi, isTy, asL, asLT, bindT, bindTs, intsOf, boolsOf, ixL0, ixL1, ixL2, List.getElem?_cons_zero, List.getElem?_cons_succ, List.nil_append, List.cons_append, List.append_nil, if_true, ite_true, hd]
    refine ⟨by unfold okR; decide, ?_⟩
    refine drawL (w := w) (h0 := h4) (B := 3000000) 20 (0 + 1 + 1 + 1) (fun d h' k' K' wk' fk' hk' kk => ?_) _ (l := []) (j := 0) (lR _) (by rw [lR]; decide) (fun _ hx => absurd hx List.not_mem_nil) w4 Fr.refl fun l3 hB len3 bd3 w5 f5 => ?_
    · refine ⟨mul_ok s2 (szi top (by omega) (by omega)) (by decide), w, _, _, rfl, by omega, b9 _ (by omega) (by omega), wk', by omega, fun y h'' y0 y1 wk'' fk'' => ?_⟩
      exact kk _ h'' (by omega) (by omega) wk'' (fk'.trans fk'')
    have len3 : l3.length = 20 := by rw [len3, lR]; rfl
    refine ⟨by rw [List.length_map, List.length_map, ln0, len3]; decide, ?_⟩
    rw [← List.map_append]
    obtain ⟨n3, en3⟩ : ∃ n3 : List Int, n3 = n0 ++ l3 := ⟨_, rfl⟩
    rw [← en3]
    have bn3 : ∀ x ∈ n3, -3000000 ≤ x ∧ x ≤ 3000000 := by
      intro x hx
      rw [en3] at hx
      rcases List.mem_append.mp hx with z | z
      · exact bn0 x z
      · exact bd3 x z
    have ln3 : n3.length = 34 := by rw [en3, List.length_append]; omega
    clear en3 bd3 bn0 ln0
    simp only [k_law_2, wpSs, wpS, wpE, wpEs, wpAnd, wpOr, wpI, wpF, wpT, wpH, Env.at, Env.put, Env.wipe, Env.nox, Slot.nox, wBin, binI, wCmp, cmpI, wBi, isTy, asL, asLT, bindT, bindTs, intsOf, boolsOf, ixL0, ixL1, ixL2, List.getElem?_cons_zero, List.getElem?_cons_succ, List.nil_append, List.cons_append, List.append_nil, if_true, ite_true, hd]
    rw [Int.fdiv_eq_ediv_of_nonneg _ (show (0 : Int) ≤ 6 by decide), Int.fdiv_eq_ediv_of_nonneg _ (show (0 : Int) ≤ 12 by decide)]
    refine ⟨by unfold okR; decide, ?_⟩
    refine drawL (w := w) (h0 := hB) (B := 3000000) 10 (0 + 1 + 1 + 1 + 20) (fun d h' k' K' wk' fk' hk' kk => ?_) _ (l := []) (j := 0) (lR _) (by rw [lR]; decide) (fun _ hx => absurd hx List.not_mem_nil) w5 Fr.refl fun l4 hC len4 bd4 w6 f6 => ?_
    · refine ⟨⟨by decide, by decide⟩, w, _, _, rfl, by omega, b9 _ (by omega) (by omega), wk', by omega, fun y h'' y0 y1 wk'' fk'' => ?_⟩
      refine ⟨⟨by decide, by decide⟩, mul_ok s12 (szi _ (by omega) (by omega)) (by decide), ?_⟩
      exact kk _ h'' (by omega) (by omega) wk'' (fk'.trans fk'')
    have len4 : l4.length = 10 := by rw [len4, lR]; rfl
    refine ⟨by rw [List.length_map, List.length_map, ln3, len4]; decide, ?_⟩
    rw [← List.map_append]
    obtain ⟨n4, en4⟩ : ∃ n4 : List Int, n4 = n3 ++ l4 := ⟨_, rfl⟩
    rw [← en4]
    have bn4 : ∀ x ∈ n4, -3000000 ≤ x ∧ x ≤ 3000000 := by
      intro x hx
      rw [en4] at hx
      rcases List.mem_append.mp hx with z | z
      · exact bn3 x z
      · exact bd4 x z
    clear en4 bd4 bn3 ln3
    simp only [k_law_1, wpSs, wpS, wpE, wpEs, wpAnd, wpOr, wpI, wpF, wpT, wpH, Env.at, Env.put, Env.wipe, Env.nox, Slot.nox, wBin, binI, wCmp, cmpI, wBi, isTy, asL, asLT, bindT, bindTs, intsOf, boolsOf, ixL0, ixL1, ixL2, List.getElem?_cons_zero, List.getElem?_cons_succ, List.nil_append, List.cons_append, List.append_nil, if_true, ite_true, hr]
    refine skipC (fun d hd2 K kk => ?_) ?_
    · obtain ⟨x, hx, rfl⟩ := List.mem_map.mp hd2
      have bx := bn4 x hx
      refine ⟨p, lo, hi, x, rfl, by omega, by omega, by omega, by omega, by omega, by omega, by unfold Sz; omega, ?_⟩
      simp only [Bool.not_true, Bool.false_eq_true, if_false]
      exact kk
    · refine ⟨(show 0 ≤ SL by decide), ⟨rfl, rfl⟩, ?_⟩
      rw [show (!(D.lst []).eqb (D.lst [])) = false from rfl, if_neg (by decide)]
      exact hn' _ _ ⟨_, _, _, _, _, _, _, _, _, _, _, rfl⟩
  · rintro σ h' ⟨s1, s2, s3, s4, s5, s6, s7, s8, s9, s10, s11, rfl⟩
    simp only [k_law_11, wpSs, wpS, wpE, wpEs, wpAnd, wpOr, wpI, wpF, wpT, wpH, Env.at, Env.put, Env.wipe, Env.nox, Slot.nox, wBin, binI, wCmp, cmpI, wBi, isTy, asL, asLT, bindT, bindTs, intsOf, boolsOf, ixL0, ixL1, ixL2, List.getElem?_cons_zero, List.getElem?_cons_succ, List.nil_append, List.cons_append, List.append_nil, if_true, ite_true]
    exact q _
end FF

set_option maxHeartbeats 0
namespace FF
open PySem PySem.Spec PyProof.Rows L2
def tblL : List Str := ["precision", "low", "high", "first", "last", "top", "bottom"]
def N_is_integer : List Str := ["value"]
theorem sc_is_integer : FnScope N_is_integer ["value"] (defScope (tp 6)) := FnScope.by (by decide +kernel)
def W_is_integer : Wd := { fns := [], fnK := [], fnD := [], cons := [], tbl := tblL, cv := false, mks := [], mets := [], flds := [], iso := [], rss := [], hcl := [], xfs := [] }
theorem ck_is_integer : chkSs W_is_integer (ckOf N_is_integer (defScope (tp 6))) ir_is_integer.body (defBody (tp 6)) = true := by decide +kernel
def N_is_between : List Str := ["value", "low", "high"]
theorem sc_is_between : FnScope N_is_between ["value", "low", "high"] (defScope (tp 7)) := FnScope.by (by decide +kernel)
def W_is_between : Wd := { fns := [(1, "is_integer")], fnK := [], fnD := [], cons := [], tbl := tblL, cv := false, mks := [], mets := [], flds := [], iso := [], rss := [], hcl := [], xfs := [] }
theorem ck_is_between : chkSs W_is_between (ckOf N_is_between (defScope (tp 7))) ir_is_between.body (defBody (tp 7)) = true := by decide +kernel
def N_divisor : List Str := ["one", "other"]
theorem sc_divisor : FnScope N_divisor ["one", "other"] (defScope (tp 8)) := FnScope.by (by decide +kernel)
def W_divisor : Wd := { fns := [], fnK := [], fnD := [], cons := [], tbl := tblL, cv := false, mks := [], mets := [], flds := [], iso := [], rss := [], hcl := [], xfs := [] }
theorem ck_divisor : chkSs W_divisor (ckOf N_divisor (defScope (tp 8))) ir_divisor.body (defBody (tp 8)) = true := by decide +kernel
def N_fraction : List Str := ["n", "d", "most"]
theorem sc_fraction : FnScope N_fraction ["n", "d"] (defScope (tp 9)) := FnScope.by (by decide +kernel)
def W_fraction : Wd := { fns := [(23, "divisor")], fnK := [], fnD := [], cons := [], tbl := tblL, cv := false, mks := [], mets := [], flds := [], iso := [], rss := [], hcl := [], xfs := [] }
theorem ck_fraction : chkSs W_fraction (ckOf N_fraction (defScope (tp 9))) ir_fraction.body (defBody (tp 9)) = true := by decide +kernel
def N_is_number : List Str := ["value"]
theorem sc_is_number : FnScope N_is_number ["value"] (defScope (tp 10)) := FnScope.by (by decide +kernel)
def W_is_number : Wd := { fns := [(23, "divisor"), (1, "is_integer")], fnK := [], fnD := [], cons := [], tbl := tblL, cv := false, mks := [], mets := [], flds := [], iso := [], rss := [], hcl := [], xfs := [] }
theorem ck_is_number : chkSs W_is_number (ckOf N_is_number (defScope (tp 10))) ir_is_number.body (defBody (tp 10)) = true := by decide +kernel
def N_check_number : List Str := ["argument", "value"]
theorem sc_check_number : FnScope N_check_number ["argument", "value"] (defScope (tp 11)) := FnScope.by (by decide +kernel)
def W_check_number : Wd := { fns := [(45, "is_number")], fnK := [], fnD := [], cons := [], tbl := tblL, cv := false, mks := [], mets := [], flds := [], iso := [], rss := [(0, "InvalidBound")], hcl := [], xfs := [] }
theorem ck_check_number : chkSs W_check_number (ckOf N_check_number (defScope (tp 11))) ir_check_number.body (defBody (tp 11)) = true := by decide +kernel
def N_power : List Str := ["e"]
theorem sc_power : FnScope N_power ["e"] (defScope (tp 12)) := FnScope.by (by decide +kernel)
def W_power : Wd := { fns := [], fnK := [], fnD := [], cons := [], tbl := tblL, cv := false, mks := [], mets := [], flds := [], iso := [], rss := [], hcl := [], xfs := [] }
theorem ck_power : chkSs W_power (ckOf N_power (defScope (tp 12))) ir_power.body (defBody (tp 12)) = true := by decide +kernel
def N_minus : List Str := ["x", "y"]
theorem sc_minus : FnScope N_minus ["x", "y"] (defScope (tp 13)) := FnScope.by (by decide +kernel)
def W_minus : Wd := { fns := [(24, "fraction")], fnK := [], fnD := [], cons := [], tbl := tblL, cv := false, mks := [], mets := [], flds := [], iso := [], rss := [], hcl := [], xfs := [] }
theorem ck_minus : chkSs W_minus (ckOf N_minus (defScope (tp 13))) ir_minus.body (defBody (tp 13)) = true := by decide +kernel
def N_times : List Str := ["x", "y"]
theorem sc_times : FnScope N_times ["x", "y"] (defScope (tp 14)) := FnScope.by (by decide +kernel)
def W_times : Wd := { fns := [(24, "fraction")], fnK := [], fnD := [], cons := [], tbl := tblL, cv := false, mks := [], mets := [], flds := [], iso := [], rss := [], hcl := [], xfs := [] }
theorem ck_times : chkSs W_times (ckOf N_times (defScope (tp 14))) ir_times.body (defBody (tp 14)) = true := by decide +kernel
def N_over : List Str := ["x", "y"]
theorem sc_over : FnScope N_over ["x", "y"] (defScope (tp 15)) := FnScope.by (by decide +kernel)
def W_over : Wd := { fns := [(24, "fraction")], fnK := [], fnD := [], cons := [], tbl := tblL, cv := false, mks := [], mets := [], flds := [], iso := [], rss := [], hcl := [], xfs := [] }
theorem ck_over : chkSs W_over (ckOf N_over (defScope (tp 15))) ir_over.body (defBody (tp 15)) = true := by decide +kernel
def N_is_less : List Str := ["x", "y"]
theorem sc_is_less : FnScope N_is_less ["x", "y"] (defScope (tp 16)) := FnScope.by (by decide +kernel)
def W_is_less : Wd := { fns := [], fnK := [], fnD := [], cons := [], tbl := tblL, cv := false, mks := [], mets := [], flds := [], iso := [], rss := [], hcl := [], xfs := [] }
theorem ck_is_less : chkSs W_is_less (ckOf N_is_less (defScope (tp 16))) ir_is_less.body (defBody (tp 16)) = true := by decide +kernel
def N_size_of : List Str := ["x"]
theorem sc_size_of : FnScope N_size_of ["x"] (defScope (tp 17)) := FnScope.by (by decide +kernel)
def W_size_of : Wd := { fns := [], fnK := [], fnD := [], cons := [], tbl := tblL, cv := false, mks := [], mets := [], flds := [], iso := [], rss := [], hcl := [], xfs := [] }
theorem ck_size_of : chkSs W_size_of (ckOf N_size_of (defScope (tp 17))) ir_size_of.body (defBody (tp 17)) = true := by decide +kernel
def N_Format_init : List Str := ["self", "precision", "low", "high"]
theorem sc_Format_init : FnScope N_Format_init ["self", "precision", "low", "high"] (defScope (tpm 21 0)) := FnScope.by (by decide +kernel)
def W_Format_init : Wd := { fns := [(6, "is_between")], fnK := [], fnD := [], cons := [(0, "MOST_PRECISION", .int 100), (1, "MOST_EXPONENT", .int 200)], tbl := tblL, cv := false, mks := [], mets := [], flds := [(2, "precision"), (2, "low"), (2, "high")], iso := [], rss := [(1, "InvalidFormat")], hcl := [], xfs := [] }
theorem ck_Format_init : chkSs W_Format_init (ckOf N_Format_init (defScope (tpm 21 0))) ir_Format_init.body (defBody (tpm 21 0)) = true := by decide +kernel
def N_check_format : List Str := ["value"]
theorem sc_check_format : FnScope N_check_format ["value"] (defScope (tp 22)) := FnScope.by (by decide +kernel)
def W_check_format : Wd := { fns := [], fnK := [], fnD := [], cons := [], tbl := tblL, cv := false, mks := [], mets := [], flds := [], iso := [(2, "Format")], rss := [(0, "InvalidBound")], hcl := [], xfs := [] }
theorem ck_check_format : chkSs W_check_format (ckOf N_check_format (defScope (tp 22))) ir_check_format.body (defBody (tp 22)) = true := by decide +kernel
def N_exponent : List Str := ["x", "n", "d", "k"]
theorem sc_exponent : FnScope N_exponent ["x"] (defScope (tp 23)) := FnScope.by (by decide +kernel)
def W_exponent : Wd := { fns := [(26, "size_of"), (27, "is_less"), (28, "power")], fnK := [], fnD := [], cons := [], tbl := tblL, cv := false, mks := [], mets := [], flds := [], iso := [], rss := [], hcl := [], xfs := [] }
theorem ck_exponent : chkSs W_exponent (ckOf N_exponent (defScope (tp 23))) ir_exponent.body (defBody (tp 23)) = true := by decide +kernel
def N_unit_exponent : List Str := ["form", "x"]
theorem sc_unit_exponent : FnScope N_unit_exponent ["form", "x"] (defScope (tp 24)) := FnScope.by (by decide +kernel)
def W_unit_exponent : Wd := { fns := [(29, "exponent")], fnK := [], fnD := [], cons := [], tbl := tblL, cv := false, mks := [], mets := [], flds := [(2, "precision"), (2, "low")], iso := [], rss := [], hcl := [], xfs := [] }
theorem ck_unit_exponent : chkSs W_unit_exponent (ckOf N_unit_exponent (defScope (tp 24))) ir_unit_exponent.body (defBody (tp 24)) = true := by decide +kernel
def N_most_order : List Str := ["form"]
theorem sc_most_order : FnScope N_most_order ["form"] (defScope (tp 25)) := FnScope.by (by decide +kernel)
def W_most_order : Wd := { fns := [], fnK := [], fnD := [], cons := [], tbl := tblL, cv := false, mks := [], mets := [], flds := [(2, "precision"), (2, "low"), (2, "high")], iso := [], rss := [], hcl := [], xfs := [] }
theorem ck_most_order : chkSs W_most_order (ckOf N_most_order (defScope (tp 25))) ir_most_order.body (defBody (tp 25)) = true := by decide +kernel
def N_value_of : List Str := ["form", "k", "half", "steps", "found"]
theorem sc_value_of : FnScope N_value_of ["form", "k"] (defScope (tp 26)) := FnScope.by (by decide +kernel)
def W_value_of : Wd := { fns := [(32, "times"), (28, "power")], fnK := [], fnD := [], cons := [], tbl := tblL, cv := false, mks := [], mets := [], flds := [(2, "precision"), (2, "low")], iso := [], rss := [], hcl := [], xfs := [] }
theorem ck_value_of : chkSs W_value_of (ckOf N_value_of (defScope (tp 26))) ir_value_of.body (defBody (tp 26)) = true := by decide +kernel
def N_greatest : List Str := ["form"]
theorem sc_greatest : FnScope N_greatest ["form"] (defScope (tp 27)) := FnScope.by (by decide +kernel)
def W_greatest : Wd := { fns := [(50, "value_of"), (52, "most_order"), (39, "check_format")], fnK := [], fnD := [], cons := [], tbl := tblL, cv := false, mks := [], mets := [], flds := [], iso := [], rss := [], hcl := [], xfs := [] }
theorem ck_greatest : chkSs W_greatest (ckOf N_greatest (defScope (tp 27))) ir_greatest.body (defBody (tp 27)) = true := by decide +kernel
def N_is_far : List Str := ["form", "x"]
theorem sc_is_far : FnScope N_is_far ["form", "x"] (defScope (tp 28)) := FnScope.by (by decide +kernel)
def W_is_far : Wd := { fns := [(26, "size_of"), (27, "is_less"), (28, "power")], fnK := [], fnD := [], cons := [], tbl := tblL, cv := false, mks := [], mets := [], flds := [(2, "precision"), (2, "high")], iso := [], rss := [], hcl := [], xfs := [] }
theorem ck_is_far : chkSs W_is_far (ckOf N_is_far (defScope (tp 28))) ir_is_far.body (defBody (tp 28)) = true := by decide +kernel
def N_unit : List Str := ["form", "x"]
theorem sc_unit : FnScope N_unit ["form", "x"] (defScope (tp 29)) := FnScope.by (by decide +kernel)
def W_unit : Wd := { fns := [(31, "is_far"), (33, "unit_exponent"), (39, "check_format"), (28, "power"), (53, "check_number")], fnK := [], fnD := [], cons := [], tbl := tblL, cv := false, mks := [], mets := [], flds := [], iso := [], rss := [(0, "InvalidBound")], hcl := [], xfs := [] }
theorem ck_unit : chkSs W_unit (ckOf N_unit (defScope (tp 29))) ir_unit.body (defBody (tp 29)) = true := by decide +kernel
def N_check_mode : List Str := ["mode"]
theorem sc_check_mode : FnScope N_check_mode ["mode"] (defScope (tp 32)) := FnScope.by (by decide +kernel)
def W_check_mode : Wd := { fns := [], fnK := [], fnD := [], cons := [(5, "MODES", .tup [(.str [101, 118, 101, 110]), (.str [97, 119, 97, 121]), (.str [100, 111, 119, 110]), (.str [117, 112]), (.str [122, 101, 114, 111])])], tbl := tblL, cv := false, mks := [], mets := [], flds := [], iso := [], rss := [(0, "InvalidBound")], hcl := [], xfs := [] }
theorem ck_check_mode : chkSs W_check_mode (ckOf N_check_mode (defScope (tp 32))) ir_check_mode.body (defBody (tp 32)) = true := by decide +kernel
def N_to_integer : List Str := ["mode", "n", "d", "q", "r"]
theorem sc_to_integer : FnScope N_to_integer ["mode", "n", "d"] (defScope (tp 33)) := FnScope.by (by decide +kernel)
def W_to_integer : Wd := { fns := [], fnK := [], fnD := [], cons := [], tbl := tblL, cv := false, mks := [], mets := [], flds := [], iso := [], rss := [], hcl := [], xfs := [] }
theorem ck_to_integer : chkSs W_to_integer (ckOf N_to_integer (defScope (tp 33))) ir_to_integer.body (defBody (tp 33)) = true := by decide +kernel
def N_sign_of : List Str := ["x"]
theorem sc_sign_of : FnScope N_sign_of ["x"] (defScope (tp 34)) := FnScope.by (by decide +kernel)
def W_sign_of : Wd := { fns := [], fnK := [], fnD := [], cons := [], tbl := tblL, cv := false, mks := [], mets := [], flds := [], iso := [], rss := [], hcl := [], xfs := [] }
theorem ck_sign_of : chkSs W_sign_of (ckOf N_sign_of (defScope (tp 34))) ir_sign_of.body (defBody (tp 34)) = true := by decide +kernel
def N_rounded_once : List Str := ["form", "mode", "x", "size", "scaled", "found"]
theorem sc_rounded_once : FnScope N_rounded_once ["form", "mode", "x"] (defScope (tp 35)) := FnScope.by (by decide +kernel)
def W_rounded_once : Wd := { fns := [(69, "sign_of"), (70, "to_integer"), (31, "is_far"), (61, "greatest"), (33, "unit_exponent"), (26, "size_of"), (27, "is_less"), (34, "over"), (32, "times"), (28, "power")], fnK := [], fnD := [], cons := [], tbl := tblL, cv := false, mks := [], mets := [], flds := [], iso := [], rss := [(4, "Overflow")], hcl := [], xfs := [] }
theorem ck_rounded_once : chkSs W_rounded_once (ckOf N_rounded_once (defScope (tp 35))) ir_rounded_once.body (defBody (tp 35)) = true := by decide +kernel
def N_rounded : List Str := ["form", "mode", "x"]
theorem sc_rounded : FnScope N_rounded ["form", "mode", "x"] (defScope (tp 36)) := FnScope.by (by decide +kernel)
def W_rounded : Wd := { fns := [(71, "rounded_once"), (88, "check_mode"), (39, "check_format"), (53, "check_number")], fnK := [], fnD := [], cons := [], tbl := tblL, cv := false, mks := [], mets := [], flds := [], iso := [], rss := [], hcl := [], xfs := [] }
theorem ck_rounded : chkSs W_rounded (ckOf N_rounded (defScope (tp 36))) ir_rounded.body (defBody (tp 36)) = true := by decide +kernel
def N_steps_away : List Str := ["form", "mode", "x"]
theorem sc_steps_away : FnScope N_steps_away ["form", "mode", "x"] (defScope (tp 37)) := FnScope.by (by decide +kernel)
def W_steps_away : Wd := { fns := [(71, "rounded_once"), (88, "check_mode"), (33, "unit_exponent"), (39, "check_format"), (34, "over"), (47, "minus"), (28, "power"), (53, "check_number")], fnK := [], fnD := [], cons := [], tbl := tblL, cv := false, mks := [], mets := [], flds := [], iso := [], rss := [], hcl := [], xfs := [] }
theorem ck_steps_away : chkSs W_steps_away (ckOf N_steps_away (defScope (tp 37))) ir_steps_away.body (defBody (tp 37)) = true := by decide +kernel
def N_l_source_of : List Str := ["_law_cell"]
theorem sc_l_source_of : FnScope N_l_source_of ["_law_cell"] (defScope (tp 39)) := FnScope.by (by decide +kernel)
def W_l_source_of : Wd := { fns := [], fnK := [], fnD := [], cons := [], tbl := tblL, cv := false, mks := [], mets := [], flds := [], iso := [], rss := [], hcl := [], xfs := [] }
theorem ck_l_source_of : chkSs W_l_source_of (ckOf N_l_source_of (defScope (tp 39))) ir_l_source_of.body (defBody (tp 39)) = true := by decide +kernel
def N_l_next : List Str := ["_law_source", "_law_many", "_law_found", "_law_prime", "_law_number_here"]
theorem sc_l_next : FnScope N_l_next ["_law_source", "_law_many"] (defScope (tp 40)) := FnScope.by (by decide +kernel)
def W_l_next : Wd := { fns := [], fnK := [], fnD := [], cons := [], tbl := tblL, cv := false, mks := [], mets := [], flds := [], iso := [], rss := [], hcl := [], xfs := [] }
theorem ck_l_next : chkSs W_l_next (ckOf N_l_next (defScope (tp 40))) ir_l_next.body (defBody (tp 40)) = true := by decide +kernel
def N_l_cell_at : List Str := ["_law_script", "_law_index"]
theorem sc_l_cell_at : FnScope N_l_cell_at ["_law_script", "_law_index"] (defScope (tp 42)) := FnScope.by (by decide +kernel)
def W_l_cell_at : Wd := { fns := [], fnK := [], fnD := [], cons := [], tbl := tblL, cv := false, mks := [], mets := [], flds := [], iso := [], rss := [], hcl := [], xfs := [] }
theorem ck_l_cell_at : chkSs W_l_cell_at (ckOf N_l_cell_at (defScope (tp 42))) ir_l_cell_at.body (defBody (tp 42)) = true := by decide +kernel
def N_l_common : List Str := ["_law_one_here", "_law_two"]
theorem sc_l_common : FnScope N_l_common ["_law_one_here", "_law_two"] (defScope (tp 43)) := FnScope.by (by decide +kernel)
def W_l_common : Wd := { fns := [], fnK := [], fnD := [], cons := [], tbl := tblL, cv := false, mks := [], mets := [], flds := [], iso := [], rss := [], hcl := [], xfs := [] }
theorem ck_l_common : chkSs W_l_common (ckOf N_l_common (defScope (tp 43))) ir_l_common.body (defBody (tp 43)) = true := by decide +kernel
def N_l_number : List Str := ["_law_n", "_law_d", "_law_most"]
theorem sc_l_number : FnScope N_l_number ["_law_n", "_law_d"] (defScope (tp 44)) := FnScope.by (by decide +kernel)
def W_l_number : Wd := { fns := [(1904, "_law_common")], fnK := [], fnD := [], cons := [], tbl := tblL, cv := false, mks := [], mets := [], flds := [], iso := [], rss := [], hcl := [], xfs := [] }
theorem ck_l_number : chkSs W_l_number (ckOf N_l_number (defScope (tp 44))) ir_l_number.body (defBody (tp 44)) = true := by decide +kernel
def N_l_power : List Str := ["_law_n", "_law_found", "_law_k"]
theorem sc_l_power : FnScope N_l_power ["_law_n"] (defScope (tp 45)) := FnScope.by (by decide +kernel)
def W_l_power : Wd := { fns := [], fnK := [], fnD := [], cons := [], tbl := tblL, cv := false, mks := [], mets := [], flds := [], iso := [], rss := [], hcl := [], xfs := [] }
theorem ck_l_power : chkSs W_l_power (ckOf N_l_power (defScope (tp 45))) ir_l_power.body (defBody (tp 45)) = true := by decide +kernel
def N_l_nearest : List Str := ["_law_parts", "_law_mode_here", "_law_place", "_law_size", "_law_p", "_law_low", "_law_high", "_law_many", "_law_step", "_law_lower", "_law_is_up", "_law_found"]
theorem sc_l_nearest : FnScope N_l_nearest ["_law_parts", "_law_mode_here", "_law_place", "_law_size"] (defScope (tp 46)) := FnScope.by (by decide +kernel)
def W_l_nearest : Wd := { fns := [(1906, "_law_power")], fnK := [], fnD := [], cons := [], tbl := tblL, cv := false, mks := [], mets := [], flds := [], iso := [], rss := [], hcl := [], xfs := [] }
theorem ck_l_nearest : chkSs W_l_nearest (ckOf N_l_nearest (defScope (tp 46))) ir_l_nearest.body (defBody (tp 46)) = true := by decide +kernel
def N_l_placed : List Str := ["_law_k", "_law_low"]
theorem sc_l_placed : FnScope N_l_placed ["_law_k", "_law_low"] (defScope (tp 47)) := FnScope.by (by decide +kernel)
def W_l_placed : Wd := { fns := [(1906, "_law_power"), (1905, "_law_number")], fnK := [], fnD := [], cons := [], tbl := tblL, cv := false, mks := [], mets := [], flds := [], iso := [], rss := [], hcl := [], xfs := [] }
theorem ck_l_placed : chkSs W_l_placed (ckOf N_l_placed (defScope (tp 47))) ir_l_placed.body (defBody (tp 47)) = true := by decide +kernel
def N_l_told : List Str := ["_law_call", "_law_found", "e"]
theorem sc_l_told : FnScope N_l_told ["_law_call"] (defScope (tp 48)) := FnScope.by (by decide +kernel)
def W_l_told : Wd := { fns := [], fnK := [], fnD := [], cons := [], tbl := tblL, cv := false, mks := [], mets := [], flds := [], iso := [], rss := [(4, "Overflow")], hcl := [(5, "FloatsError"), (4, "Overflow")], xfs := [(4, "sign")], acts := true }
theorem ck_l_told : chkSs W_l_told (ckOf N_l_told (defScope (tp 48))) ir_l_told.body (defBody (tp 48)) = true := by decide +kernel
def N_l_right : List Str := ["_law_parts", "_law_form_here", "_law_k", "_law_x_here", "_law_mode_here", "_law_place", "_law_due", "_law_told_here", "_law_size", "_law_many"]
theorem sc_l_right : FnScope N_l_right ["_law_parts", "_law_form_here", "_law_k"] (defScope (tp 49)) := FnScope.by (by decide +kernel)
def W_l_right : Wd := { fns := [(1010, "_law_placed"), (1011, "_law_nearest"), (1906, "_law_power"), (1905, "_law_number"), (87, "steps_away"), (86, "rounded"), (46, "unit")], fnK := [(86, "rounded", 0, ["x", "mode", "form"], [2, 1, 0]), (87, "steps_away", 0, ["x", "mode", "form"], [2, 1, 0])], fnD := [], cons := [], tbl := tblL, cv := false, mks := [], mets := [], flds := [], iso := [], rss := [], hcl := [], xfs := [], hfs := [(1012, "_law_told")], lm := true }
theorem ck_l_right : chkSs W_l_right (ckOf N_l_right (defScope (tp 49))) ir_l_right.body (defBody (tp 49)) = true := by decide +kernel
def N_law : List Str := ["_law_script", "_law_cell", "_law_source", "_law_parts", "_law_edge_here", "_law_some", "_law_p", "_law_low", "_law_form_here", "_law_top", "_law_turn", "_law_k"]
theorem sc_law : FnScope N_law ["_law_script"] (defScope (tp 50)) := FnScope.by (by decide +kernel)
def W_law : Wd := { fns := [(1013, "_law_right"), (1906, "_law_power"), (1903, "_law_cell_at"), (1900, "_law_next"), (1901, "_law_source_of")], fnK := [], fnD := [], cons := [], tbl := tblL, cv := false, mks := [(43, 2, "Format")], mets := [], flds := [], iso := [(2, "Format")], rss := [], hcl := [], xfs := [] }
theorem ck_law : chkSs W_law (ckOf N_law (defScope (tp 50))) ir_law.body (defBody (tp 50)) = true := by decide +kernel
end FF

set_option maxHeartbeats 0
namespace FF
open PySem PySem.Spec PyProof.Rows L2
theorem m_check_mode : MoS sp_check_mode := fun ds h Q Q' R R' k kr => by repeat' first | exact id | exact k _ _ | exact kr _ _ | refine Exists.imp fun _ => ?_ | refine And.imp ?_ ?_ | refine forall_imp fun _ => ?_
theorem m_to_integer : MoS sp_to_integer := fun ds h Q Q' R R' k kr => by repeat' first | exact id | exact k _ _ | exact kr _ _ | refine Exists.imp fun _ => ?_ | refine And.imp ?_ ?_ | refine forall_imp fun _ => ?_
theorem m_sign_of : MoS sp_sign_of := fun ds h Q Q' R R' k kr => by repeat' first | exact id | exact k _ _ | exact kr _ _ | refine Exists.imp fun _ => ?_ | refine And.imp ?_ ?_ | refine forall_imp fun _ => ?_
theorem m_rounded_once : MoS sp_rounded_once := fun ds h Q Q' R R' k kr => by repeat' first | exact id | exact k _ _ | exact kr _ _ | refine Exists.imp fun _ => ?_ | refine And.imp ?_ ?_ | refine forall_imp fun _ => ?_
theorem m_rounded : MoS sp_rounded := fun ds h Q Q' R R' k kr => by repeat' first | exact id | exact k _ _ | exact kr _ _ | refine Exists.imp fun _ => ?_ | refine And.imp ?_ ?_ | refine forall_imp fun _ => ?_
theorem m_steps : MoS sp_steps := fun ds h Q Q' R R' k kr => by repeat' first | exact id | exact k _ _ | exact kr _ _ | refine Exists.imp fun _ => ?_ | refine And.imp ?_ ?_ | refine forall_imp fun _ => ?_
theorem m_l_nearest : MoS sp_l_nearest := fun ds h Q Q' R R' k kr => by repeat' first | exact id | exact k _ _ | exact kr _ _ | refine Exists.imp fun _ => ?_ | refine And.imp ?_ ?_ | refine forall_imp fun _ => ?_
theorem m_l_placed : MoS sp_l_placed := fun ds h Q Q' R R' k kr => by repeat' first | exact id | exact k _ _ | exact kr _ _ | refine Exists.imp fun _ => ?_ | refine And.imp ?_ ?_ | refine forall_imp fun _ => ?_
theorem m_l_right6 : MoS sp_l_right6 := fun ds h Q Q' R R' k kr => by repeat' first | exact id | exact k _ _ | exact kr _ _ | refine Exists.imp fun _ => ?_ | refine And.imp ?_ ?_ | refine forall_imp fun _ => ?_
theorem m_law : MoS sp_law := fun ds h Q Q' R R' k kr => by repeat' first | exact id | exact k _ _ | exact kr _ _ | refine Exists.imp fun _ => ?_ | refine And.imp ?_ ?_ | refine forall_imp fun _ => ?_
def tab : List (Nat × Spec) := [(1, sp_is_integer), (6, sp_is_between), (23, sp_divisor), (24, sp_fraction), (45, sp_is_number), (53, sp_check_number), (28, sp_power), (47, sp_minus), (32, sp_times), (34, sp_over), (27, sp_is_less), (26, sp_size_of), (43, sp_Format_init), (39, sp_check_format), (29, sp_exponent), (33, sp_unit_exponent), (52, sp_most_order), (50, sp_value_of), (61, sp_greatest), (31, sp_is_far), (46, sp_unit), (88, sp_check_mode), (70, sp_to_integer), (69, sp_sign_of), (71, sp_rounded_once), (86, sp_rounded), (87, sp_steps), (1901, sp_well), (1900, sp_draw), (1903, sp_cell_at), (1904, sp_divisor), (1905, sp_fraction), (1906, sp_l_power), (1011, sp_l_nearest), (1010, sp_l_placed), (1013, sp_l_right6), (1014, sp_law)]
def hfL : List (Nat × HSpec) := [(1012, hsp_told)]
def subL : List ((Nat × Nat) × Bool) := [((4, 4), true), ((4, 5), true)]
abbrev gm : Gam := gamOf tab subL hfL
def ats : List (Nat × Str × Option Str) := [((1 : Nat), ("is_integer" : Str), (none : Option Str)), ((6 : Nat), ("is_between" : Str), (none : Option Str)), ((23 : Nat), ("divisor" : Str), (none : Option Str)), ((24 : Nat), ("fraction" : Str), (none : Option Str)), ((45 : Nat), ("is_number" : Str), (none : Option Str)), ((53 : Nat), ("check_number" : Str), (none : Option Str)), ((28 : Nat), ("power" : Str), (none : Option Str)), ((47 : Nat), ("minus" : Str), (none : Option Str)), ((32 : Nat), ("times" : Str), (none : Option Str)), ((34 : Nat), ("over" : Str), (none : Option Str)), ((27 : Nat), ("is_less" : Str), (none : Option Str)), ((26 : Nat), ("size_of" : Str), (none : Option Str)), ((43 : Nat), ("Format" : Str), (some "__init__" : Option Str)), ((39 : Nat), ("check_format" : Str), (none : Option Str)), ((29 : Nat), ("exponent" : Str), (none : Option Str)), ((33 : Nat), ("unit_exponent" : Str), (none : Option Str)), ((52 : Nat), ("most_order" : Str), (none : Option Str)), ((50 : Nat), ("value_of" : Str), (none : Option Str)), ((61 : Nat), ("greatest" : Str), (none : Option Str)), ((31 : Nat), ("is_far" : Str), (none : Option Str)), ((46 : Nat), ("unit" : Str), (none : Option Str)), ((88 : Nat), ("check_mode" : Str), (none : Option Str)), ((70 : Nat), ("to_integer" : Str), (none : Option Str)), ((69 : Nat), ("sign_of" : Str), (none : Option Str)), ((71 : Nat), ("rounded_once" : Str), (none : Option Str)), ((86 : Nat), ("rounded" : Str), (none : Option Str)), ((87 : Nat), ("steps_away" : Str), (none : Option Str)), ((1901 : Nat), ("_law_source_of" : Str), (none : Option Str)), ((1900 : Nat), ("_law_next" : Str), (none : Option Str)), ((1903 : Nat), ("_law_cell_at" : Str), (none : Option Str)), ((1904 : Nat), ("_law_common" : Str), (none : Option Str)), ((1905 : Nat), ("_law_number" : Str), (none : Option Str)), ((1906 : Nat), ("_law_power" : Str), (none : Option Str)), ((1011 : Nat), ("_law_nearest" : Str), (none : Option Str)), ((1010 : Nat), ("_law_placed" : Str), (none : Option Str)), ((1012 : Nat), ("_law_told" : Str), (none : Option Str)), ((1013 : Nat), ("_law_right" : Str), (none : Option Str)), ((1014 : Nat), ("law" : Str), (none : Option Str))]
def at0 : Str × Option Str := ("is_integer", none)
def clsS (n : Nat) : Str := if n = 5 then "FloatsError" else if n = 1 then "InvalidFormat" else if n = 0 then "InvalidBound" else if n = 4 then "Overflow" else if n = 2 then "Format" else ""
def xfS (n : Nat) : Str := if n = 1 then "part" else if n = 0 then "argument" else if n = 4 then "sign" else ""
abbrev tbK (K : PySem.W.Frag) : Tb := tbOf K ats at0 clsS tblL (by decide) xfS (lamL K tfL)
abbrev q_is_integer : Nat × Str := (1, "is_integer")
abbrev q_is_between : Nat × Str := (6, "is_between")
abbrev q_divisor : Nat × Str := (23, "divisor")
abbrev q_fraction : Nat × Str := (24, "fraction")
abbrev q_is_number : Nat × Str := (45, "is_number")
abbrev q_check_number : Nat × Str := (53, "check_number")
abbrev q_power : Nat × Str := (28, "power")
abbrev q_minus : Nat × Str := (47, "minus")
abbrev q_times : Nat × Str := (32, "times")
abbrev q_over : Nat × Str := (34, "over")
abbrev q_is_less : Nat × Str := (27, "is_less")
abbrev q_size_of : Nat × Str := (26, "size_of")
abbrev q_check_format : Nat × Str := (39, "check_format")
abbrev q_exponent : Nat × Str := (29, "exponent")
abbrev q_unit_exponent : Nat × Str := (33, "unit_exponent")
abbrev q_most_order : Nat × Str := (52, "most_order")
abbrev q_value_of : Nat × Str := (50, "value_of")
abbrev q_greatest : Nat × Str := (61, "greatest")
abbrev q_is_far : Nat × Str := (31, "is_far")
abbrev q_unit : Nat × Str := (46, "unit")
abbrev q_check_mode : Nat × Str := (88, "check_mode")
abbrev q_to_integer : Nat × Str := (70, "to_integer")
abbrev q_sign_of : Nat × Str := (69, "sign_of")
abbrev q_rounded_once : Nat × Str := (71, "rounded_once")
abbrev q_rounded : Nat × Str := (86, "rounded")
abbrev q_steps_away : Nat × Str := (87, "steps_away")
abbrev q_l_source_of : Nat × Str := (1901, "_law_source_of")
abbrev q_l_next : Nat × Str := (1900, "_law_next")
abbrev q_l_cell_at : Nat × Str := (1903, "_law_cell_at")
abbrev q_l_common : Nat × Str := (1904, "_law_common")
abbrev q_l_number : Nat × Str := (1905, "_law_number")
abbrev q_l_power : Nat × Str := (1906, "_law_power")
abbrev q_l_nearest : Nat × Str := (1011, "_law_nearest")
abbrev q_l_placed : Nat × Str := (1010, "_law_placed")
abbrev q_l_told : Nat × Str := (1012, "_law_told")
abbrev q_l_right : Nat × Str := (1013, "_law_right")
abbrev q_law : Nat × Str := (1014, "law")
section
variable {P : Program} {w : World} {K : PySem.W.Frag} {h : Heap} {mg : Str → Option Value}
theorem facts (X : K.In h) (G : h.Ns mainGlobals mg) (cc : SaysL faL fnL exL (tfL.map (·.1)) h K) {f : Addr} (hfa : mg "law" = some (.ref f)) : ∃ fd : FuncData, (∀ (s : Shared) (u : Value), BindsTo s fd ⟨[u], []⟩ [("_law_script", u)]) ∧ ∀ base : Heap, (∀ p ∈ tfL.map (·.1), LamX.TabB base mg (He.cT K p).1 (He.cT K p).2) → FnOk P w K mg base (L2.CX P w) 40 f fd ["_law_script"] (prom (tbK K) sp_law) := by
  have c : SaysF faL fnL exL K := cc.f
  have fr : ∀ x ∈ stdNames, mg x = none := by
    intro x hx
    have key : He.Fa.free x ∈ faL := by
      unfold stdNames at hx
      unfold faL
      simp only [List.mem_cons, List.not_mem_nil, or_false] at hx
      rcases hx with rfl | rfl | rfl | rfl | rfl | rfl | rfl | rfl | rfl | rfl | rfl | rfl | rfl | rfl | rfl | rfl | rfl <;> simp
    obtain ⟨i, hi, e⟩ := List.mem_iff_getElem.mp key
    exact He.free_ok X G (c.d.fact i (f := .free x) (by rw [List.getElem?_eq_getElem hi, e]))
  have m0 : mg "is_integer" = some (.ref ((tbK K).fA 1)) := He.glo_ok X G (c.d.fact 0 (f := .glo "is_integer") rfl)
  have m1 : mg "is_between" = some (.ref ((tbK K).fA 6)) := He.glo_ok X G (c.d.fact 1 (f := .glo "is_between") rfl)
  have m2 : mg "divisor" = some (.ref ((tbK K).fA 23)) := He.glo_ok X G (c.d.fact 2 (f := .glo "divisor") rfl)
  have m3 : mg "fraction" = some (.ref ((tbK K).fA 24)) := He.glo_ok X G (c.d.fact 3 (f := .glo "fraction") rfl)
  have m4 : mg "is_number" = some (.ref ((tbK K).fA 45)) := He.glo_ok X G (c.d.fact 4 (f := .glo "is_number") rfl)
  have m5 : mg "check_number" = some (.ref ((tbK K).fA 53)) := He.glo_ok X G (c.d.fact 5 (f := .glo "check_number") rfl)
  have m6 : mg "power" = some (.ref ((tbK K).fA 28)) := He.glo_ok X G (c.d.fact 6 (f := .glo "power") rfl)
  have m7 : mg "minus" = some (.ref ((tbK K).fA 47)) := He.glo_ok X G (c.d.fact 7 (f := .glo "minus") rfl)
  have m8 : mg "times" = some (.ref ((tbK K).fA 32)) := He.glo_ok X G (c.d.fact 8 (f := .glo "times") rfl)
  have m9 : mg "over" = some (.ref ((tbK K).fA 34)) := He.glo_ok X G (c.d.fact 9 (f := .glo "over") rfl)
  have m10 : mg "is_less" = some (.ref ((tbK K).fA 27)) := He.glo_ok X G (c.d.fact 10 (f := .glo "is_less") rfl)
  have m11 : mg "size_of" = some (.ref ((tbK K).fA 26)) := He.glo_ok X G (c.d.fact 11 (f := .glo "size_of") rfl)
  have m13 : mg "check_format" = some (.ref ((tbK K).fA 39)) := He.glo_ok X G (c.d.fact 12 (f := .glo "check_format") rfl)
  have m14 : mg "exponent" = some (.ref ((tbK K).fA 29)) := He.glo_ok X G (c.d.fact 13 (f := .glo "exponent") rfl)
  have m15 : mg "unit_exponent" = some (.ref ((tbK K).fA 33)) := He.glo_ok X G (c.d.fact 14 (f := .glo "unit_exponent") rfl)
  have m16 : mg "most_order" = some (.ref ((tbK K).fA 52)) := He.glo_ok X G (c.d.fact 15 (f := .glo "most_order") rfl)
  have m17 : mg "value_of" = some (.ref ((tbK K).fA 50)) := He.glo_ok X G (c.d.fact 16 (f := .glo "value_of") rfl)
  have m18 : mg "greatest" = some (.ref ((tbK K).fA 61)) := He.glo_ok X G (c.d.fact 17 (f := .glo "greatest") rfl)
  have m19 : mg "is_far" = some (.ref ((tbK K).fA 31)) := He.glo_ok X G (c.d.fact 18 (f := .glo "is_far") rfl)
  have m20 : mg "unit" = some (.ref ((tbK K).fA 46)) := He.glo_ok X G (c.d.fact 19 (f := .glo "unit") rfl)
  have m21 : mg "check_mode" = some (.ref ((tbK K).fA 88)) := He.glo_ok X G (c.d.fact 20 (f := .glo "check_mode") rfl)
  have m22 : mg "to_integer" = some (.ref ((tbK K).fA 70)) := He.glo_ok X G (c.d.fact 21 (f := .glo "to_integer") rfl)
  have m23 : mg "sign_of" = some (.ref ((tbK K).fA 69)) := He.glo_ok X G (c.d.fact 22 (f := .glo "sign_of") rfl)
  have m24 : mg "rounded_once" = some (.ref ((tbK K).fA 71)) := He.glo_ok X G (c.d.fact 23 (f := .glo "rounded_once") rfl)
  have m25 : mg "rounded" = some (.ref ((tbK K).fA 86)) := He.glo_ok X G (c.d.fact 24 (f := .glo "rounded") rfl)
  have m26 : mg "steps_away" = some (.ref ((tbK K).fA 87)) := He.glo_ok X G (c.d.fact 25 (f := .glo "steps_away") rfl)
  have m27 : mg "_law_source_of" = some (.ref ((tbK K).fA 1901)) := He.glo_ok X G (c.d.fact 26 (f := .glo "_law_source_of") rfl)
  have m28 : mg "_law_next" = some (.ref ((tbK K).fA 1900)) := He.glo_ok X G (c.d.fact 27 (f := .glo "_law_next") rfl)
  have m29 : mg "_law_cell_at" = some (.ref ((tbK K).fA 1903)) := He.glo_ok X G (c.d.fact 28 (f := .glo "_law_cell_at") rfl)
  have m30 : mg "_law_common" = some (.ref ((tbK K).fA 1904)) := He.glo_ok X G (c.d.fact 29 (f := .glo "_law_common") rfl)
  have m31 : mg "_law_number" = some (.ref ((tbK K).fA 1905)) := He.glo_ok X G (c.d.fact 30 (f := .glo "_law_number") rfl)
  have m32 : mg "_law_power" = some (.ref ((tbK K).fA 1906)) := He.glo_ok X G (c.d.fact 31 (f := .glo "_law_power") rfl)
  have m33 : mg "_law_nearest" = some (.ref ((tbK K).fA 1011)) := He.glo_ok X G (c.d.fact 32 (f := .glo "_law_nearest") rfl)
  have m34 : mg "_law_placed" = some (.ref ((tbK K).fA 1010)) := He.glo_ok X G (c.d.fact 33 (f := .glo "_law_placed") rfl)
  have m35 : mg "_law_told" = some (.ref ((tbK K).fA 1012)) := He.glo_ok X G (c.d.fact 34 (f := .glo "_law_told") rfl)
  have m36 : mg "_law_right" = some (.ref ((tbK K).fA 1013)) := He.glo_ok X G (c.d.fact 35 (f := .glo "_law_right") rfl)
  have m37 : mg "law" = some (.ref ((tbK K).fA 1014)) := He.glo_ok X G (c.d.fact 36 (f := .glo "law") rfl)
  have mc_FloatsError : mg "FloatsError" = some (.ref ((tbK K).cA 5)) := He.glo_ok X G (c.d.fact 64 (f := .glo "FloatsError") rfl)
  have mc_InvalidFormat : mg "InvalidFormat" = some (.ref ((tbK K).cA 1)) := He.glo_ok X G (c.d.fact 63 (f := .glo "InvalidFormat") rfl)
  have mc_InvalidBound : mg "InvalidBound" = some (.ref ((tbK K).cA 0)) := He.glo_ok X G (c.d.fact 65 (f := .glo "InvalidBound") rfl)
  have mc_Overflow : mg "Overflow" = some (.ref ((tbK K).cA 4)) := He.glo_ok X G (c.d.fact 66 (f := .glo "Overflow") rfl)
  have mc_Format : mg "Format" = some (.ref ((tbK K).cA 2)) := He.glo_ok X G (c.d.fact 54 (f := .glo "Format") rfl)
  have cl_Format : Cls (tbK K).K ((tbK K).cA 2) := He.cls_ok (c.d.fact 55 (f := .cls "Format") rfl)
  have mk_Format : Mk (tbK K).K ((tbK K).cA 2) ((tbK K).fA 43) := He.mkr_ok (c.d.fact 56 (f := .mkr "Format") rfl)
  have na_Format_precision : NoAttr (tbK K).K ((tbK K).cA 2) "precision" := He.noat_ok (c.d.fact 57 (f := .noat "Format" "precision") rfl)
  have na_Format_low : NoAttr (tbK K).K ((tbK K).cA 2) "low" := He.noat_ok (c.d.fact 58 (f := .noat "Format" "low") rfl)
  have na_Format_high : NoAttr (tbK K).K ((tbK K).cA 2) "high" := He.noat_ok (c.d.fact 59 (f := .noat "Format" "high") rfl)
  have is_Format : IsoC (tbK K).K ((tbK K).cA 2) := isoB_ok (show isoB K (He.ga K "Format") = true from c.ex 0 (f := isoF "Format") rfl)
  have cn_MOST_PRECISION : ∃ v u, mg "MOST_PRECISION" = some u ∧ RelV v u ∧ ∀ F, Rep (tbK K) F (.int 100) v := by
    obtain ⟨t, e⟩ := He.int_ok X G (c.d.fact 60 (f := .int "MOST_PRECISION" 100) rfl)
    exact ⟨.int 100, _, e, ⟨_, rfl⟩, fun _ => .int⟩
  have cn_MOST_EXPONENT : ∃ v u, mg "MOST_EXPONENT" = some u ∧ RelV v u ∧ ∀ F, Rep (tbK K) F (.int 200) v := by
    obtain ⟨t, e⟩ := He.int_ok X G (c.d.fact 61 (f := .int "MOST_EXPONENT" 200) rfl)
    exact ⟨.int 200, _, e, ⟨_, rfl⟩, fun _ => .int⟩
  have cn_MODES : ∃ v u, mg "MODES" = some u ∧ RelV v u ∧ ∀ F, Rep (tbK K) F (.tup [(.str [101, 118, 101, 110]), (.str [97, 119, 97, 121]), (.str [100, 111, 119, 110]), (.str [117, 112]), (.str [122, 101, 114, 111])]) v := ⟨.ref (He.ga K "MODES"), _, He.glo_ok X G (c.d.fact 62 (f := .glo "MODES") rfl), rfl, fun F => .tup (He.tupB_ok (show He.tupB K "MODES" [(.str (sOf [101, 118, 101, 110])), (.str (sOf [97, 119, 97, 121])), (.str (sOf [100, 111, 119, 110])), (.str (sOf [117, 112])), (.str (sOf [122, 101, 114, 111]))] = true from c.ex 1 (f := fun K => He.tupB K "MODES" [(.str (sOf [101, 118, 101, 110])), (.str (sOf [97, 119, 97, 121])), (.str (sOf [100, 111, 119, 110])), (.str (sOf [117, 112])), (.str (sOf [122, 101, 114, 111]))]) rfl) F) (.cons .str (.cons .str (.cons .str (.cons .str (.cons .str .nil)))))⟩
  obtain ⟨fd0, F0⟩ := c.d.def_ 0 (d := d_is_integer) rfl
  have F0 : FunD (tbK K).K "is_integer" "is_integer" (defArgs (tp 6)) (defBody (tp 6)) (defScope (tp 6)) [] [] ((tbK K).fA 1) fd0 := F0
  obtain ⟨fd1, F1⟩ := c.d.def_ 1 (d := d_is_between) rfl
  have F1 : FunD (tbK K).K "is_between" "is_between" (defArgs (tp 7)) (defBody (tp 7)) (defScope (tp 7)) [] [] ((tbK K).fA 6) fd1 := F1
  obtain ⟨fd2, F2⟩ := c.d.def_ 2 (d := d_divisor) rfl
  have F2 : FunD (tbK K).K "divisor" "divisor" (defArgs (tp 8)) (defBody (tp 8)) (defScope (tp 8)) [] [] ((tbK K).fA 23) fd2 := F2
  obtain ⟨fd3, F3⟩ := c.d.def_ 3 (d := d_fraction) rfl
  have F3 : FunD (tbK K).K "fraction" "fraction" (defArgs (tp 9)) (defBody (tp 9)) (defScope (tp 9)) [] [] ((tbK K).fA 24) fd3 := F3
  obtain ⟨fd4, F4⟩ := c.d.def_ 4 (d := d_is_number) rfl
  have F4 : FunD (tbK K).K "is_number" "is_number" (defArgs (tp 10)) (defBody (tp 10)) (defScope (tp 10)) [] [] ((tbK K).fA 45) fd4 := F4
  obtain ⟨fd5, F5⟩ := c.d.def_ 5 (d := d_check_number) rfl
  have F5 : FunD (tbK K).K "check_number" "check_number" (defArgs (tp 11)) (defBody (tp 11)) (defScope (tp 11)) [] [] ((tbK K).fA 53) fd5 := F5
  obtain ⟨fd6, F6⟩ := c.d.def_ 6 (d := d_power) rfl
  have F6 : FunD (tbK K).K "power" "power" (defArgs (tp 12)) (defBody (tp 12)) (defScope (tp 12)) [] [] ((tbK K).fA 28) fd6 := F6
  obtain ⟨fd7, F7⟩ := c.d.def_ 7 (d := d_minus) rfl
  have F7 : FunD (tbK K).K "minus" "minus" (defArgs (tp 13)) (defBody (tp 13)) (defScope (tp 13)) [] [] ((tbK K).fA 47) fd7 := F7
  obtain ⟨fd8, F8⟩ := c.d.def_ 8 (d := d_times) rfl
  have F8 : FunD (tbK K).K "times" "times" (defArgs (tp 14)) (defBody (tp 14)) (defScope (tp 14)) [] [] ((tbK K).fA 32) fd8 := F8
  obtain ⟨fd9, F9⟩ := c.d.def_ 9 (d := d_over) rfl
  have F9 : FunD (tbK K).K "over" "over" (defArgs (tp 15)) (defBody (tp 15)) (defScope (tp 15)) [] [] ((tbK K).fA 34) fd9 := F9
  obtain ⟨fd10, F10⟩ := c.d.def_ 10 (d := d_is_less) rfl
  have F10 : FunD (tbK K).K "is_less" "is_less" (defArgs (tp 16)) (defBody (tp 16)) (defScope (tp 16)) [] [] ((tbK K).fA 27) fd10 := F10
  obtain ⟨fd11, F11⟩ := c.d.def_ 11 (d := d_size_of) rfl
  have F11 : FunD (tbK K).K "size_of" "size_of" (defArgs (tp 17)) (defBody (tp 17)) (defScope (tp 17)) [] [] ((tbK K).fA 26) fd11 := F11
  obtain ⟨fd12, F12⟩ := c.d.def_ 12 (d := d_Format_init) rfl
  have F12 : FunD (tbK K).K "__init__" "Format.__init__" (defArgs (tpm 21 0)) (defBody (tpm 21 0)) (defScope (tpm 21 0)) [] [] ((tbK K).fA 43) fd12 := F12
  obtain ⟨fd13, F13⟩ := c.d.def_ 13 (d := d_check_format) rfl
  have F13 : FunD (tbK K).K "check_format" "check_format" (defArgs (tp 22)) (defBody (tp 22)) (defScope (tp 22)) [] [] ((tbK K).fA 39) fd13 := F13
  obtain ⟨fd14, F14⟩ := c.d.def_ 14 (d := d_exponent) rfl
  have F14 : FunD (tbK K).K "exponent" "exponent" (defArgs (tp 23)) (defBody (tp 23)) (defScope (tp 23)) [] [] ((tbK K).fA 29) fd14 := F14
  obtain ⟨fd15, F15⟩ := c.d.def_ 15 (d := d_unit_exponent) rfl
  have F15 : FunD (tbK K).K "unit_exponent" "unit_exponent" (defArgs (tp 24)) (defBody (tp 24)) (defScope (tp 24)) [] [] ((tbK K).fA 33) fd15 := F15
  obtain ⟨fd16, F16⟩ := c.d.def_ 16 (d := d_most_order) rfl
  have F16 : FunD (tbK K).K "most_order" "most_order" (defArgs (tp 25)) (defBody (tp 25)) (defScope (tp 25)) [] [] ((tbK K).fA 52) fd16 := F16
  obtain ⟨fd17, F17⟩ := c.d.def_ 17 (d := d_value_of) rfl
  have F17 : FunD (tbK K).K "value_of" "value_of" (defArgs (tp 26)) (defBody (tp 26)) (defScope (tp 26)) [] [] ((tbK K).fA 50) fd17 := F17
  obtain ⟨fd18, F18⟩ := c.d.def_ 18 (d := d_greatest) rfl
  have F18 : FunD (tbK K).K "greatest" "greatest" (defArgs (tp 27)) (defBody (tp 27)) (defScope (tp 27)) [] [] ((tbK K).fA 61) fd18 := F18
  obtain ⟨fd19, F19⟩ := c.d.def_ 19 (d := d_is_far) rfl
  have F19 : FunD (tbK K).K "is_far" "is_far" (defArgs (tp 28)) (defBody (tp 28)) (defScope (tp 28)) [] [] ((tbK K).fA 31) fd19 := F19
  obtain ⟨fd20, F20⟩ := c.d.def_ 20 (d := d_unit) rfl
  have F20 : FunD (tbK K).K "unit" "unit" (defArgs (tp 29)) (defBody (tp 29)) (defScope (tp 29)) [] [] ((tbK K).fA 46) fd20 := F20
  obtain ⟨fd21, F21⟩ := c.d.def_ 21 (d := d_check_mode) rfl
  have F21 : FunD (tbK K).K "check_mode" "check_mode" (defArgs (tp 32)) (defBody (tp 32)) (defScope (tp 32)) [] [] ((tbK K).fA 88) fd21 := F21
  obtain ⟨fd22, F22⟩ := c.d.def_ 22 (d := d_to_integer) rfl
  have F22 : FunD (tbK K).K "to_integer" "to_integer" (defArgs (tp 33)) (defBody (tp 33)) (defScope (tp 33)) [] [] ((tbK K).fA 70) fd22 := F22
  obtain ⟨fd23, F23⟩ := c.d.def_ 23 (d := d_sign_of) rfl
  have F23 : FunD (tbK K).K "sign_of" "sign_of" (defArgs (tp 34)) (defBody (tp 34)) (defScope (tp 34)) [] [] ((tbK K).fA 69) fd23 := F23
  obtain ⟨fd24, F24⟩ := c.d.def_ 24 (d := d_rounded_once) rfl
  have F24 : FunD (tbK K).K "rounded_once" "rounded_once" (defArgs (tp 35)) (defBody (tp 35)) (defScope (tp 35)) [] [] ((tbK K).fA 71) fd24 := F24
  obtain ⟨fd25, F25⟩ := c.d.def_ 25 (d := d_rounded) rfl
  have F25 : FunD (tbK K).K "rounded" "rounded" (defArgs (tp 36)) (defBody (tp 36)) (defScope (tp 36)) [] [] ((tbK K).fA 86) fd25 := F25
  obtain ⟨fd26, F26⟩ := c.d.def_ 26 (d := d_steps_away) rfl
  have F26 : FunD (tbK K).K "steps_away" "steps_away" (defArgs (tp 37)) (defBody (tp 37)) (defScope (tp 37)) [] [] ((tbK K).fA 87) fd26 := F26
  obtain ⟨fd27, F27⟩ := c.d.def_ 27 (d := d_l_source_of) rfl
  have F27 : FunD (tbK K).K "_law_source_of" "_law_source_of" (defArgs (tp 39)) (defBody (tp 39)) (defScope (tp 39)) [] [] ((tbK K).fA 1901) fd27 := F27
  obtain ⟨fd28, F28⟩ := c.d.def_ 28 (d := d_l_next) rfl
  have F28 : FunD (tbK K).K "_law_next" "_law_next" (defArgs (tp 40)) (defBody (tp 40)) (defScope (tp 40)) [] [] ((tbK K).fA 1900) fd28 := F28
  obtain ⟨fd29, F29⟩ := c.d.def_ 29 (d := d_l_cell_at) rfl
  have F29 : FunD (tbK K).K "_law_cell_at" "_law_cell_at" (defArgs (tp 42)) (defBody (tp 42)) (defScope (tp 42)) [] [] ((tbK K).fA 1903) fd29 := F29
  obtain ⟨fd30, F30⟩ := c.d.def_ 30 (d := d_l_common) rfl
  have F30 : FunD (tbK K).K "_law_common" "_law_common" (defArgs (tp 43)) (defBody (tp 43)) (defScope (tp 43)) [] [] ((tbK K).fA 1904) fd30 := F30
  obtain ⟨fd31, F31⟩ := c.d.def_ 31 (d := d_l_number) rfl
  have F31 : FunD (tbK K).K "_law_number" "_law_number" (defArgs (tp 44)) (defBody (tp 44)) (defScope (tp 44)) [] [] ((tbK K).fA 1905) fd31 := F31
  obtain ⟨fd32, F32⟩ := c.d.def_ 32 (d := d_l_power) rfl
  have F32 : FunD (tbK K).K "_law_power" "_law_power" (defArgs (tp 45)) (defBody (tp 45)) (defScope (tp 45)) [] [] ((tbK K).fA 1906) fd32 := F32
  obtain ⟨fd33, F33⟩ := c.d.def_ 33 (d := d_l_nearest) rfl
  have F33 : FunD (tbK K).K "_law_nearest" "_law_nearest" (defArgs (tp 46)) (defBody (tp 46)) (defScope (tp 46)) [] [] ((tbK K).fA 1011) fd33 := F33
  obtain ⟨fd34, F34⟩ := c.d.def_ 34 (d := d_l_placed) rfl
  have F34 : FunD (tbK K).K "_law_placed" "_law_placed" (defArgs (tp 47)) (defBody (tp 47)) (defScope (tp 47)) [] [] ((tbK K).fA 1010) fd34 := F34
  obtain ⟨fd35, F35⟩ := c.d.def_ 35 (d := d_l_told) rfl
  have F35 : FunD (tbK K).K "_law_told" "_law_told" (defArgs (tp 48)) (defBody (tp 48)) (defScope (tp 48)) [] [] ((tbK K).fA 1012) fd35 := F35
  obtain ⟨fd36, F36⟩ := c.d.def_ 36 (d := d_l_right) rfl
  have F36 : FunD (tbK K).K "_law_right" "_law_right" (defArgs (tp 49)) (defBody (tp 49)) (defScope (tp 49)) [] [] ((tbK K).fA 1013) fd36 := F36
  obtain ⟨fd37, F37⟩ := c.d.def_ 37 (d := d_law) rfl
  have F37 : FunD (tbK K).K "law" "law" (defArgs (tp 50)) (defBody (tp 50)) (defScope (tp 50)) [] [] ((tbK K).fA 1014) fd37 := F37
  have ef := hfa.symm.trans m37
  cases ef
  refine ⟨fd37, fun s u => FunD.bindsA (ps := ["_law_script"]) F37 (fun _ _ _ _ _ _ us hl => match us, hl with | [_], _ => rfl) s [u] rfl, fun base TBs => ?_⟩
  obtain ⟨fx0, FX0⟩ := c.d.def_ 38 (d := dx_InvalidFormat) rfl
  have gx_InvalidFormat : GoodX P w (tbK K) mg base 1 1 := by
    have k : exF "FloatsError" "InvalidFormat" "part" K = true := c.ex 3 (f := exF "FloatsError" "InvalidFormat" "part") rfl
    unfold exF at k
    obtain ⟨k1, k⟩ := bk k
    obtain ⟨k2, k⟩ := bk k
    obtain ⟨k3, k⟩ := bk k
    obtain ⟨k4, k5⟩ := bk k
    exact goodX_mk (T := tbK K) (c := 1) (b := "FloatsError") (f := "part") (sf := "self") (ar := "part") (B := He.ga K "FloatsError") (fI := He.ma K (He.ga K "InvalidFormat") "__init__") FX0 (FnScope.by (by decide +kernel)) (by decide +kernel) (by decide +kernel) (by decide +kernel) (by decide +kernel) (by decide +kernel) (oexB_ok k1) (of_decide_eq_true k2) rfl (baF_ok (c.ex 2 (f := baF "FloatsError") rfl)) (He.glo_ok X G (c.d.fact 64 (f := .glo "FloatsError") rfl)) (of_decide_eq_true k3) (of_decide_eq_true k4) (fun _ _ _ _ _ _ us hl => match us, hl with | [_, _], _ => rfl)
  obtain ⟨fx1, FX1⟩ := c.d.def_ 39 (d := dx_InvalidBound) rfl
  have gx_InvalidBound : GoodX P w (tbK K) mg base 1 0 := by
    have k : exF "FloatsError" "InvalidBound" "argument" K = true := c.ex 4 (f := exF "FloatsError" "InvalidBound" "argument") rfl
    unfold exF at k
    obtain ⟨k1, k⟩ := bk k
    obtain ⟨k2, k⟩ := bk k
    obtain ⟨k3, k⟩ := bk k
    obtain ⟨k4, k5⟩ := bk k
    exact goodX_mk (T := tbK K) (c := 0) (b := "FloatsError") (f := "argument") (sf := "self") (ar := "argument") (B := He.ga K "FloatsError") (fI := He.ma K (He.ga K "InvalidBound") "__init__") FX1 (FnScope.by (by decide +kernel)) (by decide +kernel) (by decide +kernel) (by decide +kernel) (by decide +kernel) (by decide +kernel) (oexB_ok k1) (of_decide_eq_true k2) rfl (baF_ok (c.ex 2 (f := baF "FloatsError") rfl)) (He.glo_ok X G (c.d.fact 64 (f := .glo "FloatsError") rfl)) (of_decide_eq_true k3) (of_decide_eq_true k4) (fun _ _ _ _ _ _ us hl => match us, hl with | [_, _], _ => rfl)
  obtain ⟨fx2, FX2⟩ := c.d.def_ 40 (d := dx_Overflow) rfl
  have gx_Overflow : GoodX P w (tbK K) mg base 1 4 := by
    have k : exF "FloatsError" "Overflow" "sign" K = true := c.ex 5 (f := exF "FloatsError" "Overflow" "sign") rfl
    unfold exF at k
    obtain ⟨k1, k⟩ := bk k
    obtain ⟨k2, k⟩ := bk k
    obtain ⟨k3, k⟩ := bk k
    obtain ⟨k4, k5⟩ := bk k
    exact goodX_mk (T := tbK K) (c := 4) (b := "FloatsError") (f := "sign") (sf := "self") (ar := "sign") (B := He.ga K "FloatsError") (fI := He.ma K (He.ga K "Overflow") "__init__") FX2 (FnScope.by (by decide +kernel)) (by decide +kernel) (by decide +kernel) (by decide +kernel) (by decide +kernel) (by decide +kernel) (oexB_ok k1) (of_decide_eq_true k2) rfl (baF_ok (c.ex 2 (f := baF "FloatsError") rfl)) (He.glo_ok X G (c.d.fact 64 (f := .glo "FloatsError") rfl)) (of_decide_eq_true k3) (of_decide_eq_true k4) (fun _ _ _ _ _ _ us hl => match us, hl with | [_, _], _ => rfl)
  have xx_Overflow : (tbK K).xf 4 = "sign" ∧ XfC (tbK K).K ((tbK K).cA 4) ∧ PySem.W.findIn (tbK K).K (.ref ((tbK K).cA 4)) "sign" = some none := by
    have k : exF "FloatsError" "Overflow" "sign" K = true := c.ex 5 (f := exF "FloatsError" "Overflow" "sign") rfl
    unfold exF at k
    obtain ⟨k1, k⟩ := bk k
    obtain ⟨k2, k⟩ := bk k
    obtain ⟨k3, k⟩ := bk k
    obtain ⟨k4, k5⟩ := bk k
    exact ⟨rfl, xfB_ok k5, of_decide_eq_true k2⟩
  have sb : ∀ c1 c2 b, gm.sub c1 c2 = some b → PySem.W.exmOne K (.ref ((tbK K).cA c1)) (.ref ((tbK K).cA c2)) = some b := by
    intro c1 c2 b e
    have hq := mem_lk2 (show subL.lookup (c1, c2) = some b from e)
    unfold subL at hq
    simp only [List.mem_cons, List.not_mem_nil, or_false, Prod.mk.injEq] at hq
    rcases hq with ⟨⟨rfl, rfl⟩, rfl⟩ | ⟨⟨rfl, rfl⟩, rfl⟩
    · exact of_decide_eq_true (c.ex 6 (f := subF "Overflow" "Overflow" true) rfl)
    · exact of_decide_eq_true (c.ex 7 (f := subF "Overflow" "FloatsError" true) rfl)
  have l0 : Lv P w (tbK K) gm mg base 0 [] := Lv.nil
  have sl_0 : ∀ p ∈ W_is_integer.fns, p ∈ ([] : List (Nat × Str)) := fun p hp => by cases hp
  have cv_0 : W_is_integer.cv = true → (∀ n, n < 1000 → (∃ ds h Q R, gm.fn n ds h Q R) → Good P w (tbK K) mg base 0 n (gm.fn n)) ∧ (∀ n vs ds h Q R, ¬ gm.clo n vs ds h Q R) ∧ (∀ n, n < 1000 → PySem.W.keepIn (tbK K).K (.ref ((tbK K).fA n)) = true) := fun z => by cases z
  have og0 : OkG W_is_integer (tbK K) gm P w mg base 0 := {
    fr := fr,
    fns := fun p hp => l0 p (sl_0 p hp),
    fnK := (fun p hp => by cases hp),
    fnD := (fun p hp => by cases hp),
    cons := (fun p hp => by cases hp),
    tbl := rfl,
    cv := cv_0,
    mks := (fun p hp => by cases hp),
    mets := (fun p hp => by cases hp),
    flds := (fun p hp => by cases hp),
    iso := (fun p hp => by cases hp),
    rss := (fun p hp => by cases hp),
    hcl := (fun p hp => by cases hp),
    exm := sb,
    xfs := (fun p hp => by cases hp) }
  have g0 : Good P w (tbK K) mg base 1 1 (gm.fn 1) := good_mk F0 sc_is_integer og0 rfl rfl ck_is_integer (b_is_integer.d m_is_integer) fun _ _ _ _ _ _ us hl => match us, hl with | [_], _ => rfl
  have l1 : Lv P w (tbK K) gm mg base 1 [q_is_integer] := l0.cons g0 m0
  have sl_1 : ∀ p ∈ W_is_between.fns, p ∈ ([q_is_integer] : List (Nat × Str)) := by decide +kernel
  have cv_1 : W_is_between.cv = true → (∀ n, n < 1000 → (∃ ds h Q R, gm.fn n ds h Q R) → Good P w (tbK K) mg base 1 n (gm.fn n)) ∧ (∀ n vs ds h Q R, ¬ gm.clo n vs ds h Q R) ∧ (∀ n, n < 1000 → PySem.W.keepIn (tbK K).K (.ref ((tbK K).fA n)) = true) := fun z => by cases z
  have og1 : OkG W_is_between (tbK K) gm P w mg base 1 := {
    fr := fr,
    fns := fun p hp => l1 p (sl_1 p hp),
    fnK := (fun p hp => by cases hp),
    fnD := (fun p hp => by cases hp),
    cons := (fun p hp => by cases hp),
    tbl := rfl,
    cv := cv_1,
    mks := (fun p hp => by cases hp),
    mets := (fun p hp => by cases hp),
    flds := (fun p hp => by cases hp),
    iso := (fun p hp => by cases hp),
    rss := (fun p hp => by cases hp),
    hcl := (fun p hp => by cases hp),
    exm := sb,
    xfs := (fun p hp => by cases hp) }
  have g1 : Good P w (tbK K) mg base 2 6 (gm.fn 6) := good_mk F1 sc_is_between og1 rfl rfl ck_is_between ((b_is_between (gam_at rfl)).d m_is_between) fun _ _ _ _ _ _ us hl => match us, hl with | [_, _, _], _ => rfl
  have l2 : Lv P w (tbK K) gm mg base 2 [q_is_between, q_is_integer] := l1.cons g1 m1
  have sl_2 : ∀ p ∈ W_divisor.fns, p ∈ ([q_is_between, q_is_integer] : List (Nat × Str)) := fun p hp => by cases hp
  have cv_2 : W_divisor.cv = true → (∀ n, n < 1000 → (∃ ds h Q R, gm.fn n ds h Q R) → Good P w (tbK K) mg base 2 n (gm.fn n)) ∧ (∀ n vs ds h Q R, ¬ gm.clo n vs ds h Q R) ∧ (∀ n, n < 1000 → PySem.W.keepIn (tbK K).K (.ref ((tbK K).fA n)) = true) := fun z => by cases z
  have og2 : OkG W_divisor (tbK K) gm P w mg base 2 := {
    fr := fr,
    fns := fun p hp => l2 p (sl_2 p hp),
    fnK := (fun p hp => by cases hp),
    fnD := (fun p hp => by cases hp),
    cons := (fun p hp => by cases hp),
    tbl := rfl,
    cv := cv_2,
    mks := (fun p hp => by cases hp),
    mets := (fun p hp => by cases hp),
    flds := (fun p hp => by cases hp),
    iso := (fun p hp => by cases hp),
    rss := (fun p hp => by cases hp),
    hcl := (fun p hp => by cases hp),
    exm := sb,
    xfs := (fun p hp => by cases hp) }
  have g2 : Good P w (tbK K) mg base 3 23 (gm.fn 23) := good_mk F2 sc_divisor og2 rfl rfl ck_divisor (b_divisor.d m_divisor) fun _ _ _ _ _ _ us hl => match us, hl with | [_, _], _ => rfl
  have l3 : Lv P w (tbK K) gm mg base 3 [q_divisor, q_is_between, q_is_integer] := l2.cons g2 m2
  have sl_3 : ∀ p ∈ W_fraction.fns, p ∈ ([q_divisor, q_is_between, q_is_integer] : List (Nat × Str)) := by decide +kernel
  have cv_3 : W_fraction.cv = true → (∀ n, n < 1000 → (∃ ds h Q R, gm.fn n ds h Q R) → Good P w (tbK K) mg base 3 n (gm.fn n)) ∧ (∀ n vs ds h Q R, ¬ gm.clo n vs ds h Q R) ∧ (∀ n, n < 1000 → PySem.W.keepIn (tbK K).K (.ref ((tbK K).fA n)) = true) := fun z => by cases z
  have og3 : OkG W_fraction (tbK K) gm P w mg base 3 := {
    fr := fr,
    fns := fun p hp => l3 p (sl_3 p hp),
    fnK := (fun p hp => by cases hp),
    fnD := (fun p hp => by cases hp),
    cons := (fun p hp => by cases hp),
    tbl := rfl,
    cv := cv_3,
    mks := (fun p hp => by cases hp),
    mets := (fun p hp => by cases hp),
    flds := (fun p hp => by cases hp),
    iso := (fun p hp => by cases hp),
    rss := (fun p hp => by cases hp),
    hcl := (fun p hp => by cases hp),
    exm := sb,
    xfs := (fun p hp => by cases hp) }
  have g3 : Good P w (tbK K) mg base 4 24 (gm.fn 24) := good_mk F3 sc_fraction og3 rfl rfl ck_fraction ((b_fraction (gam_at rfl)).d m_fraction) fun _ _ _ _ _ _ us hl => match us, hl with | [_, _], _ => rfl
  have l4 : Lv P w (tbK K) gm mg base 4 [q_fraction, q_divisor, q_is_between, q_is_integer] := l3.cons g3 m3
  have sl_4 : ∀ p ∈ W_is_number.fns, p ∈ ([q_fraction, q_divisor, q_is_between, q_is_integer] : List (Nat × Str)) := by decide +kernel
  have cv_4 : W_is_number.cv = true → (∀ n, n < 1000 → (∃ ds h Q R, gm.fn n ds h Q R) → Good P w (tbK K) mg base 4 n (gm.fn n)) ∧ (∀ n vs ds h Q R, ¬ gm.clo n vs ds h Q R) ∧ (∀ n, n < 1000 → PySem.W.keepIn (tbK K).K (.ref ((tbK K).fA n)) = true) := fun z => by cases z
  have og4 : OkG W_is_number (tbK K) gm P w mg base 4 := {
    fr := fr,
    fns := fun p hp => l4 p (sl_4 p hp),
    fnK := (fun p hp => by cases hp),
    fnD := (fun p hp => by cases hp),
    cons := (fun p hp => by cases hp),
    tbl := rfl,
    cv := cv_4,
    mks := (fun p hp => by cases hp),
    mets := (fun p hp => by cases hp),
    flds := (fun p hp => by cases hp),
    iso := (fun p hp => by cases hp),
    rss := (fun p hp => by cases hp),
    hcl := (fun p hp => by cases hp),
    exm := sb,
    xfs := (fun p hp => by cases hp) }
  have g4 : Good P w (tbK K) mg base 5 45 (gm.fn 45) := good_mk F4 sc_is_number og4 rfl rfl ck_is_number ((b_is_number (gam_at rfl) (gam_at rfl)).d m_is_number) fun _ _ _ _ _ _ us hl => match us, hl with | [_], _ => rfl
  have l5 : Lv P w (tbK K) gm mg base 5 [q_is_number, q_fraction, q_divisor, q_is_between, q_is_integer] := l4.cons g4 m4
  have sl_5 : ∀ p ∈ W_check_number.fns, p ∈ ([q_is_number, q_fraction, q_divisor, q_is_between, q_is_integer] : List (Nat × Str)) := by decide +kernel
  have cv_5 : W_check_number.cv = true → (∀ n, n < 1000 → (∃ ds h Q R, gm.fn n ds h Q R) → Good P w (tbK K) mg base 5 n (gm.fn n)) ∧ (∀ n vs ds h Q R, ¬ gm.clo n vs ds h Q R) ∧ (∀ n, n < 1000 → PySem.W.keepIn (tbK K).K (.ref ((tbK K).fA n)) = true) := fun z => by cases z
  have og5 : OkG W_check_number (tbK K) gm P w mg base 5 := {
    fr := fr,
    fns := fun p hp => l5 p (sl_5 p hp),
    fnK := (fun p hp => by cases hp),
    fnD := (fun p hp => by cases hp),
    cons := (fun p hp => by cases hp),
    tbl := rfl,
    cv := cv_5,
    mks := (fun p hp => by cases hp),
    mets := (fun p hp => by cases hp),
    flds := (fun p hp => by cases hp),
    iso := (fun p hp => by cases hp),
    rss := (fun p hp => by
      unfold W_check_number at hp
      simp only [List.mem_cons, List.not_mem_nil, or_false] at hp
      rcases hp with rfl
      · exact ⟨1, by decide, gx_InvalidBound, mc_InvalidBound⟩),
    hcl := (fun p hp => by cases hp),
    exm := sb,
    xfs := (fun p hp => by cases hp) }
  have g5 : Good P w (tbK K) mg base 6 53 (gm.fn 53) := good_mk F5 sc_check_number og5 rfl rfl ck_check_number ((b_check_number (gam_at rfl)).d m_check_number) fun _ _ _ _ _ _ us hl => match us, hl with | [_, _], _ => rfl
  have l6 : Lv P w (tbK K) gm mg base 6 [q_check_number, q_is_number, q_fraction, q_divisor, q_is_between, q_is_integer] := l5.cons g5 m5
  have sl_6 : ∀ p ∈ W_power.fns, p ∈ ([q_check_number, q_is_number, q_fraction, q_divisor, q_is_between, q_is_integer] : List (Nat × Str)) := fun p hp => by cases hp
  have cv_6 : W_power.cv = true → (∀ n, n < 1000 → (∃ ds h Q R, gm.fn n ds h Q R) → Good P w (tbK K) mg base 6 n (gm.fn n)) ∧ (∀ n vs ds h Q R, ¬ gm.clo n vs ds h Q R) ∧ (∀ n, n < 1000 → PySem.W.keepIn (tbK K).K (.ref ((tbK K).fA n)) = true) := fun z => by cases z
  have og6 : OkG W_power (tbK K) gm P w mg base 6 := {
    fr := fr,
    fns := fun p hp => l6 p (sl_6 p hp),
    fnK := (fun p hp => by cases hp),
    fnD := (fun p hp => by cases hp),
    cons := (fun p hp => by cases hp),
    tbl := rfl,
    cv := cv_6,
    mks := (fun p hp => by cases hp),
    mets := (fun p hp => by cases hp),
    flds := (fun p hp => by cases hp),
    iso := (fun p hp => by cases hp),
    rss := (fun p hp => by cases hp),
    hcl := (fun p hp => by cases hp),
    exm := sb,
    xfs := (fun p hp => by cases hp) }
  have g6 : Good P w (tbK K) mg base 7 28 (gm.fn 28) := good_mk F6 sc_power og6 rfl rfl ck_power (b_power.d m_power) fun _ _ _ _ _ _ us hl => match us, hl with | [_], _ => rfl
  have l7 : Lv P w (tbK K) gm mg base 7 [q_power, q_check_number, q_is_number, q_fraction, q_divisor, q_is_between, q_is_integer] := l6.cons g6 m6
  have sl_7 : ∀ p ∈ W_minus.fns, p ∈ ([q_power, q_check_number, q_is_number, q_fraction, q_divisor, q_is_between, q_is_integer] : List (Nat × Str)) := by decide +kernel
  have cv_7 : W_minus.cv = true → (∀ n, n < 1000 → (∃ ds h Q R, gm.fn n ds h Q R) → Good P w (tbK K) mg base 7 n (gm.fn n)) ∧ (∀ n vs ds h Q R, ¬ gm.clo n vs ds h Q R) ∧ (∀ n, n < 1000 → PySem.W.keepIn (tbK K).K (.ref ((tbK K).fA n)) = true) := fun z => by cases z
  have og7 : OkG W_minus (tbK K) gm P w mg base 7 := {
    fr := fr,
    fns := fun p hp => l7 p (sl_7 p hp),
    fnK := (fun p hp => by cases hp),
    fnD := (fun p hp => by cases hp),
    cons := (fun p hp => by cases hp),
    tbl := rfl,
    cv := cv_7,
    mks := (fun p hp => by cases hp),
    mets := (fun p hp => by cases hp),
    flds := (fun p hp => by cases hp),
    iso := (fun p hp => by cases hp),
    rss := (fun p hp => by cases hp),
    hcl := (fun p hp => by cases hp),
    exm := sb,
    xfs := (fun p hp => by cases hp) }
  have g7 : Good P w (tbK K) mg base 8 47 (gm.fn 47) := good_mk F7 sc_minus og7 rfl rfl ck_minus ((b_minus (gam_at rfl)).d m_minus) fun _ _ _ _ _ _ us hl => match us, hl with | [_, _], _ => rfl
  have l8 : Lv P w (tbK K) gm mg base 8 [q_minus, q_power, q_check_number, q_is_number, q_fraction, q_divisor, q_is_between, q_is_integer] := l7.cons g7 m7
  have sl_8 : ∀ p ∈ W_times.fns, p ∈ ([q_minus, q_power, q_check_number, q_is_number, q_fraction, q_divisor, q_is_between, q_is_integer] : List (Nat × Str)) := by decide +kernel
  have cv_8 : W_times.cv = true → (∀ n, n < 1000 → (∃ ds h Q R, gm.fn n ds h Q R) → Good P w (tbK K) mg base 8 n (gm.fn n)) ∧ (∀ n vs ds h Q R, ¬ gm.clo n vs ds h Q R) ∧ (∀ n, n < 1000 → PySem.W.keepIn (tbK K).K (.ref ((tbK K).fA n)) = true) := fun z => by cases z
  have og8 : OkG W_times (tbK K) gm P w mg base 8 := {
    fr := fr,
    fns := fun p hp => l8 p (sl_8 p hp),
    fnK := (fun p hp => by cases hp),
    fnD := (fun p hp => by cases hp),
    cons := (fun p hp => by cases hp),
    tbl := rfl,
    cv := cv_8,
    mks := (fun p hp => by cases hp),
    mets := (fun p hp => by cases hp),
    flds := (fun p hp => by cases hp),
    iso := (fun p hp => by cases hp),
    rss := (fun p hp => by cases hp),
    hcl := (fun p hp => by cases hp),
    exm := sb,
    xfs := (fun p hp => by cases hp) }
  have g8 : Good P w (tbK K) mg base 9 32 (gm.fn 32) := good_mk F8 sc_times og8 rfl rfl ck_times ((b_times (gam_at rfl)).d m_times) fun _ _ _ _ _ _ us hl => match us, hl with | [_, _], _ => rfl
  have l9 : Lv P w (tbK K) gm mg base 9 [q_times, q_minus, q_power, q_check_number, q_is_number, q_fraction, q_divisor, q_is_between, q_is_integer] := l8.cons g8 m8
  have sl_9 : ∀ p ∈ W_over.fns, p ∈ ([q_times, q_minus, q_power, q_check_number, q_is_number, q_fraction, q_divisor, q_is_between, q_is_integer] : List (Nat × Str)) := by decide +kernel
  have cv_9 : W_over.cv = true → (∀ n, n < 1000 → (∃ ds h Q R, gm.fn n ds h Q R) → Good P w (tbK K) mg base 9 n (gm.fn n)) ∧ (∀ n vs ds h Q R, ¬ gm.clo n vs ds h Q R) ∧ (∀ n, n < 1000 → PySem.W.keepIn (tbK K).K (.ref ((tbK K).fA n)) = true) := fun z => by cases z
  have og9 : OkG W_over (tbK K) gm P w mg base 9 := {
    fr := fr,
    fns := fun p hp => l9 p (sl_9 p hp),
    fnK := (fun p hp => by cases hp),
    fnD := (fun p hp => by cases hp),
    cons := (fun p hp => by cases hp),
    tbl := rfl,
    cv := cv_9,
    mks := (fun p hp => by cases hp),
    mets := (fun p hp => by cases hp),
    flds := (fun p hp => by cases hp),
    iso := (fun p hp => by cases hp),
    rss := (fun p hp => by cases hp),
    hcl := (fun p hp => by cases hp),
    exm := sb,
    xfs := (fun p hp => by cases hp) }
  have g9 : Good P w (tbK K) mg base 10 34 (gm.fn 34) := good_mk F9 sc_over og9 rfl rfl ck_over ((b_over (gam_at rfl)).d m_over) fun _ _ _ _ _ _ us hl => match us, hl with | [_, _], _ => rfl
  have l10 : Lv P w (tbK K) gm mg base 10 [q_over, q_times, q_minus, q_power, q_check_number, q_is_number, q_fraction, q_divisor, q_is_between, q_is_integer] := l9.cons g9 m9
  have sl_10 : ∀ p ∈ W_is_less.fns, p ∈ ([q_over, q_times, q_minus, q_power, q_check_number, q_is_number, q_fraction, q_divisor, q_is_between, q_is_integer] : List (Nat × Str)) := fun p hp => by cases hp
  have cv_10 : W_is_less.cv = true → (∀ n, n < 1000 → (∃ ds h Q R, gm.fn n ds h Q R) → Good P w (tbK K) mg base 10 n (gm.fn n)) ∧ (∀ n vs ds h Q R, ¬ gm.clo n vs ds h Q R) ∧ (∀ n, n < 1000 → PySem.W.keepIn (tbK K).K (.ref ((tbK K).fA n)) = true) := fun z => by cases z
  have og10 : OkG W_is_less (tbK K) gm P w mg base 10 := {
    fr := fr,
    fns := fun p hp => l10 p (sl_10 p hp),
    fnK := (fun p hp => by cases hp),
    fnD := (fun p hp => by cases hp),
    cons := (fun p hp => by cases hp),
    tbl := rfl,
    cv := cv_10,
    mks := (fun p hp => by cases hp),
    mets := (fun p hp => by cases hp),
    flds := (fun p hp => by cases hp),
    iso := (fun p hp => by cases hp),
    rss := (fun p hp => by cases hp),
    hcl := (fun p hp => by cases hp),
    exm := sb,
    xfs := (fun p hp => by cases hp) }
  have g10 : Good P w (tbK K) mg base 11 27 (gm.fn 27) := good_mk F10 sc_is_less og10 rfl rfl ck_is_less (b_is_less.d m_is_less) fun _ _ _ _ _ _ us hl => match us, hl with | [_, _], _ => rfl
  have l11 : Lv P w (tbK K) gm mg base 11 [q_is_less, q_over, q_times, q_minus, q_power, q_check_number, q_is_number, q_fraction, q_divisor, q_is_between, q_is_integer] := l10.cons g10 m10
  have sl_11 : ∀ p ∈ W_size_of.fns, p ∈ ([q_is_less, q_over, q_times, q_minus, q_power, q_check_number, q_is_number, q_fraction, q_divisor, q_is_between, q_is_integer] : List (Nat × Str)) := fun p hp => by cases hp
  have cv_11 : W_size_of.cv = true → (∀ n, n < 1000 → (∃ ds h Q R, gm.fn n ds h Q R) → Good P w (tbK K) mg base 11 n (gm.fn n)) ∧ (∀ n vs ds h Q R, ¬ gm.clo n vs ds h Q R) ∧ (∀ n, n < 1000 → PySem.W.keepIn (tbK K).K (.ref ((tbK K).fA n)) = true) := fun z => by cases z
  have og11 : OkG W_size_of (tbK K) gm P w mg base 11 := {
    fr := fr,
    fns := fun p hp => l11 p (sl_11 p hp),
    fnK := (fun p hp => by cases hp),
    fnD := (fun p hp => by cases hp),
    cons := (fun p hp => by cases hp),
    tbl := rfl,
    cv := cv_11,
    mks := (fun p hp => by cases hp),
    mets := (fun p hp => by cases hp),
    flds := (fun p hp => by cases hp),
    iso := (fun p hp => by cases hp),
    rss := (fun p hp => by cases hp),
    hcl := (fun p hp => by cases hp),
    exm := sb,
    xfs := (fun p hp => by cases hp) }
  have g11 : Good P w (tbK K) mg base 12 26 (gm.fn 26) := good_mk F11 sc_size_of og11 rfl rfl ck_size_of (b_size_of.d m_size_of) fun _ _ _ _ _ _ us hl => match us, hl with | [_], _ => rfl
  have l12 : Lv P w (tbK K) gm mg base 12 [q_size_of, q_is_less, q_over, q_times, q_minus, q_power, q_check_number, q_is_number, q_fraction, q_divisor, q_is_between, q_is_integer] := l11.cons g11 m11
  have sl_12 : ∀ p ∈ W_Format_init.fns, p ∈ ([q_size_of, q_is_less, q_over, q_times, q_minus, q_power, q_check_number, q_is_number, q_fraction, q_divisor, q_is_between, q_is_integer] : List (Nat × Str)) := by decide +kernel
  have cv_12 : W_Format_init.cv = true → (∀ n, n < 1000 → (∃ ds h Q R, gm.fn n ds h Q R) → Good P w (tbK K) mg base 12 n (gm.fn n)) ∧ (∀ n vs ds h Q R, ¬ gm.clo n vs ds h Q R) ∧ (∀ n, n < 1000 → PySem.W.keepIn (tbK K).K (.ref ((tbK K).fA n)) = true) := fun z => by cases z
  have og12 : OkG W_Format_init (tbK K) gm P w mg base 12 := {
    fr := fr,
    fns := fun p hp => l12 p (sl_12 p hp),
    fnK := (fun p hp => by cases hp),
    fnD := (fun p hp => by cases hp),
    cons := (fun p hp => by
      unfold W_Format_init at hp
      simp only [List.mem_cons, List.not_mem_nil, or_false] at hp
      rcases hp with rfl | rfl
      · exact cn_MOST_PRECISION
      · exact cn_MOST_EXPONENT),
    tbl := rfl,
    cv := cv_12,
    mks := (fun p hp => by cases hp),
    mets := (fun p hp => by cases hp),
    flds := (fun p hp => by
      unfold W_Format_init at hp
      simp only [List.mem_cons, List.not_mem_nil, or_false] at hp
      rcases hp with rfl | rfl | rfl
      · exact na_Format_precision
      · exact na_Format_low
      · exact na_Format_high),
    iso := (fun p hp => by cases hp),
    rss := (fun p hp => by
      unfold W_Format_init at hp
      simp only [List.mem_cons, List.not_mem_nil, or_false] at hp
      rcases hp with rfl
      · exact ⟨1, by decide, gx_InvalidFormat, mc_InvalidFormat⟩),
    hcl := (fun p hp => by cases hp),
    exm := sb,
    xfs := (fun p hp => by cases hp) }
  have gi_Format : GoodI P w (tbK K) mg base 13 43 2 (gm.fn 43) := goodI_mk (n := 43) (c := 2) F12 sc_Format_init og12 rfl rfl ck_Format_init ((b_Format_init (gam_at rfl)).d m_Format_init) mk_Format cl_Format fun _ _ _ _ _ _ us hl => match us, hl with | [_, _, _, _], _ => rfl
  have l13 : Lv P w (tbK K) gm mg base 13 [q_size_of, q_is_less, q_over, q_times, q_minus, q_power, q_check_number, q_is_number, q_fraction, q_divisor, q_is_between, q_is_integer] := l12.up
  have sl_13 : ∀ p ∈ W_check_format.fns, p ∈ ([q_size_of, q_is_less, q_over, q_times, q_minus, q_power, q_check_number, q_is_number, q_fraction, q_divisor, q_is_between, q_is_integer] : List (Nat × Str)) := fun p hp => by cases hp
  have cv_13 : W_check_format.cv = true → (∀ n, n < 1000 → (∃ ds h Q R, gm.fn n ds h Q R) → Good P w (tbK K) mg base 13 n (gm.fn n)) ∧ (∀ n vs ds h Q R, ¬ gm.clo n vs ds h Q R) ∧ (∀ n, n < 1000 → PySem.W.keepIn (tbK K).K (.ref ((tbK K).fA n)) = true) := fun z => by cases z
  have og13 : OkG W_check_format (tbK K) gm P w mg base 13 := {
    fr := fr,
    fns := fun p hp => l13 p (sl_13 p hp),
    fnK := (fun p hp => by cases hp),
    fnD := (fun p hp => by cases hp),
    cons := (fun p hp => by cases hp),
    tbl := rfl,
    cv := cv_13,
    mks := (fun p hp => by cases hp),
    mets := (fun p hp => by cases hp),
    flds := (fun p hp => by cases hp),
    iso := (fun p hp => by
      unfold W_check_format at hp
      simp only [List.mem_cons, List.not_mem_nil, or_false] at hp
      rcases hp with rfl
      · exact ⟨mc_Format, is_Format⟩),
    rss := (fun p hp => by
      unfold W_check_format at hp
      simp only [List.mem_cons, List.not_mem_nil, or_false] at hp
      rcases hp with rfl
      · exact ⟨1, by decide, gx_InvalidBound, mc_InvalidBound⟩),
    hcl := (fun p hp => by cases hp),
    exm := sb,
    xfs := (fun p hp => by cases hp) }
  have g13 : Good P w (tbK K) mg base 14 39 (gm.fn 39) := good_mk F13 sc_check_format og13 rfl rfl ck_check_format (b_check_format.d m_check_format) fun _ _ _ _ _ _ us hl => match us, hl with | [_], _ => rfl
  have l14 : Lv P w (tbK K) gm mg base 14 [q_check_format, q_size_of, q_is_less, q_over, q_times, q_minus, q_power, q_check_number, q_is_number, q_fraction, q_divisor, q_is_between, q_is_integer] := l13.cons g13 m13
  have sl_14 : ∀ p ∈ W_exponent.fns, p ∈ ([q_check_format, q_size_of, q_is_less, q_over, q_times, q_minus, q_power, q_check_number, q_is_number, q_fraction, q_divisor, q_is_between, q_is_integer] : List (Nat × Str)) := by decide +kernel
  have cv_14 : W_exponent.cv = true → (∀ n, n < 1000 → (∃ ds h Q R, gm.fn n ds h Q R) → Good P w (tbK K) mg base 14 n (gm.fn n)) ∧ (∀ n vs ds h Q R, ¬ gm.clo n vs ds h Q R) ∧ (∀ n, n < 1000 → PySem.W.keepIn (tbK K).K (.ref ((tbK K).fA n)) = true) := fun z => by cases z
  have og14 : OkG W_exponent (tbK K) gm P w mg base 14 := {
    fr := fr,
    fns := fun p hp => l14 p (sl_14 p hp),
    fnK := (fun p hp => by cases hp),
    fnD := (fun p hp => by cases hp),
    cons := (fun p hp => by cases hp),
    tbl := rfl,
    cv := cv_14,
    mks := (fun p hp => by cases hp),
    mets := (fun p hp => by cases hp),
    flds := (fun p hp => by cases hp),
    iso := (fun p hp => by cases hp),
    rss := (fun p hp => by cases hp),
    hcl := (fun p hp => by cases hp),
    exm := sb,
    xfs := (fun p hp => by cases hp) }
  have g14 : Good P w (tbK K) mg base 15 29 (gm.fn 29) := good_mk F14 sc_exponent og14 rfl rfl ck_exponent ((b_exponent (gam_at rfl) (gam_at rfl) (gam_at rfl)).d m_exponent) fun _ _ _ _ _ _ us hl => match us, hl with | [_], _ => rfl
  have l15 : Lv P w (tbK K) gm mg base 15 [q_exponent, q_check_format, q_size_of, q_is_less, q_over, q_times, q_minus, q_power, q_check_number, q_is_number, q_fraction, q_divisor, q_is_between, q_is_integer] := l14.cons g14 m14
  have sl_15 : ∀ p ∈ W_unit_exponent.fns, p ∈ ([q_exponent, q_check_format, q_size_of, q_is_less, q_over, q_times, q_minus, q_power, q_check_number, q_is_number, q_fraction, q_divisor, q_is_between, q_is_integer] : List (Nat × Str)) := by decide +kernel
  have cv_15 : W_unit_exponent.cv = true → (∀ n, n < 1000 → (∃ ds h Q R, gm.fn n ds h Q R) → Good P w (tbK K) mg base 15 n (gm.fn n)) ∧ (∀ n vs ds h Q R, ¬ gm.clo n vs ds h Q R) ∧ (∀ n, n < 1000 → PySem.W.keepIn (tbK K).K (.ref ((tbK K).fA n)) = true) := fun z => by cases z
  have og15 : OkG W_unit_exponent (tbK K) gm P w mg base 15 := {
    fr := fr,
    fns := fun p hp => l15 p (sl_15 p hp),
    fnK := (fun p hp => by cases hp),
    fnD := (fun p hp => by cases hp),
    cons := (fun p hp => by cases hp),
    tbl := rfl,
    cv := cv_15,
    mks := (fun p hp => by cases hp),
    mets := (fun p hp => by cases hp),
    flds := (fun p hp => by
      unfold W_unit_exponent at hp
      simp only [List.mem_cons, List.not_mem_nil, or_false] at hp
      rcases hp with rfl | rfl
      · exact na_Format_precision
      · exact na_Format_low),
    iso := (fun p hp => by cases hp),
    rss := (fun p hp => by cases hp),
    hcl := (fun p hp => by cases hp),
    exm := sb,
    xfs := (fun p hp => by cases hp) }
  have g15 : Good P w (tbK K) mg base 16 33 (gm.fn 33) := good_mk F15 sc_unit_exponent og15 rfl rfl ck_unit_exponent ((b_unit_exponent (gam_at rfl)).d m_unit_exponent) fun _ _ _ _ _ _ us hl => match us, hl with | [_, _], _ => rfl
  have l16 : Lv P w (tbK K) gm mg base 16 [q_unit_exponent, q_exponent, q_check_format, q_size_of, q_is_less, q_over, q_times, q_minus, q_power, q_check_number, q_is_number, q_fraction, q_divisor, q_is_between, q_is_integer] := l15.cons g15 m15
  have sl_16 : ∀ p ∈ W_most_order.fns, p ∈ ([q_unit_exponent, q_exponent, q_check_format, q_size_of, q_is_less, q_over, q_times, q_minus, q_power, q_check_number, q_is_number, q_fraction, q_divisor, q_is_between, q_is_integer] : List (Nat × Str)) := fun p hp => by cases hp
  have cv_16 : W_most_order.cv = true → (∀ n, n < 1000 → (∃ ds h Q R, gm.fn n ds h Q R) → Good P w (tbK K) mg base 16 n (gm.fn n)) ∧ (∀ n vs ds h Q R, ¬ gm.clo n vs ds h Q R) ∧ (∀ n, n < 1000 → PySem.W.keepIn (tbK K).K (.ref ((tbK K).fA n)) = true) := fun z => by cases z
  have og16 : OkG W_most_order (tbK K) gm P w mg base 16 := {
    fr := fr,
    fns := fun p hp => l16 p (sl_16 p hp),
    fnK := (fun p hp => by cases hp),
    fnD := (fun p hp => by cases hp),
    cons := (fun p hp => by cases hp),
    tbl := rfl,
    cv := cv_16,
    mks := (fun p hp => by cases hp),
    mets := (fun p hp => by cases hp),
    flds := (fun p hp => by
      unfold W_most_order at hp
      simp only [List.mem_cons, List.not_mem_nil, or_false] at hp
      rcases hp with rfl | rfl | rfl
      · exact na_Format_precision
      · exact na_Format_low
      · exact na_Format_high),
    iso := (fun p hp => by cases hp),
    rss := (fun p hp => by cases hp),
    hcl := (fun p hp => by cases hp),
    exm := sb,
    xfs := (fun p hp => by cases hp) }
  have g16 : Good P w (tbK K) mg base 17 52 (gm.fn 52) := good_mk F16 sc_most_order og16 rfl rfl ck_most_order (b_most_order.d m_most_order) fun _ _ _ _ _ _ us hl => match us, hl with | [_], _ => rfl
  have l17 : Lv P w (tbK K) gm mg base 17 [q_most_order, q_unit_exponent, q_exponent, q_check_format, q_size_of, q_is_less, q_over, q_times, q_minus, q_power, q_check_number, q_is_number, q_fraction, q_divisor, q_is_between, q_is_integer] := l16.cons g16 m16
  have sl_17 : ∀ p ∈ W_value_of.fns, p ∈ ([q_most_order, q_unit_exponent, q_exponent, q_check_format, q_size_of, q_is_less, q_over, q_times, q_minus, q_power, q_check_number, q_is_number, q_fraction, q_divisor, q_is_between, q_is_integer] : List (Nat × Str)) := by decide +kernel
  have cv_17 : W_value_of.cv = true → (∀ n, n < 1000 → (∃ ds h Q R, gm.fn n ds h Q R) → Good P w (tbK K) mg base 17 n (gm.fn n)) ∧ (∀ n vs ds h Q R, ¬ gm.clo n vs ds h Q R) ∧ (∀ n, n < 1000 → PySem.W.keepIn (tbK K).K (.ref ((tbK K).fA n)) = true) := fun z => by cases z
  have og17 : OkG W_value_of (tbK K) gm P w mg base 17 := {
    fr := fr,
    fns := fun p hp => l17 p (sl_17 p hp),
    fnK := (fun p hp => by cases hp),
    fnD := (fun p hp => by cases hp),
    cons := (fun p hp => by cases hp),
    tbl := rfl,
    cv := cv_17,
    mks := (fun p hp => by cases hp),
    mets := (fun p hp => by cases hp),
    flds := (fun p hp => by
      unfold W_value_of at hp
      simp only [List.mem_cons, List.not_mem_nil, or_false] at hp
      rcases hp with rfl | rfl
      · exact na_Format_precision
      · exact na_Format_low),
    iso := (fun p hp => by cases hp),
    rss := (fun p hp => by cases hp),
    hcl := (fun p hp => by cases hp),
    exm := sb,
    xfs := (fun p hp => by cases hp) }
  have g17 : Good P w (tbK K) mg base 18 50 (gm.fn 50) := good_mk F17 sc_value_of og17 rfl rfl ck_value_of ((b_value_of (gam_at rfl) (gam_at rfl)).d m_value_of) fun _ _ _ _ _ _ us hl => match us, hl with | [_, _], _ => rfl
  have l18 : Lv P w (tbK K) gm mg base 18 [q_value_of, q_most_order, q_unit_exponent, q_exponent, q_check_format, q_size_of, q_is_less, q_over, q_times, q_minus, q_power, q_check_number, q_is_number, q_fraction, q_divisor, q_is_between, q_is_integer] := l17.cons g17 m17
  have sl_18 : ∀ p ∈ W_greatest.fns, p ∈ ([q_value_of, q_most_order, q_unit_exponent, q_exponent, q_check_format, q_size_of, q_is_less, q_over, q_times, q_minus, q_power, q_check_number, q_is_number, q_fraction, q_divisor, q_is_between, q_is_integer] : List (Nat × Str)) := by decide +kernel
  have cv_18 : W_greatest.cv = true → (∀ n, n < 1000 → (∃ ds h Q R, gm.fn n ds h Q R) → Good P w (tbK K) mg base 18 n (gm.fn n)) ∧ (∀ n vs ds h Q R, ¬ gm.clo n vs ds h Q R) ∧ (∀ n, n < 1000 → PySem.W.keepIn (tbK K).K (.ref ((tbK K).fA n)) = true) := fun z => by cases z
  have og18 : OkG W_greatest (tbK K) gm P w mg base 18 := {
    fr := fr,
    fns := fun p hp => l18 p (sl_18 p hp),
    fnK := (fun p hp => by cases hp),
    fnD := (fun p hp => by cases hp),
    cons := (fun p hp => by cases hp),
    tbl := rfl,
    cv := cv_18,
    mks := (fun p hp => by cases hp),
    mets := (fun p hp => by cases hp),
    flds := (fun p hp => by cases hp),
    iso := (fun p hp => by cases hp),
    rss := (fun p hp => by cases hp),
    hcl := (fun p hp => by cases hp),
    exm := sb,
    xfs := (fun p hp => by cases hp) }
  have g18 : Good P w (tbK K) mg base 19 61 (gm.fn 61) := good_mk F18 sc_greatest og18 rfl rfl ck_greatest ((b_greatest (gam_at rfl) (gam_at rfl) (gam_at rfl)).d m_greatest) fun _ _ _ _ _ _ us hl => match us, hl with | [_], _ => rfl
  have l19 : Lv P w (tbK K) gm mg base 19 [q_greatest, q_value_of, q_most_order, q_unit_exponent, q_exponent, q_check_format, q_size_of, q_is_less, q_over, q_times, q_minus, q_power, q_check_number, q_is_number, q_fraction, q_divisor, q_is_between, q_is_integer] := l18.cons g18 m18
  have sl_19 : ∀ p ∈ W_is_far.fns, p ∈ ([q_greatest, q_value_of, q_most_order, q_unit_exponent, q_exponent, q_check_format, q_size_of, q_is_less, q_over, q_times, q_minus, q_power, q_check_number, q_is_number, q_fraction, q_divisor, q_is_between, q_is_integer] : List (Nat × Str)) := by decide +kernel
  have cv_19 : W_is_far.cv = true → (∀ n, n < 1000 → (∃ ds h Q R, gm.fn n ds h Q R) → Good P w (tbK K) mg base 19 n (gm.fn n)) ∧ (∀ n vs ds h Q R, ¬ gm.clo n vs ds h Q R) ∧ (∀ n, n < 1000 → PySem.W.keepIn (tbK K).K (.ref ((tbK K).fA n)) = true) := fun z => by cases z
  have og19 : OkG W_is_far (tbK K) gm P w mg base 19 := {
    fr := fr,
    fns := fun p hp => l19 p (sl_19 p hp),
    fnK := (fun p hp => by cases hp),
    fnD := (fun p hp => by cases hp),
    cons := (fun p hp => by cases hp),
    tbl := rfl,
    cv := cv_19,
    mks := (fun p hp => by cases hp),
    mets := (fun p hp => by cases hp),
    flds := (fun p hp => by
      unfold W_is_far at hp
      simp only [List.mem_cons, List.not_mem_nil, or_false] at hp
      rcases hp with rfl | rfl
      · exact na_Format_precision
      · exact na_Format_high),
    iso := (fun p hp => by cases hp),
    rss := (fun p hp => by cases hp),
    hcl := (fun p hp => by cases hp),
    exm := sb,
    xfs := (fun p hp => by cases hp) }
  have g19 : Good P w (tbK K) mg base 20 31 (gm.fn 31) := good_mk F19 sc_is_far og19 rfl rfl ck_is_far ((b_is_far (gam_at rfl) (gam_at rfl) (gam_at rfl)).d m_is_far) fun _ _ _ _ _ _ us hl => match us, hl with | [_, _], _ => rfl
  have l20 : Lv P w (tbK K) gm mg base 20 [q_is_far, q_greatest, q_value_of, q_most_order, q_unit_exponent, q_exponent, q_check_format, q_size_of, q_is_less, q_over, q_times, q_minus, q_power, q_check_number, q_is_number, q_fraction, q_divisor, q_is_between, q_is_integer] := l19.cons g19 m19
  have sl_20 : ∀ p ∈ W_unit.fns, p ∈ ([q_is_far, q_greatest, q_value_of, q_most_order, q_unit_exponent, q_exponent, q_check_format, q_size_of, q_is_less, q_over, q_times, q_minus, q_power, q_check_number, q_is_number, q_fraction, q_divisor, q_is_between, q_is_integer] : List (Nat × Str)) := by decide +kernel
  have cv_20 : W_unit.cv = true → (∀ n, n < 1000 → (∃ ds h Q R, gm.fn n ds h Q R) → Good P w (tbK K) mg base 20 n (gm.fn n)) ∧ (∀ n vs ds h Q R, ¬ gm.clo n vs ds h Q R) ∧ (∀ n, n < 1000 → PySem.W.keepIn (tbK K).K (.ref ((tbK K).fA n)) = true) := fun z => by cases z
  have og20 : OkG W_unit (tbK K) gm P w mg base 20 := {
    fr := fr,
    fns := fun p hp => l20 p (sl_20 p hp),
    fnK := (fun p hp => by cases hp),
    fnD := (fun p hp => by cases hp),
    cons := (fun p hp => by cases hp),
    tbl := rfl,
    cv := cv_20,
    mks := (fun p hp => by cases hp),
    mets := (fun p hp => by cases hp),
    flds := (fun p hp => by cases hp),
    iso := (fun p hp => by cases hp),
    rss := (fun p hp => by
      unfold W_unit at hp
      simp only [List.mem_cons, List.not_mem_nil, or_false] at hp
      rcases hp with rfl
      · exact ⟨1, by decide, gx_InvalidBound, mc_InvalidBound⟩),
    hcl := (fun p hp => by cases hp),
    exm := sb,
    xfs := (fun p hp => by cases hp) }
  have g20 : Good P w (tbK K) mg base 21 46 (gm.fn 46) := good_mk F20 sc_unit og20 rfl rfl ck_unit ((b_unit (gam_at rfl) (gam_at rfl) (gam_at rfl) (gam_at rfl) (gam_at rfl)).d m_unit) fun _ _ _ _ _ _ us hl => match us, hl with | [_, _], _ => rfl
  have l21 : Lv P w (tbK K) gm mg base 21 [q_unit, q_is_far, q_greatest, q_value_of, q_most_order, q_unit_exponent, q_exponent, q_check_format, q_size_of, q_is_less, q_over, q_times, q_minus, q_power, q_check_number, q_is_number, q_fraction, q_divisor, q_is_between, q_is_integer] := l20.cons g20 m20
  have sl_21 : ∀ p ∈ W_check_mode.fns, p ∈ ([q_unit, q_is_far, q_greatest, q_value_of, q_most_order, q_unit_exponent, q_exponent, q_check_format, q_size_of, q_is_less, q_over, q_times, q_minus, q_power, q_check_number, q_is_number, q_fraction, q_divisor, q_is_between, q_is_integer] : List (Nat × Str)) := fun p hp => by cases hp
  have cv_21 : W_check_mode.cv = true → (∀ n, n < 1000 → (∃ ds h Q R, gm.fn n ds h Q R) → Good P w (tbK K) mg base 21 n (gm.fn n)) ∧ (∀ n vs ds h Q R, ¬ gm.clo n vs ds h Q R) ∧ (∀ n, n < 1000 → PySem.W.keepIn (tbK K).K (.ref ((tbK K).fA n)) = true) := fun z => by cases z
  have og21 : OkG W_check_mode (tbK K) gm P w mg base 21 := {
    fr := fr,
    fns := fun p hp => l21 p (sl_21 p hp),
    fnK := (fun p hp => by cases hp),
    fnD := (fun p hp => by cases hp),
    cons := (fun p hp => by
      unfold W_check_mode at hp
      simp only [List.mem_cons, List.not_mem_nil, or_false] at hp
      rcases hp with rfl
      · exact cn_MODES),
    tbl := rfl,
    cv := cv_21,
    mks := (fun p hp => by cases hp),
    mets := (fun p hp => by cases hp),
    flds := (fun p hp => by cases hp),
    iso := (fun p hp => by cases hp),
    rss := (fun p hp => by
      unfold W_check_mode at hp
      simp only [List.mem_cons, List.not_mem_nil, or_false] at hp
      rcases hp with rfl
      · exact ⟨1, by decide, gx_InvalidBound, mc_InvalidBound⟩),
    hcl := (fun p hp => by cases hp),
    exm := sb,
    xfs := (fun p hp => by cases hp) }
  have g21 : Good P w (tbK K) mg base 22 88 (gm.fn 88) := good_mk F21 sc_check_mode og21 rfl rfl ck_check_mode (b_check_mode.d m_check_mode) fun _ _ _ _ _ _ us hl => match us, hl with | [_], _ => rfl
  have l22 : Lv P w (tbK K) gm mg base 22 [q_check_mode, q_unit, q_is_far, q_greatest, q_value_of, q_most_order, q_unit_exponent, q_exponent, q_check_format, q_size_of, q_is_less, q_over, q_times, q_minus, q_power, q_check_number, q_is_number, q_fraction, q_divisor, q_is_between, q_is_integer] := l21.cons g21 m21
  have sl_22 : ∀ p ∈ W_to_integer.fns, p ∈ ([q_check_mode, q_unit, q_is_far, q_greatest, q_value_of, q_most_order, q_unit_exponent, q_exponent, q_check_format, q_size_of, q_is_less, q_over, q_times, q_minus, q_power, q_check_number, q_is_number, q_fraction, q_divisor, q_is_between, q_is_integer] : List (Nat × Str)) := fun p hp => by cases hp
  have cv_22 : W_to_integer.cv = true → (∀ n, n < 1000 → (∃ ds h Q R, gm.fn n ds h Q R) → Good P w (tbK K) mg base 22 n (gm.fn n)) ∧ (∀ n vs ds h Q R, ¬ gm.clo n vs ds h Q R) ∧ (∀ n, n < 1000 → PySem.W.keepIn (tbK K).K (.ref ((tbK K).fA n)) = true) := fun z => by cases z
  have og22 : OkG W_to_integer (tbK K) gm P w mg base 22 := {
    fr := fr,
    fns := fun p hp => l22 p (sl_22 p hp),
    fnK := (fun p hp => by cases hp),
    fnD := (fun p hp => by cases hp),
    cons := (fun p hp => by cases hp),
    tbl := rfl,
    cv := cv_22,
    mks := (fun p hp => by cases hp),
    mets := (fun p hp => by cases hp),
    flds := (fun p hp => by cases hp),
    iso := (fun p hp => by cases hp),
    rss := (fun p hp => by cases hp),
    hcl := (fun p hp => by cases hp),
    exm := sb,
    xfs := (fun p hp => by cases hp) }
  have g22 : Good P w (tbK K) mg base 23 70 (gm.fn 70) := good_mk F22 sc_to_integer og22 rfl rfl ck_to_integer (b_to_integer.d m_to_integer) fun _ _ _ _ _ _ us hl => match us, hl with | [_, _, _], _ => rfl
  have l23 : Lv P w (tbK K) gm mg base 23 [q_to_integer, q_check_mode, q_unit, q_is_far, q_greatest, q_value_of, q_most_order, q_unit_exponent, q_exponent, q_check_format, q_size_of, q_is_less, q_over, q_times, q_minus, q_power, q_check_number, q_is_number, q_fraction, q_divisor, q_is_between, q_is_integer] := l22.cons g22 m22
  have sl_23 : ∀ p ∈ W_sign_of.fns, p ∈ ([q_to_integer, q_check_mode, q_unit, q_is_far, q_greatest, q_value_of, q_most_order, q_unit_exponent, q_exponent, q_check_format, q_size_of, q_is_less, q_over, q_times, q_minus, q_power, q_check_number, q_is_number, q_fraction, q_divisor, q_is_between, q_is_integer] : List (Nat × Str)) := fun p hp => by cases hp
  have cv_23 : W_sign_of.cv = true → (∀ n, n < 1000 → (∃ ds h Q R, gm.fn n ds h Q R) → Good P w (tbK K) mg base 23 n (gm.fn n)) ∧ (∀ n vs ds h Q R, ¬ gm.clo n vs ds h Q R) ∧ (∀ n, n < 1000 → PySem.W.keepIn (tbK K).K (.ref ((tbK K).fA n)) = true) := fun z => by cases z
  have og23 : OkG W_sign_of (tbK K) gm P w mg base 23 := {
    fr := fr,
    fns := fun p hp => l23 p (sl_23 p hp),
    fnK := (fun p hp => by cases hp),
    fnD := (fun p hp => by cases hp),
    cons := (fun p hp => by cases hp),
    tbl := rfl,
    cv := cv_23,
    mks := (fun p hp => by cases hp),
    mets := (fun p hp => by cases hp),
    flds := (fun p hp => by cases hp),
    iso := (fun p hp => by cases hp),
    rss := (fun p hp => by cases hp),
    hcl := (fun p hp => by cases hp),
    exm := sb,
    xfs := (fun p hp => by cases hp) }
  have g23 : Good P w (tbK K) mg base 24 69 (gm.fn 69) := good_mk F23 sc_sign_of og23 rfl rfl ck_sign_of (b_sign_of.d m_sign_of) fun _ _ _ _ _ _ us hl => match us, hl with | [_], _ => rfl
  have l24 : Lv P w (tbK K) gm mg base 24 [q_sign_of, q_to_integer, q_check_mode, q_unit, q_is_far, q_greatest, q_value_of, q_most_order, q_unit_exponent, q_exponent, q_check_format, q_size_of, q_is_less, q_over, q_times, q_minus, q_power, q_check_number, q_is_number, q_fraction, q_divisor, q_is_between, q_is_integer] := l23.cons g23 m23
  have sl_24 : ∀ p ∈ W_rounded_once.fns, p ∈ ([q_sign_of, q_to_integer, q_check_mode, q_unit, q_is_far, q_greatest, q_value_of, q_most_order, q_unit_exponent, q_exponent, q_check_format, q_size_of, q_is_less, q_over, q_times, q_minus, q_power, q_check_number, q_is_number, q_fraction, q_divisor, q_is_between, q_is_integer] : List (Nat × Str)) := by decide +kernel
  have cv_24 : W_rounded_once.cv = true → (∀ n, n < 1000 → (∃ ds h Q R, gm.fn n ds h Q R) → Good P w (tbK K) mg base 24 n (gm.fn n)) ∧ (∀ n vs ds h Q R, ¬ gm.clo n vs ds h Q R) ∧ (∀ n, n < 1000 → PySem.W.keepIn (tbK K).K (.ref ((tbK K).fA n)) = true) := fun z => by cases z
  have og24 : OkG W_rounded_once (tbK K) gm P w mg base 24 := {
    fr := fr,
    fns := fun p hp => l24 p (sl_24 p hp),
    fnK := (fun p hp => by cases hp),
    fnD := (fun p hp => by cases hp),
    cons := (fun p hp => by cases hp),
    tbl := rfl,
    cv := cv_24,
    mks := (fun p hp => by cases hp),
    mets := (fun p hp => by cases hp),
    flds := (fun p hp => by cases hp),
    iso := (fun p hp => by cases hp),
    rss := (fun p hp => by
      unfold W_rounded_once at hp
      simp only [List.mem_cons, List.not_mem_nil, or_false] at hp
      rcases hp with rfl
      · exact ⟨1, by decide, gx_Overflow, mc_Overflow⟩),
    hcl := (fun p hp => by cases hp),
    exm := sb,
    xfs := (fun p hp => by cases hp) }
  have g24 : Good P w (tbK K) mg base 25 71 (gm.fn 71) := good_mk F24 sc_rounded_once og24 rfl rfl ck_rounded_once ((b_rounded_once (gam_at rfl) (gam_at rfl) (gam_at rfl) (gam_at rfl) (gam_at rfl) (gam_at rfl) (gam_at rfl) (gam_at rfl) (gam_at rfl) (gam_at rfl)).d m_rounded_once) fun _ _ _ _ _ _ us hl => match us, hl with | [_, _, _], _ => rfl
  have l25 : Lv P w (tbK K) gm mg base 25 [q_rounded_once, q_sign_of, q_to_integer, q_check_mode, q_unit, q_is_far, q_greatest, q_value_of, q_most_order, q_unit_exponent, q_exponent, q_check_format, q_size_of, q_is_less, q_over, q_times, q_minus, q_power, q_check_number, q_is_number, q_fraction, q_divisor, q_is_between, q_is_integer] := l24.cons g24 m24
  have sl_25 : ∀ p ∈ W_rounded.fns, p ∈ ([q_rounded_once, q_sign_of, q_to_integer, q_check_mode, q_unit, q_is_far, q_greatest, q_value_of, q_most_order, q_unit_exponent, q_exponent, q_check_format, q_size_of, q_is_less, q_over, q_times, q_minus, q_power, q_check_number, q_is_number, q_fraction, q_divisor, q_is_between, q_is_integer] : List (Nat × Str)) := by decide +kernel
  have cv_25 : W_rounded.cv = true → (∀ n, n < 1000 → (∃ ds h Q R, gm.fn n ds h Q R) → Good P w (tbK K) mg base 25 n (gm.fn n)) ∧ (∀ n vs ds h Q R, ¬ gm.clo n vs ds h Q R) ∧ (∀ n, n < 1000 → PySem.W.keepIn (tbK K).K (.ref ((tbK K).fA n)) = true) := fun z => by cases z
  have og25 : OkG W_rounded (tbK K) gm P w mg base 25 := {
    fr := fr,
    fns := fun p hp => l25 p (sl_25 p hp),
    fnK := (fun p hp => by cases hp),
    fnD := (fun p hp => by cases hp),
    cons := (fun p hp => by cases hp),
    tbl := rfl,
    cv := cv_25,
    mks := (fun p hp => by cases hp),
    mets := (fun p hp => by cases hp),
    flds := (fun p hp => by cases hp),
    iso := (fun p hp => by cases hp),
    rss := (fun p hp => by cases hp),
    hcl := (fun p hp => by cases hp),
    exm := sb,
    xfs := (fun p hp => by cases hp) }
  have g25 : Good P w (tbK K) mg base 26 86 (gm.fn 86) := good_mk F25 sc_rounded og25 rfl rfl ck_rounded ((b_rounded (gam_at rfl) (gam_at rfl) (gam_at rfl) (gam_at rfl)).d m_rounded) fun _ _ _ _ _ _ us hl => match us, hl with | [_, _, _], _ => rfl
  have kk_rounded_0 : GoodK P w (tbK K) mg base 26 86 0 ["x", "mode", "form"] [2, 1, 0] (gm.fn 86) := goodK_mk F25 sc_rounded og25 rfl rfl ck_rounded ((b_rounded (gam_at rfl) (gam_at rfl) (gam_at rfl) (gam_at rfl)).d m_rounded) fun _ _ _ _ _ _ us ws h1 h2 => match us, ws, h1, h2 with | [], [_, _, _], _, _ => rfl
  have l26 : Lv P w (tbK K) gm mg base 26 [q_rounded, q_rounded_once, q_sign_of, q_to_integer, q_check_mode, q_unit, q_is_far, q_greatest, q_value_of, q_most_order, q_unit_exponent, q_exponent, q_check_format, q_size_of, q_is_less, q_over, q_times, q_minus, q_power, q_check_number, q_is_number, q_fraction, q_divisor, q_is_between, q_is_integer] := l25.cons g25 m25
  have sl_26 : ∀ p ∈ W_steps_away.fns, p ∈ ([q_rounded, q_rounded_once, q_sign_of, q_to_integer, q_check_mode, q_unit, q_is_far, q_greatest, q_value_of, q_most_order, q_unit_exponent, q_exponent, q_check_format, q_size_of, q_is_less, q_over, q_times, q_minus, q_power, q_check_number, q_is_number, q_fraction, q_divisor, q_is_between, q_is_integer] : List (Nat × Str)) := by decide +kernel
  have cv_26 : W_steps_away.cv = true → (∀ n, n < 1000 → (∃ ds h Q R, gm.fn n ds h Q R) → Good P w (tbK K) mg base 26 n (gm.fn n)) ∧ (∀ n vs ds h Q R, ¬ gm.clo n vs ds h Q R) ∧ (∀ n, n < 1000 → PySem.W.keepIn (tbK K).K (.ref ((tbK K).fA n)) = true) := fun z => by cases z
  have og26 : OkG W_steps_away (tbK K) gm P w mg base 26 := {
    fr := fr,
    fns := fun p hp => l26 p (sl_26 p hp),
    fnK := (fun p hp => by cases hp),
    fnD := (fun p hp => by cases hp),
    cons := (fun p hp => by cases hp),
    tbl := rfl,
    cv := cv_26,
    mks := (fun p hp => by cases hp),
    mets := (fun p hp => by cases hp),
    flds := (fun p hp => by cases hp),
    iso := (fun p hp => by cases hp),
    rss := (fun p hp => by cases hp),
    hcl := (fun p hp => by cases hp),
    exm := sb,
    xfs := (fun p hp => by cases hp) }
  have g26 : Good P w (tbK K) mg base 27 87 (gm.fn 87) := good_mk F26 sc_steps_away og26 rfl rfl ck_steps_away ((b_steps (gam_at rfl) (gam_at rfl) (gam_at rfl) (gam_at rfl) (gam_at rfl) (gam_at rfl) (gam_at rfl) (gam_at rfl)).d m_steps) fun _ _ _ _ _ _ us hl => match us, hl with | [_, _, _], _ => rfl
  have kk_steps_away_0 : GoodK P w (tbK K) mg base 27 87 0 ["x", "mode", "form"] [2, 1, 0] (gm.fn 87) := goodK_mk F26 sc_steps_away og26 rfl rfl ck_steps_away ((b_steps (gam_at rfl) (gam_at rfl) (gam_at rfl) (gam_at rfl) (gam_at rfl) (gam_at rfl) (gam_at rfl) (gam_at rfl)).d m_steps) fun _ _ _ _ _ _ us ws h1 h2 => match us, ws, h1, h2 with | [], [_, _, _], _, _ => rfl
  have l27 : Lv P w (tbK K) gm mg base 27 [q_steps_away, q_rounded, q_rounded_once, q_sign_of, q_to_integer, q_check_mode, q_unit, q_is_far, q_greatest, q_value_of, q_most_order, q_unit_exponent, q_exponent, q_check_format, q_size_of, q_is_less, q_over, q_times, q_minus, q_power, q_check_number, q_is_number, q_fraction, q_divisor, q_is_between, q_is_integer] := l26.cons g26 m26
  have sl_27 : ∀ p ∈ W_l_source_of.fns, p ∈ ([q_steps_away, q_rounded, q_rounded_once, q_sign_of, q_to_integer, q_check_mode, q_unit, q_is_far, q_greatest, q_value_of, q_most_order, q_unit_exponent, q_exponent, q_check_format, q_size_of, q_is_less, q_over, q_times, q_minus, q_power, q_check_number, q_is_number, q_fraction, q_divisor, q_is_between, q_is_integer] : List (Nat × Str)) := fun p hp => by cases hp
  have cv_27 : W_l_source_of.cv = true → (∀ n, n < 1000 → (∃ ds h Q R, gm.fn n ds h Q R) → Good P w (tbK K) mg base 27 n (gm.fn n)) ∧ (∀ n vs ds h Q R, ¬ gm.clo n vs ds h Q R) ∧ (∀ n, n < 1000 → PySem.W.keepIn (tbK K).K (.ref ((tbK K).fA n)) = true) := fun z => by cases z
  have og27 : OkG W_l_source_of (tbK K) gm P w mg base 27 := {
    fr := fr,
    fns := fun p hp => l27 p (sl_27 p hp),
    fnK := (fun p hp => by cases hp),
    fnD := (fun p hp => by cases hp),
    cons := (fun p hp => by cases hp),
    tbl := rfl,
    cv := cv_27,
    mks := (fun p hp => by cases hp),
    mets := (fun p hp => by cases hp),
    flds := (fun p hp => by cases hp),
    iso := (fun p hp => by cases hp),
    rss := (fun p hp => by cases hp),
    hcl := (fun p hp => by cases hp),
    exm := sb,
    xfs := (fun p hp => by cases hp) }
  have g27 : Good P w (tbK K) mg base 28 1901 (gm.fn 1901) := good_mk F27 sc_l_source_of og27 rfl rfl ck_l_source_of (b_source_of.d m_well) fun _ _ _ _ _ _ us hl => match us, hl with | [_], _ => rfl
  have l28 : Lv P w (tbK K) gm mg base 28 [q_l_source_of, q_steps_away, q_rounded, q_rounded_once, q_sign_of, q_to_integer, q_check_mode, q_unit, q_is_far, q_greatest, q_value_of, q_most_order, q_unit_exponent, q_exponent, q_check_format, q_size_of, q_is_less, q_over, q_times, q_minus, q_power, q_check_number, q_is_number, q_fraction, q_divisor, q_is_between, q_is_integer] := l27.cons g27 m27
  have sl_28 : ∀ p ∈ W_l_next.fns, p ∈ ([q_l_source_of, q_steps_away, q_rounded, q_rounded_once, q_sign_of, q_to_integer, q_check_mode, q_unit, q_is_far, q_greatest, q_value_of, q_most_order, q_unit_exponent, q_exponent, q_check_format, q_size_of, q_is_less, q_over, q_times, q_minus, q_power, q_check_number, q_is_number, q_fraction, q_divisor, q_is_between, q_is_integer] : List (Nat × Str)) := fun p hp => by cases hp
  have cv_28 : W_l_next.cv = true → (∀ n, n < 1000 → (∃ ds h Q R, gm.fn n ds h Q R) → Good P w (tbK K) mg base 28 n (gm.fn n)) ∧ (∀ n vs ds h Q R, ¬ gm.clo n vs ds h Q R) ∧ (∀ n, n < 1000 → PySem.W.keepIn (tbK K).K (.ref ((tbK K).fA n)) = true) := fun z => by cases z
  have og28 : OkG W_l_next (tbK K) gm P w mg base 28 := {
    fr := fr,
    fns := fun p hp => l28 p (sl_28 p hp),
    fnK := (fun p hp => by cases hp),
    fnD := (fun p hp => by cases hp),
    cons := (fun p hp => by cases hp),
    tbl := rfl,
    cv := cv_28,
    mks := (fun p hp => by cases hp),
    mets := (fun p hp => by cases hp),
    flds := (fun p hp => by cases hp),
    iso := (fun p hp => by cases hp),
    rss := (fun p hp => by cases hp),
    hcl := (fun p hp => by cases hp),
    exm := sb,
    xfs := (fun p hp => by cases hp) }
  have g28 : Good P w (tbK K) mg base 29 1900 (gm.fn 1900) := good_mk F28 sc_l_next og28 rfl rfl ck_l_next (b_next.d m_draw) fun _ _ _ _ _ _ us hl => match us, hl with | [_, _], _ => rfl
  have l29 : Lv P w (tbK K) gm mg base 29 [q_l_next, q_l_source_of, q_steps_away, q_rounded, q_rounded_once, q_sign_of, q_to_integer, q_check_mode, q_unit, q_is_far, q_greatest, q_value_of, q_most_order, q_unit_exponent, q_exponent, q_check_format, q_size_of, q_is_less, q_over, q_times, q_minus, q_power, q_check_number, q_is_number, q_fraction, q_divisor, q_is_between, q_is_integer] := l28.cons g28 m28
  have sl_29 : ∀ p ∈ W_l_cell_at.fns, p ∈ ([q_l_next, q_l_source_of, q_steps_away, q_rounded, q_rounded_once, q_sign_of, q_to_integer, q_check_mode, q_unit, q_is_far, q_greatest, q_value_of, q_most_order, q_unit_exponent, q_exponent, q_check_format, q_size_of, q_is_less, q_over, q_times, q_minus, q_power, q_check_number, q_is_number, q_fraction, q_divisor, q_is_between, q_is_integer] : List (Nat × Str)) := fun p hp => by cases hp
  have cv_29 : W_l_cell_at.cv = true → (∀ n, n < 1000 → (∃ ds h Q R, gm.fn n ds h Q R) → Good P w (tbK K) mg base 29 n (gm.fn n)) ∧ (∀ n vs ds h Q R, ¬ gm.clo n vs ds h Q R) ∧ (∀ n, n < 1000 → PySem.W.keepIn (tbK K).K (.ref ((tbK K).fA n)) = true) := fun z => by cases z
  have og29 : OkG W_l_cell_at (tbK K) gm P w mg base 29 := {
    fr := fr,
    fns := fun p hp => l29 p (sl_29 p hp),
    fnK := (fun p hp => by cases hp),
    fnD := (fun p hp => by cases hp),
    cons := (fun p hp => by cases hp),
    tbl := rfl,
    cv := cv_29,
    mks := (fun p hp => by cases hp),
    mets := (fun p hp => by cases hp),
    flds := (fun p hp => by cases hp),
    iso := (fun p hp => by cases hp),
    rss := (fun p hp => by cases hp),
    hcl := (fun p hp => by cases hp),
    exm := sb,
    xfs := (fun p hp => by cases hp) }
  have g29 : Good P w (tbK K) mg base 30 1903 (gm.fn 1903) := good_mk F29 sc_l_cell_at og29 rfl rfl ck_l_cell_at (b_cell_at.d m_cell_at) fun _ _ _ _ _ _ us hl => match us, hl with | [_, _], _ => rfl
  have l30 : Lv P w (tbK K) gm mg base 30 [q_l_cell_at, q_l_next, q_l_source_of, q_steps_away, q_rounded, q_rounded_once, q_sign_of, q_to_integer, q_check_mode, q_unit, q_is_far, q_greatest, q_value_of, q_most_order, q_unit_exponent, q_exponent, q_check_format, q_size_of, q_is_less, q_over, q_times, q_minus, q_power, q_check_number, q_is_number, q_fraction, q_divisor, q_is_between, q_is_integer] := l29.cons g29 m29
  have sl_30 : ∀ p ∈ W_l_common.fns, p ∈ ([q_l_cell_at, q_l_next, q_l_source_of, q_steps_away, q_rounded, q_rounded_once, q_sign_of, q_to_integer, q_check_mode, q_unit, q_is_far, q_greatest, q_value_of, q_most_order, q_unit_exponent, q_exponent, q_check_format, q_size_of, q_is_less, q_over, q_times, q_minus, q_power, q_check_number, q_is_number, q_fraction, q_divisor, q_is_between, q_is_integer] : List (Nat × Str)) := fun p hp => by cases hp
  have cv_30 : W_l_common.cv = true → (∀ n, n < 1000 → (∃ ds h Q R, gm.fn n ds h Q R) → Good P w (tbK K) mg base 30 n (gm.fn n)) ∧ (∀ n vs ds h Q R, ¬ gm.clo n vs ds h Q R) ∧ (∀ n, n < 1000 → PySem.W.keepIn (tbK K).K (.ref ((tbK K).fA n)) = true) := fun z => by cases z
  have og30 : OkG W_l_common (tbK K) gm P w mg base 30 := {
    fr := fr,
    fns := fun p hp => l30 p (sl_30 p hp),
    fnK := (fun p hp => by cases hp),
    fnD := (fun p hp => by cases hp),
    cons := (fun p hp => by cases hp),
    tbl := rfl,
    cv := cv_30,
    mks := (fun p hp => by cases hp),
    mets := (fun p hp => by cases hp),
    flds := (fun p hp => by cases hp),
    iso := (fun p hp => by cases hp),
    rss := (fun p hp => by cases hp),
    hcl := (fun p hp => by cases hp),
    exm := sb,
    xfs := (fun p hp => by cases hp) }
  have g30 : Good P w (tbK K) mg base 31 1904 (gm.fn 1904) := good_mk F30 sc_l_common og30 rfl rfl ck_l_common (b_l_common.d m_divisor) fun _ _ _ _ _ _ us hl => match us, hl with | [_, _], _ => rfl
  have l31 : Lv P w (tbK K) gm mg base 31 [q_l_common, q_l_cell_at, q_l_next, q_l_source_of, q_steps_away, q_rounded, q_rounded_once, q_sign_of, q_to_integer, q_check_mode, q_unit, q_is_far, q_greatest, q_value_of, q_most_order, q_unit_exponent, q_exponent, q_check_format, q_size_of, q_is_less, q_over, q_times, q_minus, q_power, q_check_number, q_is_number, q_fraction, q_divisor, q_is_between, q_is_integer] := l30.cons g30 m30
  have sl_31 : ∀ p ∈ W_l_number.fns, p ∈ ([q_l_common, q_l_cell_at, q_l_next, q_l_source_of, q_steps_away, q_rounded, q_rounded_once, q_sign_of, q_to_integer, q_check_mode, q_unit, q_is_far, q_greatest, q_value_of, q_most_order, q_unit_exponent, q_exponent, q_check_format, q_size_of, q_is_less, q_over, q_times, q_minus, q_power, q_check_number, q_is_number, q_fraction, q_divisor, q_is_between, q_is_integer] : List (Nat × Str)) := by decide +kernel
  have cv_31 : W_l_number.cv = true → (∀ n, n < 1000 → (∃ ds h Q R, gm.fn n ds h Q R) → Good P w (tbK K) mg base 31 n (gm.fn n)) ∧ (∀ n vs ds h Q R, ¬ gm.clo n vs ds h Q R) ∧ (∀ n, n < 1000 → PySem.W.keepIn (tbK K).K (.ref ((tbK K).fA n)) = true) := fun z => by cases z
  have og31 : OkG W_l_number (tbK K) gm P w mg base 31 := {
    fr := fr,
    fns := fun p hp => l31 p (sl_31 p hp),
    fnK := (fun p hp => by cases hp),
    fnD := (fun p hp => by cases hp),
    cons := (fun p hp => by cases hp),
    tbl := rfl,
    cv := cv_31,
    mks := (fun p hp => by cases hp),
    mets := (fun p hp => by cases hp),
    flds := (fun p hp => by cases hp),
    iso := (fun p hp => by cases hp),
    rss := (fun p hp => by cases hp),
    hcl := (fun p hp => by cases hp),
    exm := sb,
    xfs := (fun p hp => by cases hp) }
  have g31 : Good P w (tbK K) mg base 32 1905 (gm.fn 1905) := good_mk F31 sc_l_number og31 rfl rfl ck_l_number ((b_l_number (gam_at rfl)).d m_fraction) fun _ _ _ _ _ _ us hl => match us, hl with | [_, _], _ => rfl
  have l32 : Lv P w (tbK K) gm mg base 32 [q_l_number, q_l_common, q_l_cell_at, q_l_next, q_l_source_of, q_steps_away, q_rounded, q_rounded_once, q_sign_of, q_to_integer, q_check_mode, q_unit, q_is_far, q_greatest, q_value_of, q_most_order, q_unit_exponent, q_exponent, q_check_format, q_size_of, q_is_less, q_over, q_times, q_minus, q_power, q_check_number, q_is_number, q_fraction, q_divisor, q_is_between, q_is_integer] := l31.cons g31 m31
  have sl_32 : ∀ p ∈ W_l_power.fns, p ∈ ([q_l_number, q_l_common, q_l_cell_at, q_l_next, q_l_source_of, q_steps_away, q_rounded, q_rounded_once, q_sign_of, q_to_integer, q_check_mode, q_unit, q_is_far, q_greatest, q_value_of, q_most_order, q_unit_exponent, q_exponent, q_check_format, q_size_of, q_is_less, q_over, q_times, q_minus, q_power, q_check_number, q_is_number, q_fraction, q_divisor, q_is_between, q_is_integer] : List (Nat × Str)) := fun p hp => by cases hp
  have cv_32 : W_l_power.cv = true → (∀ n, n < 1000 → (∃ ds h Q R, gm.fn n ds h Q R) → Good P w (tbK K) mg base 32 n (gm.fn n)) ∧ (∀ n vs ds h Q R, ¬ gm.clo n vs ds h Q R) ∧ (∀ n, n < 1000 → PySem.W.keepIn (tbK K).K (.ref ((tbK K).fA n)) = true) := fun z => by cases z
  have og32 : OkG W_l_power (tbK K) gm P w mg base 32 := {
    fr := fr,
    fns := fun p hp => l32 p (sl_32 p hp),
    fnK := (fun p hp => by cases hp),
    fnD := (fun p hp => by cases hp),
    cons := (fun p hp => by cases hp),
    tbl := rfl,
    cv := cv_32,
    mks := (fun p hp => by cases hp),
    mets := (fun p hp => by cases hp),
    flds := (fun p hp => by cases hp),
    iso := (fun p hp => by cases hp),
    rss := (fun p hp => by cases hp),
    hcl := (fun p hp => by cases hp),
    exm := sb,
    xfs := (fun p hp => by cases hp) }
  have g32 : Good P w (tbK K) mg base 33 1906 (gm.fn 1906) := good_mk F32 sc_l_power og32 rfl rfl ck_l_power (b_l_power.d m_l_power) fun _ _ _ _ _ _ us hl => match us, hl with | [_], _ => rfl
  have l33 : Lv P w (tbK K) gm mg base 33 [q_l_power, q_l_number, q_l_common, q_l_cell_at, q_l_next, q_l_source_of, q_steps_away, q_rounded, q_rounded_once, q_sign_of, q_to_integer, q_check_mode, q_unit, q_is_far, q_greatest, q_value_of, q_most_order, q_unit_exponent, q_exponent, q_check_format, q_size_of, q_is_less, q_over, q_times, q_minus, q_power, q_check_number, q_is_number, q_fraction, q_divisor, q_is_between, q_is_integer] := l32.cons g32 m32
  have sl_33 : ∀ p ∈ W_l_nearest.fns, p ∈ ([q_l_power, q_l_number, q_l_common, q_l_cell_at, q_l_next, q_l_source_of, q_steps_away, q_rounded, q_rounded_once, q_sign_of, q_to_integer, q_check_mode, q_unit, q_is_far, q_greatest, q_value_of, q_most_order, q_unit_exponent, q_exponent, q_check_format, q_size_of, q_is_less, q_over, q_times, q_minus, q_power, q_check_number, q_is_number, q_fraction, q_divisor, q_is_between, q_is_integer] : List (Nat × Str)) := by decide +kernel
  have cv_33 : W_l_nearest.cv = true → (∀ n, n < 1000 → (∃ ds h Q R, gm.fn n ds h Q R) → Good P w (tbK K) mg base 33 n (gm.fn n)) ∧ (∀ n vs ds h Q R, ¬ gm.clo n vs ds h Q R) ∧ (∀ n, n < 1000 → PySem.W.keepIn (tbK K).K (.ref ((tbK K).fA n)) = true) := fun z => by cases z
  have og33 : OkG W_l_nearest (tbK K) gm P w mg base 33 := {
    fr := fr,
    fns := fun p hp => l33 p (sl_33 p hp),
    fnK := (fun p hp => by cases hp),
    fnD := (fun p hp => by cases hp),
    cons := (fun p hp => by cases hp),
    tbl := rfl,
    cv := cv_33,
    mks := (fun p hp => by cases hp),
    mets := (fun p hp => by cases hp),
    flds := (fun p hp => by cases hp),
    iso := (fun p hp => by cases hp),
    rss := (fun p hp => by cases hp),
    hcl := (fun p hp => by cases hp),
    exm := sb,
    xfs := (fun p hp => by cases hp) }
  have g33 : Good P w (tbK K) mg base 34 1011 (gm.fn 1011) := good_mk F33 sc_l_nearest og33 rfl rfl ck_l_nearest ((b_l_nearest (gam_at rfl)).d m_l_nearest) fun _ _ _ _ _ _ us hl => match us, hl with | [_, _, _, _], _ => rfl
  have l34 : Lv P w (tbK K) gm mg base 34 [q_l_nearest, q_l_power, q_l_number, q_l_common, q_l_cell_at, q_l_next, q_l_source_of, q_steps_away, q_rounded, q_rounded_once, q_sign_of, q_to_integer, q_check_mode, q_unit, q_is_far, q_greatest, q_value_of, q_most_order, q_unit_exponent, q_exponent, q_check_format, q_size_of, q_is_less, q_over, q_times, q_minus, q_power, q_check_number, q_is_number, q_fraction, q_divisor, q_is_between, q_is_integer] := l33.cons g33 m33
  have sl_34 : ∀ p ∈ W_l_placed.fns, p ∈ ([q_l_nearest, q_l_power, q_l_number, q_l_common, q_l_cell_at, q_l_next, q_l_source_of, q_steps_away, q_rounded, q_rounded_once, q_sign_of, q_to_integer, q_check_mode, q_unit, q_is_far, q_greatest, q_value_of, q_most_order, q_unit_exponent, q_exponent, q_check_format, q_size_of, q_is_less, q_over, q_times, q_minus, q_power, q_check_number, q_is_number, q_fraction, q_divisor, q_is_between, q_is_integer] : List (Nat × Str)) := by decide +kernel
  have cv_34 : W_l_placed.cv = true → (∀ n, n < 1000 → (∃ ds h Q R, gm.fn n ds h Q R) → Good P w (tbK K) mg base 34 n (gm.fn n)) ∧ (∀ n vs ds h Q R, ¬ gm.clo n vs ds h Q R) ∧ (∀ n, n < 1000 → PySem.W.keepIn (tbK K).K (.ref ((tbK K).fA n)) = true) := fun z => by cases z
  have og34 : OkG W_l_placed (tbK K) gm P w mg base 34 := {
    fr := fr,
    fns := fun p hp => l34 p (sl_34 p hp),
    fnK := (fun p hp => by cases hp),
    fnD := (fun p hp => by cases hp),
    cons := (fun p hp => by cases hp),
    tbl := rfl,
    cv := cv_34,
    mks := (fun p hp => by cases hp),
    mets := (fun p hp => by cases hp),
    flds := (fun p hp => by cases hp),
    iso := (fun p hp => by cases hp),
    rss := (fun p hp => by cases hp),
    hcl := (fun p hp => by cases hp),
    exm := sb,
    xfs := (fun p hp => by cases hp) }
  have g34 : Good P w (tbK K) mg base 35 1010 (gm.fn 1010) := good_mk F34 sc_l_placed og34 rfl rfl ck_l_placed ((b_l_placed (gam_at rfl) (gam_at rfl)).d m_l_placed) fun _ _ _ _ _ _ us hl => match us, hl with | [_, _], _ => rfl
  have l35 : Lv P w (tbK K) gm mg base 35 [q_l_placed, q_l_nearest, q_l_power, q_l_number, q_l_common, q_l_cell_at, q_l_next, q_l_source_of, q_steps_away, q_rounded, q_rounded_once, q_sign_of, q_to_integer, q_check_mode, q_unit, q_is_far, q_greatest, q_value_of, q_most_order, q_unit_exponent, q_exponent, q_check_format, q_size_of, q_is_less, q_over, q_times, q_minus, q_power, q_check_number, q_is_number, q_fraction, q_divisor, q_is_between, q_is_integer] := l34.cons g34 m34
  have sl_35 : ∀ p ∈ W_l_told.fns, p ∈ ([q_l_placed, q_l_nearest, q_l_power, q_l_number, q_l_common, q_l_cell_at, q_l_next, q_l_source_of, q_steps_away, q_rounded, q_rounded_once, q_sign_of, q_to_integer, q_check_mode, q_unit, q_is_far, q_greatest, q_value_of, q_most_order, q_unit_exponent, q_exponent, q_check_format, q_size_of, q_is_less, q_over, q_times, q_minus, q_power, q_check_number, q_is_number, q_fraction, q_divisor, q_is_between, q_is_integer] : List (Nat × Str)) := fun p hp => by cases hp
  have cv_35 : W_l_told.cv = true → (∀ n, n < 1000 → (∃ ds h Q R, gm.fn n ds h Q R) → Good P w (tbK K) mg base 35 n (gm.fn n)) ∧ (∀ n vs ds h Q R, ¬ gm.clo n vs ds h Q R) ∧ (∀ n, n < 1000 → PySem.W.keepIn (tbK K).K (.ref ((tbK K).fA n)) = true) := fun z => by cases z
  have og35 : OkG W_l_told (tbK K) gm P w mg base 35 := {
    fr := fr,
    fns := fun p hp => l35 p (sl_35 p hp),
    fnK := (fun p hp => by cases hp),
    fnD := (fun p hp => by cases hp),
    cons := (fun p hp => by cases hp),
    tbl := rfl,
    cv := cv_35,
    mks := (fun p hp => by cases hp),
    mets := (fun p hp => by cases hp),
    flds := (fun p hp => by cases hp),
    iso := (fun p hp => by cases hp),
    rss := (fun p hp => by
      unfold W_l_told at hp
      simp only [List.mem_cons, List.not_mem_nil, or_false] at hp
      rcases hp with rfl
      · exact ⟨1, by decide, gx_Overflow, mc_Overflow⟩),
    hcl := (fun p hp => by
      unfold W_l_told at hp
      simp only [List.mem_cons, List.not_mem_nil, or_false] at hp
      rcases hp with rfl | rfl
      · exact mc_FloatsError
      · exact mc_Overflow),
    exm := sb,
    xfs := (fun p hp => by
      unfold W_l_told at hp
      simp only [List.mem_cons, List.not_mem_nil, or_false] at hp
      rcases hp with rfl
      · exact xx_Overflow) }
  have gh_l_told : GoodH P w (tbK K) mg base 35 1012 (gm.hf 1012) := goodH_mk F35 sc_l_told og35 rfl ck_l_told (bh_told rfl) rfl (by decide +kernel) fun _ _ _ _ _ _ us hl => match us, hl with | [_], _ => rfl
  have l36 : Lv P w (tbK K) gm mg base 36 [q_l_placed, q_l_nearest, q_l_power, q_l_number, q_l_common, q_l_cell_at, q_l_next, q_l_source_of, q_steps_away, q_rounded, q_rounded_once, q_sign_of, q_to_integer, q_check_mode, q_unit, q_is_far, q_greatest, q_value_of, q_most_order, q_unit_exponent, q_exponent, q_check_format, q_size_of, q_is_less, q_over, q_times, q_minus, q_power, q_check_number, q_is_number, q_fraction, q_divisor, q_is_between, q_is_integer] := l35.up
  have sl_36 : ∀ p ∈ W_l_right.fns, p ∈ ([q_l_placed, q_l_nearest, q_l_power, q_l_number, q_l_common, q_l_cell_at, q_l_next, q_l_source_of, q_steps_away, q_rounded, q_rounded_once, q_sign_of, q_to_integer, q_check_mode, q_unit, q_is_far, q_greatest, q_value_of, q_most_order, q_unit_exponent, q_exponent, q_check_format, q_size_of, q_is_less, q_over, q_times, q_minus, q_power, q_check_number, q_is_number, q_fraction, q_divisor, q_is_between, q_is_integer] : List (Nat × Str)) := by decide +kernel
  have cv_36 : W_l_right.cv = true → (∀ n, n < 1000 → (∃ ds h Q R, gm.fn n ds h Q R) → Good P w (tbK K) mg base 36 n (gm.fn n)) ∧ (∀ n vs ds h Q R, ¬ gm.clo n vs ds h Q R) ∧ (∀ n, n < 1000 → PySem.W.keepIn (tbK K).K (.ref ((tbK K).fA n)) = true) := fun z => by cases z
  have og36 : OkG W_l_right (tbK K) gm P w mg base 36 := {
    fr := fr,
    fns := fun p hp => l36 p (sl_36 p hp),
    fnK := (fun p hp => by
      unfold W_l_right at hp
      simp only [List.mem_cons, List.not_mem_nil, or_false] at hp
      rcases hp with rfl | rfl
      · exact ⟨kk_rounded_0.mono (by decide), m25⟩
      · exact ⟨kk_steps_away_0.mono (by decide), m26⟩),
    fnD := (fun p hp => by cases hp),
    cons := (fun p hp => by cases hp),
    tbl := rfl,
    cv := cv_36,
    mks := (fun p hp => by cases hp),
    mets := (fun p hp => by cases hp),
    flds := (fun p hp => by cases hp),
    iso := (fun p hp => by cases hp),
    rss := (fun p hp => by cases hp),
    hcl := (fun p hp => by cases hp),
    exm := sb,
    xfs := (fun p hp => by cases hp),
    hfs := (fun p hp => by
      unfold W_l_right at hp
      simp only [List.mem_cons, List.not_mem_nil, or_false] at hp
      rcases hp with rfl
      · exact ⟨gh_l_told.mono (by decide), m35⟩) }
  have ld36 : LamD (tbK K) mg base "_law_right" fd36 := by
    have hd : disB (tfL.map (·.1)) K = true := c.ex 8 (f := disB (tfL.map (·.1))) rfl
    have hp : ((("_law_right" : Str), (none : Option Str)), ("_law_right" : Str)) ∈ tfL := by unfold tfL; simp
    exact lamD_of (T := tbK K) (p := ("_law_right", none)) F36 (TBs _ (List.mem_map.mpr ⟨_, hp, rfl⟩)) (List.mem_map.mpr ⟨_, hp, rfl⟩) (lamL_one hp hd (by unfold tfL; decide +kernel))
  have g36 : Good P w (tbK K) mg base 39 1013 (gm.fn 1013) := goodL_mk F36 sc_l_right og36 rfl rfl ck_l_right ((b_l_right6 (gam_at rfl) (gam_at rfl) (gam_at rfl) (gam_at rfl) (gam_at rfl) (gam_at rfl) (gam_at rfl) (gam_hf rfl)).d m_l_right6) ld36 fun _ _ _ _ _ _ us hl => match us, hl with | [_, _, _], _ => rfl
  have l37 : Lv P w (tbK K) gm mg base 39 [q_l_right, q_l_placed, q_l_nearest, q_l_power, q_l_number, q_l_common, q_l_cell_at, q_l_next, q_l_source_of, q_steps_away, q_rounded, q_rounded_once, q_sign_of, q_to_integer, q_check_mode, q_unit, q_is_far, q_greatest, q_value_of, q_most_order, q_unit_exponent, q_exponent, q_check_format, q_size_of, q_is_less, q_over, q_times, q_minus, q_power, q_check_number, q_is_number, q_fraction, q_divisor, q_is_between, q_is_integer] := l36.up.up.cons g36 m36
  have sl_37 : ∀ p ∈ W_law.fns, p ∈ ([q_l_right, q_l_placed, q_l_nearest, q_l_power, q_l_number, q_l_common, q_l_cell_at, q_l_next, q_l_source_of, q_steps_away, q_rounded, q_rounded_once, q_sign_of, q_to_integer, q_check_mode, q_unit, q_is_far, q_greatest, q_value_of, q_most_order, q_unit_exponent, q_exponent, q_check_format, q_size_of, q_is_less, q_over, q_times, q_minus, q_power, q_check_number, q_is_number, q_fraction, q_divisor, q_is_between, q_is_integer] : List (Nat × Str)) := by decide +kernel
  have cv_37 : W_law.cv = true → (∀ n, n < 1000 → (∃ ds h Q R, gm.fn n ds h Q R) → Good P w (tbK K) mg base 39 n (gm.fn n)) ∧ (∀ n vs ds h Q R, ¬ gm.clo n vs ds h Q R) ∧ (∀ n, n < 1000 → PySem.W.keepIn (tbK K).K (.ref ((tbK K).fA n)) = true) := fun z => by cases z
  have og37 : OkG W_law (tbK K) gm P w mg base 39 := {
    fr := fr,
    fns := fun p hp => l37 p (sl_37 p hp),
    fnK := (fun p hp => by cases hp),
    fnD := (fun p hp => by cases hp),
    cons := (fun p hp => by cases hp),
    tbl := rfl,
    cv := cv_37,
    mks := (fun p hp => by
      unfold W_law at hp
      simp only [List.mem_cons, List.not_mem_nil, or_false] at hp
      rcases hp with rfl
      · exact ⟨13, by decide, gi_Format, mc_Format⟩),
    mets := (fun p hp => by cases hp),
    flds := (fun p hp => by cases hp),
    iso := (fun p hp => by
      unfold W_law at hp
      simp only [List.mem_cons, List.not_mem_nil, or_false] at hp
      rcases hp with rfl
      · exact ⟨mc_Format, is_Format⟩),
    rss := (fun p hp => by cases hp),
    hcl := (fun p hp => by cases hp),
    exm := sb,
    xfs := (fun p hp => by cases hp) }
  exact good_of F37 sc_law og37 rfl rfl ck_law ((b_law (gam_at rfl) (gam_at rfl) (gam_at rfl) (gam_at rfl) (gam_at rfl) (gam_at rfl)).d m_law)
end
end FF
open PySem PySem.W PySem.Calls PyProof.Rows
theorem PySem.Challenge.cw_farfloats_k06_rounding_in_small_formats_holds : PySem.Challenge.rw_farfloats_k06_rounding_in_small_formats.Holds := by
  w_on; o_law
  refine HandSHeadRun.head_any (r := OpenLaw.row PySem.Challenge.rw_farfloats_k06_rounding_in_small_formats) (q := view (OpenLaw.row PySem.Challenge.rw_farfloats_k06_rounding_in_small_formats).prog [50]) (H := FF.hk) (ob := FF.ob) (M := 6000) (loose := [("FloatsError" : PySem.Str), ("InvalidFormat" : PySem.Str), ("InvalidBound" : PySem.Str), ("Overflow" : PySem.Str), ("is_integer" : PySem.Str), ("is_between" : PySem.Str), ("divisor" : PySem.Str), ("fraction" : PySem.Str), ("is_number" : PySem.Str), ("check_number" : PySem.Str), ("power" : PySem.Str), ("minus" : PySem.Str), ("times" : PySem.Str), ("over" : PySem.Str), ("is_less" : PySem.Str), ("size_of" : PySem.Str), ("Format" : PySem.Str), ("check_format" : PySem.Str), ("exponent" : PySem.Str), ("unit_exponent" : PySem.Str), ("most_order" : PySem.Str), ("value_of" : PySem.Str), ("greatest" : PySem.Str), ("is_far" : PySem.Str), ("unit" : PySem.Str), ("check_mode" : PySem.Str), ("to_integer" : PySem.Str), ("sign_of" : PySem.Str), ("rounded_once" : PySem.Str), ("rounded" : PySem.Str), ("steps_away" : PySem.Str), ("_law_source_of" : PySem.Str), ("_law_next" : PySem.Str), ("_law_one" : PySem.Str), ("_law_cell_at" : PySem.Str), ("_law_common" : PySem.Str), ("_law_number" : PySem.Str), ("_law_power" : PySem.Str), ("_law_nearest" : PySem.Str), ("_law_placed" : PySem.Str), ("_law_told" : PySem.Str), ("_law_right" : PySem.Str), ("MOST_PRECISION" : PySem.Str), ("MOST_EXPONENT" : PySem.Str), ("MODES" : PySem.Str)]) (d := HandSHeadRun.topDef (OpenLaw.row PySem.Challenge.rw_farfloats_k06_rounding_in_small_formats).prog 50) (kwd := []) FF.ob_eq
    (by kernel_rfl) (fun s => by kernel_rfl) FF.run_ (by kernel_rfl) (by kernel_rfl) (by kernel_rfl) (by rfl) (by first | assumption | decide +kernel) (by decide +kernel) ⟨rfl, rfl, rfl, rfl, rfl, by decide +kernel⟩ ?hw ?hc
  case hw => w_witness2
  case hc =>
    refine FF.law_endL (l := PySem.Challenge.rw_farfloats_k06_rounding_in_small_formats) (k := 40) (x := "_law_script") rfl (by kernel_rfl) ⟨rfl, by decide, by decide⟩ ?F
    intro w mg fa h Y G hmg0
    obtain ⟨K, KX, c⟩ := Y
    have hmg : mg ("law" : PySem.Str) = some (.ref fa) := by
      have e : (HandSHeadRun.topDef (OpenLaw.row PySem.Challenge.rw_farfloats_k06_rounding_in_small_formats).prog 50).name = ("law" : PySem.Str) := by kernel_rfl
      rw [← e]
      exact hmg0
    obtain ⟨fd, hb, hF⟩ := FF.facts (P := (PySem.Challenge.rw_farfloats_k06_rounding_in_small_formats).prog) (w := w) KX G c hmg
    exact ⟨FF.tbK K, fd, FF.sp_law, FF.tfL, KX, rfl, c.empty, c.out, c.hd, hb, fun ns Q R hl hq => ⟨ns, rfl, by omega, hq⟩, fun base _ _ TB => hF base TB⟩

