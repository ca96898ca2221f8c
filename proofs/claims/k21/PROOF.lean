import PyProof.Rows.All
import PySem.Str
import Wide.All
import OpenK.AllK
import Wide.FinOn
import PyProof.EqAt
import PyProof.EqKinds
import PyProof.TupleCall
import HandS.ForMost
import HandS.ForExc
import HandS.Wide
import HandS.WideBits
import HandS.CallSlots
import HandS.CallLocal
import HandS.IsInst
import HandS.TryMany
import HandS.ExcField
import HandS.Defaults
import HandS.Style
import HandS.Comp
import HandS.Iter
import HandS.HeadEnd
import HandS.Head0
import HandS.Head1
import HandS.Head2
import HandS.HeadHook1
import HandS.HeadHook2
import PySem.Challenge.RW_farfloats_k21_whole_ranges_cut_and_turne
set_option Elab.async false
set_option linter.all false
set_option maxRecDepth 100000
namespace FF

/-! ### data -/
inductive D where
  | non
  | bl (b : Bool)
  | int (i : Int)
  | str (s : List Nat)
  | tup (l : List D)
  | lst (l : List D)
  | obj (c : Nat) (fs : List (Nat × D))
  | ref (a : Nat)
  | fn (n : Nat)
  | clo (n : Nat) (vs : List D)
  | odd (k : Nat)

inductive Cell where
  | lst (l : List D)
  | obj (c : Nat) (fs : List (Nat × D))

/-- what may be changed, by address -/
abbrev AH := Nat → Option Cell
def AH.put (h : AH) (a : Nat) (c : Cell) : AH := fun b => if b = a then some c else h b
theorem AH.put_same {h : AH} {a : Nat} {c : Cell} : h.put a c a = some c := if_pos rfl
theorem AH.put_ne {h : AH} {a b : Nat} {c : Cell} (e : b ≠ a) : h.put a c b = h b := if_neg e
theorem AH.put_put {h : AH} {a : Nat} {c e : Cell} : (h.put a c).put a e = h.put a e := by
  funext b; unfold AH.put; split <;> rfl
def AH.Sub (h h' : AH) : Prop := ∀ a c, h a = some c → h' a = some c
theorem AH.Sub.refl (h : AH) : AH.Sub h h := fun _ _ e => e
theorem AH.Sub.trans {h h1 h2 : AH} (a : AH.Sub h h1) (b : AH.Sub h1 h2) : AH.Sub h h2 := fun c o e => b c o (a c o e)

inductive Slot where
  | un
  | val (d : D)
  | own (l : List D)
  | exc (c : Nat) (v : D)
abbrev Env := List Slot
def Env.at : Env → Nat → Slot
  | [], _ => .un
  | s :: _, 0 => s
  | _ :: r, n + 1 => Env.at r n
def Env.put : Env → Nat → Slot → Env
  | [], _, _ => []
  | _ :: r, 0, x => x :: r
  | s :: r, n + 1, x => s :: Env.put r n x
def Env.wipe (σ : Env) : List Nat → Env
  | [] => σ
  | v :: vs => (Env.wipe σ vs).put v .un

def Slot.nox : Slot → Slot
  | .un => .un
  | .val d => .val d
  | .own _ => .un
  | .exc _ _ => .un
def Env.nox : Env → Env
  | [] => []
  | s :: r => s.nox :: Env.nox r
/-! ### values -/
def SL : Nat := 16777216
/-- at most so deep, strings of code points -/
def D.pln : Nat → D → Bool
  | _, .non => true
  | _, .bl _ => true
  | _, .int _ => true
  | _, .str s => s.all (· < 1114112)
  | 0, _ => false
  | n + 1, .tup l => l.all (D.pln n)
  | n + 1, .lst l => l.all (D.pln n)
  | _, _ => false
mutual
def D.eqb : D → D → Bool
  | .non, .non => true
  | .bl a, .bl b => a == b
  | .bl a, .int j => (if a then 1 else 0) == j
  | .int i, .bl b => i == (if b then 1 else 0)
  | .int i, .int j => i == j
  | .str x, .str y => x == y
  | .lst xs, .lst ys => D.eqbs xs ys
  | .tup xs, .tup ys => D.eqbs xs ys
  | _, _ => false
def D.eqbs : List D → List D → Bool
  | [], [] => true
  | x :: xs, y :: ys => D.eqb x y && D.eqbs xs ys
  | _, _ => false
end

def bitsI (i : Int) : Nat := if i = 0 then 0 else i.natAbs.log2 + 1
def mulOk (i j : Int) : Prop := bitsI i + bitsI j ≤ 134217728 ∨ bitsI i ≤ 64 ∨ bitsI j ≤ 64

inductive BOp where | add | sub | mul | fdiv | mod | pow | shl | shr
inductive COp where | eq | ne | lt | le | gt | ge | is_ | isn | in_ | nin
inductive Ty where | int | bool | str | tup | lst | dict | obj (c : Nat)

def binI (op : BOp) (i j : Int) (K : D → Prop) : Prop :=
  match op with
  | .add => K (.int (i + j))
  | .sub => K (.int (i - j))
  | .mul => mulOk i j ∧ K (.int (i * j))
  | .fdiv => (j ≠ 0 ∧ bitsI j ≤ 9000) ∧ K (.int (i.fdiv j))
  | .mod => j ≠ 0 ∧ K (.int (i.fmod j))
  | .pow => (0 ≤ j ∧ j ≤ 1000000 ∧ i.natAbs < 2 ^ 64) ∧ K (.int (i ^ j.toNat))
  | .shl => (0 ≤ j ∧ (bitsI i : Int) + j ≤ 134217728) ∧ K (.int (i * 2 ^ j.toNat))
  | .shr => 0 ≤ j ∧ K (.int (i / 2 ^ j.toNat))
def wBin (op : BOp) (x y : D) (K : D → Prop) : Prop :=
  match x, y with
  | .int i, .int j => binI op i j K
  | .lst a, .lst b => match op with
    | .add => (a.length + b.length ≤ SL) ∧ K (.lst (a ++ b))
    | _ => False
  | .lst a, .int k => match op with
    | .mul => (-1000000 < k ∧ k < 1000000 ∧ a.length * k.toNat ≤ SL) ∧ K (.lst ((List.replicate k.toNat a).flatten))
    | _ => False
  | .str a, .str b => match op with
    | .add => (a.length + b.length ≤ SL) ∧ K (.str (a ++ b))
    | _ => False
  | .tup a, .tup b => match op with
    | .add => (a.length ≤ SL ∧ b.length ≤ SL ∧ a ≠ [] ∧ b ≠ [] ∧ a.length + b.length ≤ SL) ∧ K (.tup (a ++ b))
    | _ => False
  | _, _ => False
def cmpI (op : COp) (i j : Int) (K : Bool → Prop) : Prop :=
  match op with
  | .eq => K (decide (i = j))
  | .ne => K (!decide (i = j))
  | .lt => K (decide (i < j))
  | .le => K (decide (i ≤ j))
  | .gt => K (decide (j < i))
  | .ge => K (decide (j ≤ i))
  | _ => False
def eqOk (x y : D) : Prop := x.pln 60 = true ∧ y.pln 60 = true
/-- flat things, to be sought in a list -/
def D.flat : D → Bool
  | .non => true
  | .bl _ => true
  | .int _ => true
  | .str _ => true
  | _ => false
def D.isNon : D → Bool
  | .non => true
  | _ => false
def wCmp (op : COp) (x y : D) (K : Bool → Prop) : Prop :=
  match op with
  | .lt => match x, y with
    | .int i, .int j => K (decide (i < j))
    | _, _ => False
  | .le => match x, y with
    | .int i, .int j => K (decide (i ≤ j))
    | _, _ => False
  | .gt => match x, y with
    | .int i, .int j => K (decide (j < i))
    | _, _ => False
  | .ge => match x, y with
    | .int i, .int j => K (decide (j ≤ i))
    | _, _ => False
  | .eq => eqOk x y ∧ K (D.eqb x y)
  | .ne => eqOk x y ∧ K (!D.eqb x y)
  | .is_ => match y with
    | .non => K x.isNon
    | _ => False
  | .isn => match y with
    | .non => K (!x.isNon)
    | _ => False
  | .in_ => match y with
    | .lst l => (x.flat = true ∧ l.all D.flat = true) ∧ K (l.any (D.eqb x))
    | .tup l => (x.flat = true ∧ l.all D.flat = true) ∧ K (l.any (D.eqb x))
    | _ => False
  | .nin => match y with
    | .lst l => (x.flat = true ∧ l.all D.flat = true) ∧ K (!l.any (D.eqb x))
    | .tup l => (x.flat = true ∧ l.all D.flat = true) ∧ K (!l.any (D.eqb x))
    | _ => False

def isTy : Ty → D → Option Bool
  | .int, .int _ => some true
  | .int, .bl _ => some true
  | .int, .non => some false
  | .int, .str _ => some false
  | .int, .tup _ => some false
  | .int, .lst _ => some false
  | .bool, .bl _ => some true
  | .bool, .int _ => some false
  | .bool, .non => some false
  | .bool, .str _ => some false
  | .bool, .tup _ => some false
  | .bool, .lst _ => some false
  | .tup, .tup _ => some true
  | .tup, .int _ => some false
  | .tup, .bl _ => some false
  | .tup, .non => some false
  | .tup, .str _ => some false
  | .tup, .lst _ => some false
  | .lst, .lst _ => some true
  | .lst, .int _ => some false
  | .lst, .bl _ => some false
  | .lst, .non => some false
  | .lst, .str _ => some false
  | .lst, .tup _ => some false
  | .str, .str _ => some true
  | .str, .int _ => some false
  | .str, .bl _ => some false
  | .str, .non => some false
  | .str, .lst _ => some false
  | .str, .tup _ => some false
  | _, _ => none

/-- a list that may be read: a value, or what stands at an address -/
def asL (h : AH) : D → Option (List D)
  | .lst l => some l
  | .ref a => match h a with
    | some (.lst l) => some l
    | _ => none
  | _ => none
def asLT (h : AH) : D → Option (List D)
  | .lst l => some l
  | .tup l => some l
  | .ref a => match h a with
    | some (.lst l) => some l
    | _ => none
  | _ => none

/-- the place of an index -/
def ixP (n : Nat) (i : Int) : Option Nat :=
  if 0 ≤ i then (if i < n then some i.toNat else none) else (if -(n : Int) ≤ i then some (i + n).toNat else none)
/-- where a slice's bound falls (step 1) -/
def slP (n : Nat) (i : Int) : Nat := if 0 ≤ i then min i.toNat n else (i + n).toNat

inductive Bi where | abs | int | len | max | min | sum | all | any | sorted | list | tuple | str | divmod
inductive BM where | bits | count

def intsOf : List D → Option (List Int)
  | [] => some []
  | .int i :: r => match intsOf r with
    | some l => some (i :: l)
    | none => none
  | _ => none
def boolsOf : List D → Option (List Bool)
  | [] => some []
  | .bl i :: r => match boolsOf r with
    | some l => some (i :: l)
    | none => none
  | _ => none
def maxL : List Int → Int
  | [] => 0
  | [x] => x
  | x :: r => max x (maxL r)
def minL : List Int → Int
  | [] => 0
  | [x] => x
  | x :: r => min x (minL r)

def wBi (b : Bi) (ds : List D) (h : AH) (K : D → Prop) : Prop :=
  match b with
  | .abs => match ds with
    | [.int i] => K (.int (i.natAbs : Int))
    | _ => False
  | .int => match ds with
    | [.int i] => K (.int i)
    | [.bl b] => K (.int (if b then 1 else 0))
    | _ => False
  | .len => match ds with
    | [d] => match d with
      | .str s => s.length ≤ SL ∧ K (.int s.length)
      | d => match asLT h d with
        | some l => K (.int l.length)
        | none => False
    | _ => False
  | .max => match ds with
    | [.int i, .int j] => K (.int (max i j))
    | [d] => match asL h d with
      | some l => match intsOf l with
        | some ns => 0 < ns.length ∧ K (.int (maxL ns))
        | none => False
      | none => False
    | _ => False
  | .min => match ds with
    | [.int i, .int j] => K (.int (min i j))
    | [d] => match asL h d with
      | some l => match intsOf l with
        | some ns => 0 < ns.length ∧ K (.int (minL ns))
        | none => False
      | none => False
    | _ => False
  | .sum => match ds with
    | [d] => match asL h d with
      | some l => match intsOf l with
        | some ns => K (.int ns.sum)
        | none => False
      | none => False
    | _ => False
  | .all => match ds with
    | [d] => match asL h d with
      | some l => match boolsOf l with
        | some ns => K (.bl (ns.all id))
        | none => False
      | none => False
    | _ => False
  | .any => match ds with
    | [d] => match asL h d with
      | some l => match boolsOf l with
        | some ns => K (.bl (ns.any id))
        | none => False
      | none => False
    | _ => False
  | .divmod => match ds with
    | [.int i, .int j] => (0 < j ∧ bitsI j ≤ 9000) ∧ K (.tup [.int (i / j), .int (i % j)])
    | _ => False
  | _ => False

/-! ### the text -/
mutual
inductive E where
  | var (i : Nat)
  | int (i : Int)
  | bl (b : Bool)
  | non
  | str (s : List Nat)
  | gcon (g : Nat) (d : D)
  | gfn (n : Nat)
  | bin (op : BOp) (a b : E)
  | neg (a : E)
  | not (a : E)
  | ands (es : Es)
  | ors (es : Es)
  | cmp (op : COp) (a b : E)
  | chain (o1 o2 : COp) (a b c : E)
  | ite (c a b : E)
  | tup (es : Es)
  | lst (es : Es)
  | refl (es : Es)
  | call (f : Nat) (es : Es) (dv : List D)
  | callk (f : Nat) (es ks : Es) (perm : List Nat)
  | callv (i : Nat) (es : Es)
  | meth (f c : Nat) (o : E) (es : Es) (dv : List D)
  | make (f c : Nat) (es : Es) (frz : Bool)
  | bi (b : Bi) (es : Es)
  | isin (e : E) (t : Ty)
  | bits (o : E)
  | count (o e : E)
  | fld (o : E) (f : Nat)
  | xfld (i : Nat)
  | idx (o i : E)
  | slTo (o b : E)
  | slFrom (o a : E)
  | slOf (o a b : E)
  | slRev (o : E)
  | comp (t : Tg) (it : It) (c : Es) (e : E) (own : List Nat)
inductive Es where
  | nil
  | cons (e : E) (es : Es)
inductive It where
  | seq (e : E)
  | rng1 (b : E)
  | rng2 (a b : E)
  | rng3 (a b c : E)
  | zip (a b : E)
  | enum (e : E)
inductive Tg where
  | name (i : Nat)
  | tup (ts : Tgs)
inductive Tgs where
  | nil
  | cons (t : Tg) (ts : Tgs)
end
mutual
inductive S where
  | set (i : Nat) (e : E)
  | setC (i : Nat) (e : E)
  | setOwn (i : Nat) (e : E)
  | setT (ts : Tgs) (e : E)
  | setP (i j : Nat) (a b : E)
  | setFld (c : Nat) (o : E) (f : Nat) (e : E)
  | setIdx (o i e : E)
  | expr (e : E)
  | app (i : Nat) (e : E)
  | ext (i : Nat) (e : E)
  | ret (e : E)
  | retN
  | ite (c : E) (a b : Ss)
  | whl (c : E) (b : Ss)
  | for_ (t : Tg) (it : It) (b : Ss)
  | try_ (b : Ss) (hs : Hs)
  | raise (c : Nat) (e : E)
  | never
  | pass
  | cont
  | frz (i : Nat)
inductive Ss where
  | nil
  | cons (s : S) (r : Ss)
inductive Hs where
  | nil
  | cons (c : Nat) (n : Option Nat) (b : Ss) (r : Hs)
end

/-! ### what must hold -/
structure Exc where
  c : Nat
  v : D
abbrev QE := D → AH → Prop
abbrev RE := Exc → AH → Prop
abbrev Spec := List D → AH → QE → RE → Prop
/-- the defs by number; a class below another -/
structure Gam where
  fn : Nat → Spec
  clo : Nat → List D → Spec
  sub : Nat → Nat → Bool

mutual
def bindT : Tg → D → Env → (Env → Prop) → Prop
  | .name i, d, σ, K => K (σ.put i (.val d))
  | .tup ts, d, σ, K => match d with
    | .tup l => bindTs ts l σ K
    | _ => False
def bindTs : Tgs → List D → Env → (Env → Prop) → Prop
  | .nil, l, σ, K => match l with
    | [] => K σ
    | _ => False
  | .cons t ts, l, σ, K => match l with
    | d :: r => bindT t d σ (fun σ' => bindTs ts r σ' K)
    | [] => False
end

def loopC (step : D → AH → (Option D → AH → Prop) → Prop) : List D → List D → AH → (List D → AH → Prop) → Prop
  | [], acc, h, K => K acc h
  | d :: r, acc, h, K => step d h (fun o h' => match o with
    | some y => acc.length < SL ∧ loopC step r (acc ++ [y]) h' K
    | none => loopC step r acc h' K)

def rangeL (a : Int) (n : Nat) : List D := (List.range n).map fun (i : Nat) => .int (a + i)
def rangeC (a : Int) (n : Nat) (c : Int) : List D := (List.range n).map fun (i : Nat) => .int (a + i * c)
def rngN (a b c : Int) : Nat := if 0 < c then ((b - a + c - 1) / c).toNat else ((a - b + (-c) - 1) / (-c)).toNat
def okR (i : Int) : Prop := -(2 ^ 62) ≤ i ∧ i < 2 ^ 62
def zipD (a b : List D) : List D := List.zipWith (fun x y => .tup [x, y]) a b
def enumD (l : List D) : List D := List.zipWith (fun (i : Nat) y => .tup [.int i, y]) (List.range l.length) l
def permD (p : List Nat) (l : List D) : List D := p.filterMap (l[·]?)

def D.asObj (h : AH) : D → Option (Nat × List (Nat × D))
  | .obj c fs => some (c, fs)
  | .ref a => match h a with
    | some (.obj c fs) => some (c, fs)
    | _ => none
  | _ => none
def getF (f : Nat) : List (Nat × D) → Option D
  | [] => none
  | (g, d) :: r => if g = f then some d else getF f r
def putF (f : Nat) (d : D) : List (Nat × D) → List (Nat × D)
  | [] => [(f, d)]
  | (g, e) :: r => if g = f then (g, d) :: r else (g, e) :: putF f d r

mutual
def wpE (Γ : Gam) : E → Env → AH → QE → RE → Prop
  | .var i, σ, h, Q, _ => match σ.at i with
    | .val d => Q d h
    | _ => False
  | .int i, _, h, Q, _ => Q (.int i) h
  | .bl b, _, h, Q, _ => Q (.bl b) h
  | .non, _, h, Q, _ => Q .non h
  | .str s, _, h, Q, _ => Q (.str s) h
  | .gcon _ d, _, h, Q, _ => Q d h
  | .gfn n, _, h, Q, _ => Q (.fn n) h
  | .bin op a b, σ, h, Q, R => wpE Γ a σ h (fun x h => wpE Γ b σ h (fun y h => wBin op x y fun z => Q z h) R) R
  | .neg a, σ, h, Q, R => wpE Γ a σ h (fun x h => match x with
    | .int i => Q (.int (-i)) h
    | _ => False) R
  | .not a, σ, h, Q, R => wpE Γ a σ h (fun x h => match x with
    | .bl b => Q (.bl (!b)) h
    | _ => False) R
  | .ands es, σ, h, Q, R => wpAnd Γ es σ h Q R
  | .ors es, σ, h, Q, R => wpOr Γ es σ h Q R
  | .cmp op a b, σ, h, Q, R => wpE Γ a σ h (fun x h => wpE Γ b σ h (fun y h => wCmp op x y fun k => Q (.bl k) h) R) R
  | .chain o1 o2 a b c, σ, h, Q, R => wpE Γ a σ h (fun x h => wpE Γ b σ h (fun y h => wCmp o1 x y fun k => if k = true then wpE Γ c σ h (fun z h => wCmp o2 y z fun k => Q (.bl k) h) R else Q (.bl false) h) R) R
  | .ite c a b, σ, h, Q, R => wpE Γ c σ h (fun x h => match x with
    | .bl k => if k = true then wpE Γ a σ h Q R else wpE Γ b σ h Q R
    | _ => False) R
  | .tup es, σ, h, Q, R => wpEs Γ es σ h (fun ds h => ds.length ≤ SL ∧ Q (.tup ds) h) R
  | .lst es, σ, h, Q, R => wpEs Γ es σ h (fun ds h => ds.length ≤ SL ∧ Q (.lst ds) h) R
  | .refl es, σ, h, Q, R => wpEs Γ es σ h (fun ds h => ds.length ≤ SL ∧ ∀ a, h a = none → Q (.ref a) (h.put a (.lst ds))) R
  | .call f es dv, σ, h, Q, R => wpEs Γ es σ h (fun ds h => Γ.fn f (ds ++ dv) h Q R) R
  | .callk f es ks p, σ, h, Q, R => wpEs Γ es σ h (fun ds h => wpEs Γ ks σ h (fun es h => Γ.fn f (permD p (ds ++ es)) h Q R) R) R
  | .callv i es, σ, h, Q, R => match σ.at i with
    | .val (.fn n) => n < 1000 ∧ wpEs Γ es σ h (fun ds h => Γ.fn n ds h Q R) R
    | .val (.clo n vs) => wpEs Γ es σ h (fun ds h => Γ.clo n vs ds h Q R) R
    | _ => False
  | .meth f c o es dv, σ, h, Q, R => wpE Γ o σ h (fun x h => match x.asObj h with
    | some (c', _) => c' = c ∧ wpEs Γ es σ h (fun ds h => Γ.fn f (x :: (ds ++ dv)) h Q R) R
    | none => False) R
  | .make f c es fz, σ, h, Q, R => wpEs Γ es σ h (fun ds h => ∀ a, h a = none → Γ.fn f (.ref a :: ds) (h.put a (.obj c [])) (fun d h' => match d with
    | .non => match fz with
      | true => ∃ fs, h' a = some (.obj c fs) ∧ Q (.obj c fs) (fun b => if b = a then none else h' b)
      | false => Q (.ref a) h'
    | _ => False) R) R
  | .bi b es, σ, h, Q, R => wpEs Γ es σ h (fun ds h => wBi b ds h fun d => Q d h) R
  | .isin e t, σ, h, Q, R => wpE Γ e σ h (fun x h => match isTy t x with
    | some b => Q (.bl b) h
    | none => False) R
  | .bits o, σ, h, Q, R => wpE Γ o σ h (fun x h => match x with
    | .int i => Q (.int (bitsI i : Nat)) h
    | _ => False) R
  | .count o e, σ, h, Q, R => wpE Γ o σ h (fun x h => wpE Γ e σ h (fun y h => match asL h x, y with
    | some l, .int k => match intsOf l with
      | some ns => Q (.int (ns.count k : Nat)) h
      | none => False
    | _, _ => False) R) R
  | .fld o f, σ, h, Q, R => wpE Γ o σ h (fun x h => match x.asObj h with
    | some (_, fs) => match getF f fs with
      | some d => Q d h
      | none => False
    | none => False) R
  | .xfld i, σ, h, Q, _ => match σ.at i with
    | .exc _ d => Q d h
    | _ => False
  | .idx o i, σ, h, Q, R => wpE Γ o σ h (fun x h => wpE Γ i σ h (fun y h => match y with
    | .int k => match asLT h x with
      | some l => match ixP l.length k with
        | some j => match l[j]? with
          | some d => Q d h
          | none => False
        | none => False
      | none => False
    | _ => False) R) R
  | .slTo o b, σ, h, Q, R => wpE Γ o σ h (fun x h => wpE Γ b σ h (fun y h => match y with
    | .int k => match asL h x with
      | some l => Q (.lst (l.take (slP l.length k))) h
      | none => False
    | _ => False) R) R
  | .slFrom o a, σ, h, Q, R => wpE Γ o σ h (fun x h => wpE Γ a σ h (fun y h => match y with
    | .int k => match asL h x with
      | some l => Q (.lst (l.drop (slP l.length k))) h
      | none => False
    | _ => False) R) R
  | .slOf o a b, σ, h, Q, R => wpE Γ o σ h (fun x h => wpE Γ a σ h (fun y h => match y with
    | .int k => wpE Γ b σ h (fun z h => match z with
      | .int m => match asL h x with
        | some l => Q (.lst ((l.take (slP l.length m)).drop (slP l.length k))) h
        | none => False
      | _ => False) R
    | _ => False) R) R
  | .slRev o, σ, h, Q, R => wpE Γ o σ h (fun x h => match asL h x with
    | some l => Q (.lst l.reverse) h
    | none => False) R
  | .comp t it c e own, σ, h, Q, R => wpI Γ it σ h (fun ds h => loopC (fun d h K => bindT t d (σ.nox.wipe own) fun σ' => wpT Γ c σ' h (fun k h => if k = true then wpE Γ e σ' h (fun y h => K (some y) h) (fun _ _ => False) else K none h)) ds [] h fun l h => Q (.lst l) h) R
/-- the tests of a comprehension: none, or one -/
def wpT (Γ : Gam) : Es → Env → AH → (Bool → AH → Prop) → Prop
  | .nil, _, h, K => K true h
  | .cons e r, σ, h, K => wpE Γ e σ h (fun x h => match x with
    | .bl k => match r with
      | .nil => K k h
      | .cons _ _ => False
    | _ => False) (fun _ _ => False)
def wpEs (Γ : Gam) : Es → Env → AH → (List D → AH → Prop) → RE → Prop
  | .nil, _, h, Q, _ => Q [] h
  | .cons e r, σ, h, Q, R => wpE Γ e σ h (fun x h => wpEs Γ r σ h (fun xs h => Q (x :: xs) h) R) R
def wpAnd (Γ : Gam) : Es → Env → AH → QE → RE → Prop
  | .nil, _, _, _, _ => False
  | .cons e r, σ, h, Q, R => match r with
    | .nil => wpE Γ e σ h Q R
    | .cons _ _ => wpE Γ e σ h (fun x h => match x with
      | .bl k => if k = true then wpAnd Γ r σ h Q R else Q (.bl false) h
      | _ => False) R
def wpOr (Γ : Gam) : Es → Env → AH → QE → RE → Prop
  | .nil, _, _, _, _ => False
  | .cons e r, σ, h, Q, R => match r with
    | .nil => wpE Γ e σ h Q R
    | .cons _ _ => wpE Γ e σ h (fun x h => match x with
      | .bl k => if k = true then Q (.bl true) h else wpOr Γ r σ h Q R
      | _ => False) R
def wpI (Γ : Gam) : It → Env → AH → (List D → AH → Prop) → RE → Prop
  | .seq e, σ, h, K, R => wpE Γ e σ h (fun x h => match x with
    | .lst l => K l h
    | .tup l => K l h
    | _ => False) R
  | .rng1 b, σ, h, K, R => wpE Γ b σ h (fun x h => match x with
    | .int j => okR j ∧ K (rangeL 0 j.toNat) h
    | _ => False) R
  | .rng2 a b, σ, h, K, R => wpE Γ a σ h (fun x h => wpE Γ b σ h (fun y h => match x, y with
    | .int i, .int j => okR i ∧ okR j ∧ K (rangeL i (j - i).toNat) h
    | _, _ => False) R) R
  | .rng3 a b c, σ, h, K, R => wpE Γ a σ h (fun x h => wpE Γ b σ h (fun y h => wpE Γ c σ h (fun z h => match x, y, z with
    | .int i, .int j, .int k => okR i ∧ okR j ∧ k ≠ 0 ∧ k.natAbs < 1000000 ∧ K (rangeC i (rngN i j k) k) h
    | _, _, _ => False) R) R) R
  | .zip a b, σ, h, K, R => wpE Γ a σ h (fun x h => wpE Γ b σ h (fun y h => match x, y with
    | .lst l, .lst m => K (zipD l m) h
    | _, _ => False) R) R
  | .enum e, σ, h, K, R => wpE Γ e σ h (fun x h => match x with
    | .lst l => K (enumD l) h
    | _ => False) R
end

structure Post where
  nx : Env → AH → Prop
  rt : D → AH → Prop
  ct : Env → AH → Prop
  R : Exc → Env → AH → Prop

def forL (body : Env → AH → Post → Prop) (bind : D → Env → (Env → Prop) → Prop) : List D → Env → AH → Post → Prop
  | [], σ, h, P => P.nx σ h
  | d :: r, σ, h, P => bind d σ fun σ' => body σ' h { P with nx := fun σ h => forL body bind r σ h P, ct := fun σ h => forL body bind r σ h P }

/-- expressions that make a new list -/
def wpF (Γ : Gam) (e : E) (σ : Env) (h : AH) (K : List D → AH → Prop) (R : RE) : Prop :=
  match e with
  | .lst es => wpEs Γ es σ h (fun ds h => ds.length ≤ SL ∧ K ds h) R
  | .bin .add a b => wpE Γ a σ h (fun x h => wpE Γ b σ h (fun y h => match x, y with
    | .lst l, .lst m => l.length + m.length ≤ SL ∧ K (l ++ m) h
    | _, _ => False) R) R
  | _ => False

mutual
def wpS (Γ : Gam) : S → Env → AH → Post → Prop
  | .set i e, σ, h, P => wpE Γ e σ h (fun d h => P.nx (σ.put i (.val d)) h) (fun x h => P.R x σ h)
  | .setC i e, σ, h, P => wpE Γ e σ h (fun d h => P.nx (σ.put i (.val d)) h) (fun x h => P.R x σ h)
  | .setOwn i e, σ, h, P => wpF Γ e σ h (fun ds h => P.nx (σ.put i (.own ds)) h) (fun x h => P.R x σ h)
  | .setT ts e, σ, h, P => wpE Γ e σ h (fun d h => match d with
    | .tup l => bindTs ts l σ (fun σ' => P.nx σ' h)
    | _ => False) (fun x h => P.R x σ h)
  | .setP i j a b, σ, h, P => wpE Γ a σ h (fun x h => wpE Γ b σ h (fun y h => P.nx ((σ.put i (.val x)).put j (.val y)) h) (fun x h => P.R x σ h)) (fun x h => P.R x σ h)
  | .setFld c o f e, σ, h, P => wpE Γ e σ h (fun d h => wpE Γ o σ h (fun x h => match x with
    | .ref a => match h a with
      | some (.obj c' fs) => (c' = c ∧ fs.length < 1000) ∧ P.nx σ (h.put a (.obj c (putF f d fs)))
      | _ => False
    | _ => False) (fun x h => P.R x σ h)) (fun x h => P.R x σ h)
  | .setIdx o i e, σ, h, P => wpE Γ e σ h (fun d h => wpE Γ o σ h (fun x h => wpE Γ i σ h (fun y h => match x, y with
    | .ref a, .int k => match h a with
      | some (.lst l) => match ixP l.length k with
        | some j => P.nx σ (h.put a (.lst (l.set j d)))
        | none => False
      | _ => False
    | _, _ => False) (fun x h => P.R x σ h)) (fun x h => P.R x σ h)) (fun x h => P.R x σ h)
  | .expr e, σ, h, P => wpE Γ e σ h (fun _ h => P.nx σ h) (fun x h => P.R x σ h)
  | .app i e, σ, h, P => match σ.at i with
    | .own l => wpE Γ e σ h (fun d h => l.length < SL ∧ P.nx (σ.put i (.own (l ++ [d]))) h) (fun x h => P.R x σ h)
    | _ => False
  | .ext i e, σ, h, P => match σ.at i with
    | .own l => wpE Γ e σ h (fun d h => match d with
      | .lst m => l.length + m.length ≤ SL ∧ P.nx (σ.put i (.own (l ++ m))) h
      | _ => False) (fun x h => P.R x σ h)
    | _ => False
  | .ret e, σ, h, P => wpE Γ e σ h P.rt (fun x h => P.R x σ h)
  | .retN, _, h, P => P.rt .non h
  | .ite c a b, σ, h, P => wpE Γ c σ h (fun x h => match x with
    | .bl k => if k = true then wpSs Γ a σ h P else wpSs Γ b σ h P
    | _ => False) (fun x h => P.R x σ h)
  | .whl c b, σ, h, P => ∃ W : Nat → Env → AH → Prop, (∃ m, W m σ h) ∧ ∀ m σ h, W m σ h → wpE Γ c σ h (fun x h => match x with
    | .bl k => if k = true then wpSs Γ b σ h { P with nx := fun σ h => ∃ m', m' < m ∧ W m' σ h, ct := fun σ h => ∃ m', m' < m ∧ W m' σ h } else P.nx σ h
    | _ => False) (fun x h => P.R x σ h)
  | .for_ t it b, σ, h, P => wpI Γ it σ h (fun ds h => forL (fun σ h P => wpSs Γ b σ h P) (bindT t) ds σ h P) (fun x h => P.R x σ h)
  | .try_ b hs, σ, h, P => wpSs Γ b σ h { P with R := fun x σ h => wpH Γ hs x σ h P }
  | .raise c e, σ, h, P => wpE Γ e σ h (fun d h => P.R ⟨c, d⟩ σ h) (fun x h => P.R x σ h)
  | .never, _, _, _ => False
  | .pass, σ, h, P => P.nx σ h
  | .cont, σ, h, P => P.ct σ h
  | .frz i, σ, h, P => match σ.at i with
    | .own l => P.nx (σ.put i (.val (.lst l))) h
    | _ => False
def wpSs (Γ : Gam) : Ss → Env → AH → Post → Prop
  | .nil, σ, h, P => P.nx σ h
  | .cons s r, σ, h, P => wpS Γ s σ h { P with nx := fun σ h => wpSs Γ r σ h P }
def wpH (Γ : Gam) : Hs → Exc → Env → AH → Post → Prop
  | .nil, x, σ, h, P => P.R x σ h
  | .cons c n b r, x, σ, h, P => if Γ.sub x.c c = true then (match n with
      | some i => wpSs Γ b (σ.put i (.exc x.c x.v)) h { P with nx := fun σ h => P.nx (σ.put i .un) h, ct := fun σ h => P.ct (σ.put i .un) h, R := fun _ _ _ => False }
      | none => wpSs Γ b σ h { P with R := fun _ _ _ => False })
    else wpH Γ r x σ h P
end

/-- a def's text: how many parameters, how many names, the body -/
structure Fd where
  np : Nat
  ns : Nat
  body : Ss
def start (ns : Nat) (ds : List D) : Env := ds.map .val ++ List.replicate (ns - ds.length) .un
def BodyOk (Γ : Gam) (f : Fd) (sp : Spec) : Prop :=
  ∀ ds h Q R, sp ds h Q R → ds.length = f.np ∧ wpSs Γ f.body (start f.ns ds) h ⟨fun _ h => Q .non h, Q, fun _ _ => False, fun x _ h => R x h⟩
/-- the same, where objects made on the way may be forgotten -/
def BodyOkD (Γ : Gam) (f : Fd) (sp : Spec) : Prop :=
  ∀ ds h Q R, sp ds h Q R → ds.length = f.np ∧ wpSs Γ f.body (start f.ns ds) h ⟨fun _ h => ∃ h', AH.Sub h' h ∧ Q .non h', fun d h => ∃ h', AH.Sub h' h ∧ Q d h', fun _ _ => False, fun x _ h => ∃ h', AH.Sub h' h ∧ R x h'⟩
end FF

namespace FF
open PySem PySem.Spec PyProof.Rows L2

/-! ### the machine's names for our numbers -/
structure Tb where
  K : PySem.W.Frag
  cA : Nat → Addr
  fA : Nat → Addr
  tbl : List Str
  nd : tbl.Nodup
  xf : Nat → Str

abbrev sOf (s : List Nat) : Str := ⟨s.toArray⟩
mutual
inductive Rep (T : Tb) (F : Hp) : D → V → Prop
  | non : Rep T F .non .non
  | bl {b : Bool} : Rep T F (.bl b) (.bl b)
  | int {i : Int} : Rep T F (.int i) (.int i)
  | str {s : List Nat} : Rep T F (.str s) (.str (sOf s))
  | tup {l : List D} {a : Addr} {vs : List V} : SqT T.K F a vs → Reps T F l vs → Rep T F (.tup l) (.ref a)
  | lst {l : List D} {a : Addr} {vs : List V} : SqL T.K F a vs → Reps T F l vs → Rep T F (.lst l) (.ref a)
  | obj {c : Nat} {fs : List (Nat × D)} {a dx : Addr} {fvs : List (Str × V)} : F a = some (.ins (T.cA c) dx fvs) → Cls T.K (T.cA c) → RepF T F c fs fvs → Rep T F (.obj c fs) (.ref a)
  | ref {a : Addr} : Rep T F (.ref a) (.ref a)
  | fn {n : Nat} : Rep T F (.fn n) (.ref (T.fA n))
inductive Reps (T : Tb) (F : Hp) : List D → List V → Prop
  | nil : Reps T F [] []
  | cons {d : D} {v : V} {ds : List D} {vs : List V} : Rep T F d v → Reps T F ds vs → Reps T F (d :: ds) (v :: vs)
inductive RepF (T : Tb) (F : Hp) : Nat → List (Nat × D) → List (Str × V) → Prop
  | nil {c : Nat} : RepF T F c [] []
  | cons {c : Nat} {f : Nat} {x : Str} {d : D} {v : V} {ds : List (Nat × D)} {vs : List (Str × V)} : T.tbl[f]? = some x ∧ NoAttr T.K (T.cA c) x → Rep T F d v → RepF T F c ds vs → RepF T F c ((f, d) :: ds) ((x, v) :: vs)
end
theorem Same.sqt {K : PySem.W.Frag} {H H' : Hp} {a : Addr} {xs : List V} (e : Same H H') (h : SqT K H a xs) : SqT K H' a xs := by
  rcases h with (h | ⟨o, h⟩) | h
  · exact .inl (.inl (e _ _ h))
  · exact .inl (.inr ⟨o, e _ _ h⟩)
  · exact .inr h
mutual
theorem Rep.mono {T : Tb} {F F' : Hp} (e : Same F F') : ∀ {d : D} {v : V}, Rep T F d v → Rep T F' d v
  | _, _, .non => .non
  | _, _, .bl => .bl
  | _, _, .int => .int
  | _, _, .str => .str
  | _, _, .tup h r => .tup (Same.sqt e h) (Reps.mono e r)
  | _, _, .lst h r => .lst (e.seq h) (Reps.mono e r)
  | _, _, .obj h k r => .obj (e _ _ h) k (RepF.mono e r)
  | _, _, .ref => .ref
  | _, _, .fn => .fn
theorem Reps.mono {T : Tb} {F F' : Hp} (e : Same F F') : ∀ {d : List D} {v : List V}, Reps T F d v → Reps T F' d v
  | _, _, .nil => .nil
  | _, _, .cons h r => .cons (Rep.mono e h) (Reps.mono e r)
theorem RepF.mono {T : Tb} {F F' : Hp} (e : Same F F') : ∀ {c : Nat} {d : List (Nat × D)} {v : List (Str × V)}, RepF T F c d v → RepF T F' c d v
  | _, _, _, .nil => .nil
  | _, _, _, .cons x h r => .cons x (Rep.mono e h) (RepF.mono e r)
end
section
variable {T : Tb} {F : Hp}
theorem Reps.length : ∀ {d : List D} {v : List V}, Reps T F d v → d.length = v.length
  | _, _, .nil => rfl
  | _, _, .cons _ r => congrArg (· + 1) (Reps.length r)
theorem Reps.append : ∀ {d e : List D} {v u : List V}, Reps T F d v → Reps T F e u → Reps T F (d ++ e) (v ++ u)
  | _, _, _, _, .nil, s => s
  | _, _, _, _, .cons h r, s => .cons h (Reps.append r s)
theorem Reps.get : ∀ {d : List D} {v : List V} {i : Nat} {x : D}, Reps T F d v → d[i]? = some x → ∃ u, v[i]? = some u ∧ Rep T F x u
  | _, _, i, x, .nil, e => by simp at e
  | _, _, 0, x, .cons (d := d) h _, e => by
    have e : d = x := by simpa using e
    subst e
    exact ⟨_, rfl, h⟩
  | _, _, i + 1, x, .cons _ r, e => Reps.get (i := i) r (by simpa using e)
theorem Reps.set {x : D} {u : V} (h : Rep T F x u) : ∀ {d : List D} {v : List V} (i : Nat), Reps T F d v → Reps T F (d.set i x) (v.set i u)
  | _, _, _, .nil => .nil
  | _, _, 0, .cons _ r => .cons h r
  | _, _, i + 1, .cons g r => .cons g (Reps.set h i r)
theorem Reps.take : ∀ {d : List D} {v : List V} (n : Nat), Reps T F d v → Reps T F (d.take n) (v.take n)
  | _, _, 0, _ => .nil
  | _, _, _ + 1, .nil => .nil
  | _, _, n + 1, .cons h r => .cons h (Reps.take n r)
theorem Reps.drop : ∀ {d : List D} {v : List V} (n : Nat), Reps T F d v → Reps T F (d.drop n) (v.drop n)
  | _, _, 0, r => r
  | _, _, _ + 1, .nil => .nil
  | _, _, n + 1, .cons _ r => Reps.drop n r
theorem Reps.reverseAux : ∀ {d e : List D} {v u : List V}, Reps T F d v → Reps T F e u → Reps T F (d.reverseAux e) (v.reverseAux u)
  | _, _, _, _, .nil, s => s
  | _, _, _, _, .cons h r, s => by
    have q := Reps.reverseAux r (Reps.cons h s)
    exact q
theorem Reps.reverse {d : List D} {v : List V} (h : Reps T F d v) : Reps T F d.reverse v.reverse := Reps.reverseAux h .nil
theorem Reps.one {d : D} {v : V} (h : Rep T F d v) : Reps T F [d] [v] := .cons h .nil
theorem Reps.intsOf : ∀ {d : List D} {v : List V} {ns : List Int}, Reps T F d v → intsOf d = some ns → v = ns.map V.int
  | _, _, ns, .nil, e => by
    have e : [] = ns := by simpa [FF.intsOf] using e
    subst e; rfl
  | _, _, ns, .cons (ds := ds) (d := .int i) h r, e => by
    have e' : (match FF.intsOf ds with | some l => some (i :: l) | none => none) = some ns := e
    cases q : FF.intsOf ds with
    | none => rw [q] at e'; cases e'
    | some l =>
      rw [q] at e'
      cases e'
      cases h
      rw [Reps.intsOf r q]
      rfl
  | _, _, ns, .cons (d := .non) _ _, e => by cases e
  | _, _, ns, .cons (d := .bl _) _ _, e => by cases e
  | _, _, ns, .cons (d := .str _) _ _, e => by cases e
  | _, _, ns, .cons (d := .tup _) _ _, e => by cases e
  | _, _, ns, .cons (d := .lst _) _ _, e => by cases e
  | _, _, ns, .cons (d := .obj _ _) _ _, e => by cases e
  | _, _, ns, .cons (d := .ref _) _ _, e => by cases e
  | _, _, ns, .cons (d := .fn _) _ _, e => by cases e
theorem Reps.boolsOf : ∀ {d : List D} {v : List V} {ns : List Bool}, Reps T F d v → boolsOf d = some ns → v = ns.map V.bl
  | _, _, ns, .nil, e => by
    have e : [] = ns := by simpa [FF.boolsOf] using e
    subst e; rfl
  | _, _, ns, .cons (ds := ds) (d := .bl i) h r, e => by
    have e' : (match FF.boolsOf ds with | some l => some (i :: l) | none => none) = some ns := e
    cases q : FF.boolsOf ds with
    | none => rw [q] at e'; cases e'
    | some l =>
      rw [q] at e'
      cases e'
      cases h
      rw [Reps.boolsOf r q]
      rfl
  | _, _, ns, .cons (d := .non) _ _, e => by cases e
  | _, _, ns, .cons (d := .int _) _ _, e => by cases e
  | _, _, ns, .cons (d := .str _) _ _, e => by cases e
  | _, _, ns, .cons (d := .tup _) _ _, e => by cases e
  | _, _, ns, .cons (d := .lst _) _ _, e => by cases e
  | _, _, ns, .cons (d := .obj _ _) _ _, e => by cases e
  | _, _, ns, .cons (d := .ref _) _ _, e => by cases e
  | _, _, ns, .cons (d := .fn _) _ _, e => by cases e
theorem tbl_inj {f g : Nat} {x y : Str} (hf : T.tbl[f]? = some x) (hg : T.tbl[g]? = some y) (h : f ≠ g) : x ≠ y := fun e => by
  subst e
  obtain ⟨h1, e1⟩ := List.getElem?_eq_some_iff.mp hf
  obtain ⟨h2, e2⟩ := List.getElem?_eq_some_iff.mp hg
  exact h ((List.getElem_inj T.nd).mp (e1.trans e2.symm))
theorem RepF.get {f : Nat} {x : Str} (hx : T.tbl[f]? = some x) : ∀ {c : Nat} {d : List (Nat × D)} {v : List (Str × V)} {y : D}, RepF T F c d v → getF f d = some y → ∃ u, v.lookup x = some u ∧ Rep T F y u ∧ NoAttr T.K (T.cA c) x
  | _, _, _, y, .nil, e => by cases e
  | _, _, _, y, .cons (f := g) (x := z) (d := d) (v := v) (ds := ds) (vs := vs) hz h r, e => by
    have e' : (if g = f then some d else getF f ds) = some y := e
    by_cases q : g = f
    · rw [if_pos q] at e'
      cases e'
      subst q
      have : z = x := Option.some.inj (hz.1.symm.trans hx)
      subst this
      exact ⟨v, by simp [List.lookup], h, hz.2⟩
    · rw [if_neg q] at e'
      obtain ⟨u, e1, e2, e3⟩ := RepF.get hx r e'
      have ne : x ≠ z := tbl_inj hx hz.1 (fun e => q e.symm)
      have b : (x == z) = false := by simpa using ne
      exact ⟨u, by simp [List.lookup, b, e1], e2, e3⟩
theorem RepF.put {c : Nat} {f : Nat} {x : Str} {y : D} {u : V} (hx : T.tbl[f]? = some x ∧ NoAttr T.K (T.cA c) x) (hy : Rep T F y u) : ∀ {d : List (Nat × D)} {v : List (Str × V)}, RepF T F c d v → RepF T F c (putF f y d) (L2.putF x u v)
  | _, _, .nil => .cons hx hy .nil
  | _, _, .cons (f := g) (x := z) (d := d) (v := v) (ds := ds) (vs := vs) hz h r => by
    by_cases q : g = f
    · subst q
      have : z = x := Option.some.inj (hz.1.symm.trans hx.1)
      subst this
      have e1 : FF.putF g y ((g, d) :: ds) = (g, y) :: ds := if_pos rfl
      have e2 : L2.putF z u ((z, v) :: vs) = (z, u) :: vs := by simp [L2.putF]
      rw [e1, e2]
      exact .cons hz hy r
    · have ne : z ≠ x := tbl_inj hz.1 hx.1 q
      have e1 : FF.putF f y ((g, d) :: ds) = (g, d) :: FF.putF f y ds := if_neg q
      have e2 : L2.putF x u ((z, v) :: vs) = (z, v) :: L2.putF x u vs := by simp [L2.putF, ne]
      rw [e1, e2]
      exact .cons hz h (RepF.put hx hy r)
theorem RepF.length : ∀ {c : Nat} {d : List (Nat × D)} {v : List (Str × V)}, RepF T F c d v → d.length = v.length
  | _, _, _, .nil => rfl
  | _, _, _, .cons _ _ r => congrArg (· + 1) (RepF.length r)
/-- no field bears a method's name -/
theorem RepF.none {c : Nat} {m : Str} {o : Option Value} (hm : PySem.W.findIn T.K (.ref (T.cA c)) m = some o) (ho : o ≠ Option.none) : ∀ {d : List (Nat × D)} {v : List (Str × V)}, RepF T F c d v → v.lookup m = Option.none
  | _, _, .nil => rfl
  | _, _, .cons (x := x) hz _ r => by
    have ne : m ≠ x := fun e => by
      subst e
      have := hz.2
      unfold NoAttr at this
      rw [hm] at this
      exact ho (Option.some.inj this)
    have b : (m == x) = false := by simpa using ne
    simp [List.lookup, b, RepF.none hm ho r]
end

/-! ### the state -/
def CellR (T : Tb) (F : Hp) (H : Hp) (a : Addr) : Cell → Prop
  | .lst l => ∃ vs, H a = some (.lst vs) ∧ Reps T F l vs
  | .obj c fs => ∃ dx fvs, H a = some (.ins (T.cA c) dx fvs) ∧ Cls T.K (T.cA c) ∧ RepF T F c fs fvs
def SlotR (T : Tb) (pn : List (Addr × Obj)) (F G : Hp) (h : AH) (H : Hp) (o : Option (Option V)) : Slot → Prop
  | .un => True
  | .val d => ∃ v, o = some (some v) ∧ Rep T F d v
  | .own l => ∃ a vs, o = some (some (.ref a)) ∧ H a = some (.lst vs) ∧ F a = none ∧ G a = none ∧ h a = none ∧ Reps T F l vs
  | .exc c d => ∃ a oe dd v, o = some (some (.ref a)) ∧ (a, oe) ∈ pn ∧ Zc (.ref (T.cA c)) (some dd) oe ∧ (∃ fv, oe.data = .fields fv) ∧ F dd = some (.xd [(T.xf c, v)]) ∧ Rep T F d v
/-- F: what never changes; G: the others'; h: what may be changed -/
structure SH (T : Tb) (F G : Hp) (h : AH) (H : Hp) : Prop where
  sF : Same F H
  sG : Same G H
  dis : ∀ b, F b = none ∨ G b = none
  cell : ∀ a c, h a = some c → F a = none ∧ G a = none ∧ CellR T F H a c
structure SR0 (T : Tb) (pn : List (Addr × Obj)) (F G : Hp) (σ : Env) (h : AH) (τ : L2.St) (H : Hp) : Prop where
  sh : SH T F G h H
  len : σ.length = τ.length
  slot : ∀ i, SlotR T pn F G h H τ[i]? (σ.at i)
  sep : ∀ i j l m a, i ≠ j → σ.at i = .own l → σ.at j = .own m → τ[i]? = some (some (V.ref a)) → τ[j]? ≠ some (some (V.ref a))

theorem Env.at_put_self : ∀ {σ : Env} {i : Nat} {x : Slot}, i < σ.length → (σ.put i x).at i = x
  | _ :: _, 0, _, _ => rfl
  | _ :: r, i + 1, x, h => Env.at_put_self (σ := r) (i := i) (Nat.lt_of_succ_lt_succ h)
theorem Env.at_put_ne : ∀ {σ : Env} {i j : Nat} {x : Slot}, j ≠ i → (σ.put i x).at j = σ.at j
  | [], _, _, _, _ => rfl
  | _ :: _, 0, 0, _, h => absurd rfl h
  | _ :: _, 0, j + 1, _, _ => rfl
  | _ :: _, i + 1, 0, _, _ => rfl
  | _ :: r, i + 1, j + 1, x, h => Env.at_put_ne (σ := r) (i := i) (j := j) (fun e => h (congrArg (· + 1) e))
theorem Env.length_put : ∀ {σ : Env} {i : Nat} {x : Slot}, (σ.put i x).length = σ.length
  | [], _, _ => rfl
  | _ :: _, 0, _ => rfl
  | _ :: r, i + 1, x => congrArg (· + 1) (Env.length_put (σ := r))
theorem Env.at_out : ∀ {σ : Env} {i : Nat}, σ.length ≤ i → σ.at i = .un
  | [], _, _ => rfl
  | _ :: _, 0, h => absurd h (by simp)
  | _ :: r, i + 1, h => Env.at_out (σ := r) (Nat.le_of_succ_le_succ h)
theorem Env.put_out : ∀ {σ : Env} {i : Nat} {x : Slot}, σ.length ≤ i → σ.put i x = σ
  | [], _, _, _ => rfl
  | _ :: _, 0, _, h => absurd h (by simp)
  | s :: r, i + 1, x, h => congrArg (s :: ·) (Env.put_out (σ := r) (Nat.le_of_succ_le_succ h))
theorem Env.length_wipe {σ : Env} : ∀ {vs : List Nat}, (σ.wipe vs).length = σ.length
  | [] => rfl
  | _ :: vs => Env.length_put.trans (Env.length_wipe (vs := vs))

section
variable {T : Tb} {pn : List (Addr × Obj)} {F F' G : Hp} {σ : Env} {h h' : AH} {τ : L2.St} {H H' : Hp}
theorem CellR.mono {a : Addr} {c : Cell} (x : CellR T F H a c) (e : Same F F') (k : H' a = H a) : CellR T F' H' a c := by
  cases c with
  | lst l => obtain ⟨vs, e1, r⟩ := x; exact ⟨vs, k.trans e1, r.mono e⟩
  | obj c fs => obtain ⟨dx, fvs, e1, c0, r⟩ := x; exact ⟨dx, fvs, k.trans e1, c0, r.mono e⟩
theorem CellR.there {a : Addr} {c : Cell} (x : CellR T F H a c) : ∃ o, H a = some o := by
  cases c with
  | lst l => obtain ⟨vs, e1, r⟩ := x; exact ⟨_, e1⟩
  | obj c fs => obtain ⟨dx, fvs, e1, r⟩ := x; exact ⟨_, e1⟩
theorem Same.at {H H' : Hp} (e : Same H H') {a : Addr} {o : HO} (h : H a = some o) : H' a = H a := by rw [h]; exact e _ _ h
/-- nothing is changed: objects are laid beside, some of them known from now on -/
structure Grow (F H F' H' : Hp) : Prop where
  f : Same F F'
  h : Same H H'
  s : Same F' H'
  n : ∀ b, F' b = none ∨ F b ≠ none ∨ H b = none
theorem Grow.refl (s : Same F H) : Grow F H F H := ⟨Same.refl _, Same.refl _, s, fun b => by
  cases e : F b with
  | none => exact .inl rfl
  | some o => exact .inr (.inl (by simp))⟩
theorem Grow.new {p : Addr} {o : HO} (s : Same F H) (n : H p = none) : Grow F H (upd F p o) (upd H p o) := by
  have nF : F p = none := s.free n
  refine ⟨fun b x e => ?_, fun b x e => ?_, fun b x e => ?_, fun b => ?_⟩
  · rw [upd_ne (ne_of_none e nF)]; exact e
  · rw [upd_ne (ne_of_none e n)]; exact e
  · by_cases hb : b = p
    · subst hb; rw [upd_same] at e ⊢; exact e
    · rw [upd_ne hb] at e ⊢; exact s _ _ e
  · by_cases hb : b = p
    · subst hb; exact .inr (.inr n)
    · rw [upd_ne hb]
      cases e : F b with
      | none => exact .inl rfl
      | some o => exact .inr (.inl (by simp))
/-- an object laid, known to nobody -/
theorem Grow.beside {p : Addr} {o : HO} (s : Same F H) (n : H p = none) : Grow F H F (upd H p o) := by
  have k : Same H (upd H p o) := fun b x e => by rw [upd_ne (ne_of_none e n)]; exact e
  exact ⟨Same.refl _, k, s.trans k, (Grow.refl s).n⟩
theorem SH.grow (x : SH T F G h H) (g : Grow F H F' H') : SH T F' G h H' := by
  refine ⟨g.s, x.sG.trans g.h, fun b => ?_, fun a c e => ?_⟩
  · rcases g.n b with q | q | q
    · exact .inl q
    · rcases x.dis b with z | z
      · exact absurd z q
      · exact .inr z
    · exact .inr (x.sG.free q)
  · obtain ⟨e1, e2, e3⟩ := x.cell a c e
    obtain ⟨o, ho⟩ := e3.there
    refine ⟨?_, e2, e3.mono g.f (Same.at g.h ho)⟩
    rcases g.n a with q | q | q
    · exact q
    · exact absurd e1 q
    · rw [ho] at q; cases q
theorem SR0.grow (x : SR0 T pn F G σ h τ H) (g : Grow F H F' H') : SR0 T pn F' G σ h τ H' := by
  refine ⟨x.sh.grow g, x.len, fun i => ?_, x.sep⟩
  have q := x.slot i
  cases e : σ.at i with
  | un => trivial
  | val d =>
    rw [e] at q
    obtain ⟨v, e1, r⟩ := q
    exact ⟨v, e1, r.mono g.f⟩
  | own l =>
    rw [e] at q
    obtain ⟨a, vs, e1, e2, e3, e4, e5, r⟩ := q
    refine ⟨a, vs, e1, g.h _ _ e2, ?_, e4, e5, r.mono g.f⟩
    rcases g.n a with q | q | q
    · exact q
    · exact absurd e3 q
    · rw [e2] at q; cases q
  | exc c d =>
    rw [e] at q
    obtain ⟨a, oe, dd, v, e1, e2, e3, e4, e5, r⟩ := q
    exact ⟨a, oe, dd, v, e1, e2, e3, e4, g.f _ _ e5, r.mono g.f⟩
theorem SR0.val {i : Nat} {d : D} (x : SR0 T pn F G σ h τ H) (e : σ.at i = .val d) : ∃ v, τ[i]? = some (some v) ∧ Rep T F d v := by
  have q := x.slot i
  rw [e] at q
  exact q
/-- fewer cells -/
theorem SH.less (x : SH T F G h H) (s : AH.Sub h' h) : SH T F G h' H := ⟨x.sF, x.sG, x.dis, fun a c e => x.cell a c (s a c e)⟩
theorem AH.Sub.free {h h' : AH} (s : AH.Sub h' h) {a : Nat} (e : h a = none) : h' a = none := by
  cases q : h' a with
  | none => rfl
  | some c => rw [s a c q] at e; cases e
theorem SR0.less (x : SR0 T pn F G σ h τ H) (s : AH.Sub h' h) : SR0 T pn F G σ h' τ H := by
  refine ⟨x.sh.less s, x.len, fun i => ?_, x.sep⟩
  have q := x.slot i
  cases e : σ.at i with
  | un => trivial
  | val d => rw [e] at q; exact q
  | own l =>
    rw [e] at q
    obtain ⟨a, vs, e1, e2, e3, e4, e5, r⟩ := q
    exact ⟨a, vs, e1, e2, e3, e4, s.free e5, r⟩
  | exc c d => rw [e] at q; exact q
/-- a slot is stored -/
theorem SR0.store {i : Nat} {d : D} {v : V} (x : SR0 T pn F G σ h τ H) (r : Rep T F d v) : SR0 T pn F G (σ.put i (.val d)) h (τ.set i (some v)) H := by
  refine ⟨x.sh, by rw [Env.length_put, List.length_set]; exact x.len, fun j => ?_, fun j k l m a hn e1 e2 e3 e4 => ?_⟩
  · by_cases hi : i < σ.length
    · by_cases hj : j = i
      · subst hj
        rw [Env.at_put_self hi, List.getElem?_set_self (x.len ▸ hi)]
        exact ⟨v, rfl, r⟩
      · rw [Env.at_put_ne hj, List.getElem?_set_ne (Ne.symm hj)]
        exact x.slot j
    · rw [Env.put_out (Nat.le_of_not_lt hi), List.set_eq_of_length_le (by rw [← x.len]; exact Nat.le_of_not_lt hi)]
      exact x.slot j
  · by_cases hi : i < σ.length
    · have n1 : j ≠ i := fun z => by subst z; rw [Env.at_put_self hi] at e1; cases e1
      have n2 : k ≠ i := fun z => by subst z; rw [Env.at_put_self hi] at e2; cases e2
      rw [Env.at_put_ne n1] at e1
      rw [Env.at_put_ne n2] at e2
      rw [List.getElem?_set_ne (Ne.symm n1)] at e3
      rw [List.getElem?_set_ne (Ne.symm n2)] at e4
      exact x.sep j k l m a hn e1 e2 e3 e4
    · rw [Env.put_out (Nat.le_of_not_lt hi)] at e1 e2
      rw [List.set_eq_of_length_le (by rw [← x.len]; exact Nat.le_of_not_lt hi)] at e3 e4
      exact x.sep j k l m a hn e1 e2 e3 e4
/-- a slot is forgotten on our side -/
theorem SR0.forget {i : Nat} {o : Option V} (x : SR0 T pn F G σ h τ H) : SR0 T pn F G (σ.put i .un) h (τ.set i o) H := by
  refine ⟨x.sh, by rw [Env.length_put, List.length_set]; exact x.len, fun j => ?_, fun j k l m a hn e1 e2 e3 e4 => ?_⟩
  · by_cases hi : i < σ.length
    · by_cases hj : j = i
      · subst hj
        rw [Env.at_put_self hi]
        trivial
      · rw [Env.at_put_ne hj, List.getElem?_set_ne (Ne.symm hj)]
        exact x.slot j
    · rw [Env.put_out (Nat.le_of_not_lt hi), List.set_eq_of_length_le (by rw [← x.len]; exact Nat.le_of_not_lt hi)]
      exact x.slot j
  · by_cases hi : i < σ.length
    · have n1 : j ≠ i := fun z => by subst z; rw [Env.at_put_self hi] at e1; cases e1
      have n2 : k ≠ i := fun z => by subst z; rw [Env.at_put_self hi] at e2; cases e2
      rw [Env.at_put_ne n1] at e1
      rw [Env.at_put_ne n2] at e2
      rw [List.getElem?_set_ne (Ne.symm n1)] at e3
      rw [List.getElem?_set_ne (Ne.symm n2)] at e4
      exact x.sep j k l m a hn e1 e2 e3 e4
    · rw [Env.put_out (Nat.le_of_not_lt hi)] at e1 e2
      rw [List.set_eq_of_length_le (by rw [← x.len]; exact Nat.le_of_not_lt hi)] at e3 e4
      exact x.sep j k l m a hn e1 e2 e3 e4
theorem SR0.wipe (x : SR0 T pn F G σ h τ H) : ∀ vs : List Nat, SR0 T pn F G (σ.wipe vs) h (L2.wipe τ vs) H
  | [] => x
  | v :: vs => (SR0.wipe x vs).forget
theorem Env.length_nox : ∀ {σ : Env}, σ.nox.length = σ.length
  | [] => rfl
  | _ :: r => congrArg (· + 1) (Env.length_nox (σ := r))
theorem Env.at_nox : ∀ {σ : Env} {i : Nat}, σ.nox.at i = (σ.at i).nox
  | [], _ => rfl
  | _ :: _, 0 => rfl
  | _ :: r, i + 1 => Env.at_nox (σ := r) (i := i)
/-- a frame beside: values alone are told -/
theorem SR0.nox {G2 : Hp} (x : SR0 T pn F G σ h τ H) {pn' : List (Addr × Obj)} (sF : Same F F') (sh : SH T F' G2 h' H') : SR0 T pn' F' G2 σ.nox h' τ H' := by
  refine ⟨sh, Env.length_nox.trans x.len, fun i => ?_, fun i j l m a hn e1 e2 e3 e4 => ?_⟩
  · have q := x.slot i
    rw [Env.at_nox]
    cases e : σ.at i with
    | exc c d => trivial
    | un => trivial
    | val d =>
      rw [e] at q
      obtain ⟨v, e1, r⟩ := q
      exact ⟨v, e1, r.mono sF⟩
    | own l => trivial
  · rw [Env.at_nox] at e1
    exfalso
    cases e : σ.at i with
    | own l' => rw [e] at e1; cases e1
    | un => rw [e] at e1; cases e1
    | val d => rw [e] at e1; cases e1
    | exc c d => rw [e] at e1; cases e1
/-- a list that we alone know -/
theorem SH.hide {o : HO} {p : Addr} (x : SH T F G h H) (n : H p = none) : SH T F (upd G p o) h (upd H p o) := by
  have nF : F p = none := x.sF.free n
  have nG : G p = none := x.sG.free n
  refine ⟨fun b u e => ?_, fun b u e => ?_, fun b => ?_, fun a c e => ?_⟩
  · rw [upd_ne (ne_of_none e nF)]; exact x.sF _ _ e
  · by_cases hb : b = p
    · subst hb; rw [upd_same] at e ⊢; exact e
    · rw [upd_ne hb] at e ⊢; exact x.sG _ _ e
  · by_cases hb : b = p
    · subst hb; exact .inl nF
    · rw [upd_ne hb]; exact x.dis b
  · obtain ⟨e1, e2, e3⟩ := x.cell a c e
    have ne : a ≠ p := fun z => by subst z; obtain ⟨o, ho⟩ := e3.there; rw [n] at ho; cases ho
    exact ⟨e1, by rw [upd_ne ne]; exact e2, e3.mono (Same.refl _) (upd_ne ne)⟩
theorem SH.hidw {o o' : HO} {p : Addr} (x : SH T F (upd G p o) h H) : SH T F (upd G p o') h (upd H p o') := by
  have nF : F p = none := by
    rcases x.dis p with z | z
    · exact z
    · rw [upd_same] at z; cases z
  refine ⟨fun b u e => ?_, fun b u e => ?_, fun b => ?_, fun a c e => ?_⟩
  · rw [upd_ne (ne_of_none e nF)]; exact x.sF _ _ e
  · by_cases hb : b = p
    · subst hb; rw [upd_same] at e ⊢; exact e
    · rw [upd_ne hb] at e ⊢; exact x.sG _ _ (by rw [upd_ne hb]; exact e)
  · by_cases hb : b = p
    · subst hb; exact .inl nF
    · have z := x.dis b
      rw [upd_ne hb] at z ⊢; exact z
  · obtain ⟨e1, e2, e3⟩ := x.cell a c e
    have ne : a ≠ p := fun z => by subst z; rw [upd_same] at e2; cases e2
    rw [upd_ne ne] at e2
    exact ⟨e1, by rw [upd_ne ne]; exact e2, e3.mono (Same.refl _) (upd_ne ne)⟩
theorem SH.unhide {o : HO} {p : Addr} (x : SH T F (upd G p o) h H) (n : G p = none) : SH T (upd F p o) G h H ∧ Same F (upd F p o) := by
  have nF : F p = none := by
    rcases x.dis p with z | z
    · exact z
    · rw [upd_same] at z; cases z
  have fk : Same F (upd F p o) := fun b u e => by rw [upd_ne (ne_of_none e nF)]; exact e
  refine ⟨⟨fun b u e => ?_, fun b u e => ?_, fun b => ?_, fun a c e => ?_⟩, fk⟩
  · by_cases hb : b = p
    · subst hb; rw [upd_same] at e; exact x.sG _ _ (by rw [upd_same]; exact e)
    · rw [upd_ne hb] at e; exact x.sF _ _ e
  · exact x.sG _ _ (by rw [upd_ne (ne_of_none e n)]; exact e)
  · by_cases hb : b = p
    · subst hb; exact .inr n
    · have z := x.dis b
      rw [upd_ne hb] at z ⊢; exact z
  · obtain ⟨e1, e2, e3⟩ := x.cell a c e
    have ne : a ≠ p := fun z => by subst z; rw [upd_same] at e2; cases e2
    rw [upd_ne ne] at e2
    exact ⟨by rw [upd_ne ne]; exact e1, e2, e3.mono fk rfl⟩
/-- more pins -/
theorem SR0.pins (x : SR0 T pn F G σ h τ H) {pn' : List (Addr × Obj)} (k : ∀ p ∈ pn, p ∈ pn') : SR0 T pn' F G σ h τ H := by
  refine ⟨x.sh, x.len, fun i => ?_, x.sep⟩
  have q := x.slot i
  cases e : σ.at i with
  | exc c d =>
    rw [e] at q
    obtain ⟨a, oe, dd, v, e1, e2, e3⟩ := q
    exact ⟨a, oe, dd, v, e1, k _ e2, e3⟩
  | un => trivial
  | val d => rw [e] at q; exact q
  | own l => rw [e] at q; exact q
/-- a new cell -/
theorem SR0.newcell {p : Addr} {o : HO} {c : Cell} (x : SR0 T pn F G σ h τ H) (n : H p = none) (hc : CellR T F (upd H p o) p c) : SR0 T pn F G σ (h.put p c) τ (upd H p o) := by
  have g := Grow.beside (o := o) x.sh.sF n
  have y := x.grow g
  have nF : F p = none := x.sh.sF.free n
  have nG : G p = none := x.sh.sG.free n
  refine ⟨⟨y.sh.sF, y.sh.sG, y.sh.dis, fun a d e => ?_⟩, y.len, fun i => ?_, y.sep⟩
  · by_cases ha : a = p
    · subst ha
      rw [AH.put_same] at e
      cases e
      exact ⟨nF, nG, hc⟩
    · rw [AH.put_ne ha] at e
      exact y.sh.cell a d e
  · have q := y.slot i
    have qx := x.slot i
    cases e : σ.at i with
    | own l =>
      rw [e] at q qx
      obtain ⟨a, vs, e1, e2, e3, e4, e5, r⟩ := q
      obtain ⟨a', vs', e1', e2', _⟩ := qx
      have : a = a' := by
        rw [e1] at e1'
        exact V.ref.inj (Option.some.inj (Option.some.inj e1'))
      subst this
      have ne : a ≠ p := ne_of_none e2' n
      exact ⟨a, vs, e1, e2, e3, e4, by rw [AH.put_ne ne]; exact e5, r⟩
    | exc c d => rw [e] at q; exact q
    | un => trivial
    | val d => rw [e] at q; exact q
/-- a cell is written -/
theorem SR0.write {p : Addr} {o : HO} {c c' : Cell} (x : SR0 T pn F G σ h τ H) (e0 : h p = some c') (hc : CellR T F (upd H p o) p c) : SR0 T pn F G σ (h.put p c) τ (upd H p o) := by
  obtain ⟨nF, nG, c0⟩ := x.sh.cell p c' e0
  have at_ : ∀ b, b ≠ p → upd H p o b = H b := fun b hb => upd_ne hb
  have fk : Same F (upd H p o) := fun b u e => by rw [at_ b (ne_of_none e nF)]; exact x.sh.sF _ _ e
  have gk : Same G (upd H p o) := fun b u e => by rw [at_ b (ne_of_none e nG)]; exact x.sh.sG _ _ e
  refine ⟨⟨fk, gk, x.sh.dis, fun a d e => ?_⟩, x.len, fun i => ?_, x.sep⟩
  · by_cases ha : a = p
    · subst ha
      rw [AH.put_same] at e
      cases e
      exact ⟨nF, nG, hc⟩
    · rw [AH.put_ne ha] at e
      obtain ⟨e1, e2, e3⟩ := x.sh.cell a d e
      exact ⟨e1, e2, e3.mono (Same.refl _) (at_ a ha)⟩
  · have q := x.slot i
    cases e : σ.at i with
    | own l =>
      rw [e] at q
      obtain ⟨a, vs, e1, e2, e3, e4, e5, r⟩ := q
      have ne : a ≠ p := fun z => by subst z; rw [e0] at e5; cases e5
      exact ⟨a, vs, e1, by rw [at_ a ne]; exact e2, e3, e4, by rw [AH.put_ne ne]; exact e5, r⟩
    | exc c d => rw [e] at q; exact q
    | un => trivial
    | val d => rw [e] at q; exact q
/-- what is told of a cell is told for good; the cell itself is given up -/
theorem SR0.freeze {p : Addr} {o : HO} {c : Cell} (x : SR0 T pn F G σ h τ H) (e0 : h p = some c) (ho : H p = some o) : SR0 T pn (upd F p o) G σ (fun b => if b = p then none else h b) τ H := by
  obtain ⟨nF, nG, c0⟩ := x.sh.cell p c e0
  have fk : Same F (upd F p o) := fun b u e => by rw [upd_ne (ne_of_none e nF)]; exact e
  refine ⟨⟨fun b u e => ?_, x.sh.sG, fun b => ?_, fun a d e => ?_⟩, x.len, fun i => ?_, x.sep⟩
  · by_cases hb : b = p
    · subst hb; rw [upd_same] at e; rw [← e]; exact ho
    · rw [upd_ne hb] at e; exact x.sh.sF _ _ e
  · by_cases hb : b = p
    · subst hb; exact .inr nG
    · rw [upd_ne hb]; exact x.sh.dis b
  · by_cases ha : a = p
    · subst ha; simp at e
    · simp only [if_neg ha] at e
      obtain ⟨e1, e2, e3⟩ := x.sh.cell a d e
      exact ⟨by rw [upd_ne ha]; exact e1, e2, e3.mono fk rfl⟩
  · have q := x.slot i
    cases e : σ.at i with
    | own l =>
      rw [e] at q
      obtain ⟨a, vs, e1, e2, e3, e4, e5, r⟩ := q
      have ne : a ≠ p := fun z => by subst z; rw [e0] at e5; cases e5
      exact ⟨a, vs, e1, e2, by rw [upd_ne ne]; exact e3, e4, by simp only [if_neg ne]; exact e5, r.mono fk⟩
    | exc c d =>
      rw [e] at q
      obtain ⟨a, oe, dd, v, e1, e2, e3, e4, e5, r⟩ := q
      exact ⟨a, oe, dd, v, e1, e2, e3, e4, fk _ _ e5, r.mono fk⟩
    | un => trivial
    | val d =>
      rw [e] at q
      obtain ⟨v, e1, r⟩ := q
      exact ⟨v, e1, r.mono fk⟩
/-- an own list is frozen -/
theorem SR0.frz {i : Nat} {l : List D} (x : SR0 T pn F G σ h τ H) (e0 : σ.at i = .own l) : ∃ F', Same F F' ∧ SR0 T pn F' G (σ.put i (.val (.lst l))) h τ H := by
  have q0 := x.slot i
  rw [e0] at q0
  obtain ⟨p, vs, p1, p2, p3, p4, p5, rl⟩ := q0
  have fk : Same F (upd F p (.lst vs)) := fun b u e => by rw [upd_ne (ne_of_none e p3)]; exact e
  have hi : i < σ.length := by
    rcases Nat.lt_or_ge i σ.length with z | z
    · exact z
    · rw [Env.at_out z] at e0; cases e0
  refine ⟨upd F p (.lst vs), fk, ⟨fun b u e => ?_, x.sh.sG, fun b => ?_, fun a d e => ?_⟩, Env.length_put.trans x.len, fun j => ?_, fun j k l m a hn e1 e2 e3 e4 => ?_⟩
  · by_cases hb : b = p
    · subst hb; rw [upd_same] at e; rw [← e]; exact p2
    · rw [upd_ne hb] at e; exact x.sh.sF _ _ e
  · by_cases hb : b = p
    · subst hb; exact .inr p4
    · rw [upd_ne hb]; exact x.sh.dis b
  · have ne : a ≠ p := fun z => by subst z; rw [p5] at e; cases e
    obtain ⟨e1, e2, e3⟩ := x.sh.cell a d e
    exact ⟨by rw [upd_ne ne]; exact e1, e2, e3.mono fk rfl⟩
  · by_cases hj : j = i
    · subst hj
      rw [Env.at_put_self hi]
      exact ⟨_, p1, .lst (SqL.of upd_same) (rl.mono fk)⟩
    · rw [Env.at_put_ne hj]
      have q := x.slot j
      cases e : σ.at j with
      | own l' =>
        rw [e] at q
        obtain ⟨a, vs', e1, e2, e3, e4, e5, r⟩ := q
        have ne : a ≠ p := fun z => by subst z; exact x.sep j i l' l _ hj e e0 e1 p1
        exact ⟨a, vs', e1, e2, by rw [upd_ne ne]; exact e3, e4, e5, r.mono fk⟩
      | exc c d =>
        rw [e] at q
        obtain ⟨a, oe, dd, v, e1, e2, e3, e4, e5, r⟩ := q
        exact ⟨a, oe, dd, v, e1, e2, e3, e4, fk _ _ e5, r.mono fk⟩
      | un => trivial
      | val d =>
        rw [e] at q
        obtain ⟨v, e1, r⟩ := q
        exact ⟨v, e1, r.mono fk⟩
  · have n1 : j ≠ i := fun z => by subst z; rw [Env.at_put_self hi] at e1; cases e1
    have n2 : k ≠ i := fun z => by subst z; rw [Env.at_put_self hi] at e2; cases e2
    rw [Env.at_put_ne n1] at e1
    rw [Env.at_put_ne n2] at e2
    exact x.sep j k l m a hn e1 e2 e3 e4
/-- a new own list -/
theorem SR0.newown {i : Nat} {l : List D} {p : Addr} {vs : List V} (x : SR0 T pn F G σ h τ H) (n : H p = none) (r : Reps T F l vs) : SR0 T pn F G (σ.put i (.own l)) h (τ.set i (some (.ref p))) (upd H p (.lst vs)) := by
  have g := Grow.beside (o := .lst vs) x.sh.sF n
  have y := x.grow g
  have nF : F p = none := x.sh.sF.free n
  have nG : G p = none := x.sh.sG.free n
  have nh : h p = none := by
    cases e : h p with
    | none => rfl
    | some c => obtain ⟨o, ho⟩ := (x.sh.cell p c e).2.2.there; rw [n] at ho; cases ho
  have old : ∀ j m a, σ.at j = .own m → τ[j]? = some (some (V.ref a)) → a ≠ p := fun j m a e1 e2 => by
    have q := x.slot j
    rw [e1] at q
    obtain ⟨a', vs', e1', e2', _⟩ := q
    rw [e2] at e1'
    cases e1'
    exact ne_of_none e2' n
  refine ⟨y.sh, by rw [Env.length_put, List.length_set]; exact x.len, fun j => ?_, fun j k l' m a hn e1 e2 e3 e4 => ?_⟩
  · by_cases hi : i < σ.length
    · by_cases hj : j = i
      · subst hj
        rw [Env.at_put_self hi, List.getElem?_set_self (x.len ▸ hi)]
        exact ⟨p, vs, rfl, upd_same, nF, nG, nh, r⟩
      · rw [Env.at_put_ne hj, List.getElem?_set_ne (Ne.symm hj)]
        exact y.slot j
    · rw [Env.put_out (Nat.le_of_not_lt hi), List.set_eq_of_length_le (by rw [← x.len]; exact Nat.le_of_not_lt hi)]
      exact y.slot j
  · by_cases hi : i < σ.length
    · by_cases h1 : j = i
      · subst h1
        have n2 : k ≠ j := fun z => hn z.symm
        rw [List.getElem?_set_self (x.len ▸ hi)] at e3
        rw [Env.at_put_ne n2] at e2
        rw [List.getElem?_set_ne (Ne.symm n2)] at e4
        have : p = a := V.ref.inj (Option.some.inj (Option.some.inj e3))
        exact old k m a e2 e4 this.symm
      · by_cases h2 : k = i
        · subst h2
          rw [List.getElem?_set_self (x.len ▸ hi)] at e4
          rw [Env.at_put_ne h1] at e1
          rw [List.getElem?_set_ne (Ne.symm h1)] at e3
          have : p = a := V.ref.inj (Option.some.inj (Option.some.inj e4))
          exact old j l' a e1 e3 this.symm
        · rw [Env.at_put_ne h1] at e1
          rw [Env.at_put_ne h2] at e2
          rw [List.getElem?_set_ne (Ne.symm h1)] at e3
          rw [List.getElem?_set_ne (Ne.symm h2)] at e4
          exact x.sep j k l' m a hn e1 e2 e3 e4
    · rw [Env.put_out (Nat.le_of_not_lt hi)] at e1 e2
      rw [List.set_eq_of_length_le (by rw [← x.len]; exact Nat.le_of_not_lt hi)] at e3 e4
      exact x.sep j k l' m a hn e1 e2 e3 e4
/-- an own list is written -/
theorem SR0.setown {i : Nat} {l m : List D} {p : Addr} {vs us : List V} (x : SR0 T pn F G σ h τ H) (e0 : σ.at i = .own l) (hp : τ[i]? = some (some (V.ref p))) (r : Reps T F m us) : SR0 T pn F G (σ.put i (.own m)) h τ (upd H p (.lst us)) := by
  have q0 := x.slot i
  rw [e0] at q0
  obtain ⟨p', vs', p1, p2, p3, p4, p5, rl⟩ := q0
  have : p = p' := by rw [hp] at p1; exact V.ref.inj (Option.some.inj (Option.some.inj p1))
  subst this
  have hi : i < σ.length := by
    rcases Nat.lt_or_ge i σ.length with z | z
    · exact z
    · rw [Env.at_out z] at e0; cases e0
  have at_ : ∀ b, b ≠ p → upd H p (.lst us) b = H b := fun b hb => upd_ne hb
  refine ⟨⟨fun b u e => by rw [at_ b (ne_of_none e p3)]; exact x.sh.sF _ _ e, fun b u e => by rw [at_ b (ne_of_none e p4)]; exact x.sh.sG _ _ e, x.sh.dis, fun a d e => ?_⟩, Env.length_put.trans x.len, fun j => ?_, fun j k l' m' a hn e1 e2 e3 e4 => ?_⟩
  · have ne : a ≠ p := fun z => by subst z; rw [p5] at e; cases e
    obtain ⟨e1, e2, e3⟩ := x.sh.cell a d e
    exact ⟨e1, e2, e3.mono (Same.refl _) (at_ a ne)⟩
  · by_cases hj : j = i
    · subst hj
      rw [Env.at_put_self hi]
      exact ⟨p, us, hp, upd_same, p3, p4, p5, r⟩
    · rw [Env.at_put_ne hj]
      have q := x.slot j
      cases e : σ.at j with
      | own l' =>
        rw [e] at q
        obtain ⟨a, vs', e1, e2, e3, e4, e5, r⟩ := q
        have ne : a ≠ p := fun z => by subst z; exact x.sep j i l' l _ hj e e0 e1 hp
        exact ⟨a, vs', e1, by rw [at_ a ne]; exact e2, e3, e4, e5, r⟩
      | exc c d => rw [e] at q; exact q
      | un => trivial
      | val d => rw [e] at q; exact q
  · have own : ∀ {j m}, (σ.put i (.own m)).at j = .own l' → True := fun _ => trivial
    have get : ∀ j m', (σ.put i (.own m)).at j = .own m' → ∃ m'', σ.at j = .own m'' := fun j m' e => by
      by_cases hj : j = i
      · subst hj; exact ⟨l, e0⟩
      · rw [Env.at_put_ne hj] at e; exact ⟨_, e⟩
    obtain ⟨m1, e1⟩ := get j l' e1
    obtain ⟨m2, e2⟩ := get k m' e2
    exact x.sep j k m1 m2 a hn e1 e2 e3 e4
/-- what a callee may change, and what comes back -/
theorem SR0.call (x : SR0 T pn F G σ h τ H) : ∃ G', SH T F G' h H ∧ ∀ F' h' H', Same F F' → SH T F' G' h' H' → SR0 T pn F' G σ h' τ H' := by
  classical
  let own : Addr → Prop := fun b => ∃ i l, σ.at i = .own l ∧ τ[i]? = some (some (V.ref b))
  have oat : ∀ b, own b → ∃ vs, H b = some (.lst vs) ∧ F b = none ∧ G b = none ∧ h b = none := fun b ⟨i, l, e1, e2⟩ => by
    have q := x.slot i
    rw [e1] at q
    obtain ⟨a, vs, q1, q2, q3, q4, q5, _⟩ := q
    rw [e2] at q1
    cases q1
    exact ⟨vs, q2, q3, q4, q5⟩
  refine ⟨fun b => if own b then H b else G b, ⟨x.sh.sF, fun b o e => ?_, fun b => ?_, fun a c e => ?_⟩, fun F' h' H' sF sh => ⟨⟨sh.sF, fun b o e => ?_, fun b => ?_, fun a c e => ?_⟩, x.len, fun i => ?_, x.sep⟩⟩
  · by_cases ob : own b
    · simp only [if_pos ob] at e; exact e
    · simp only [if_neg ob] at e; exact x.sh.sG _ _ e
  · by_cases ob : own b
    · obtain ⟨_, _, q, _⟩ := oat b ob; exact .inl q
    · simp only [if_neg ob]; exact x.sh.dis b
  · obtain ⟨e1, e2, e3⟩ := x.sh.cell a c e
    have ob : ¬ own a := fun ob => by obtain ⟨_, _, _, _, q⟩ := oat a ob; rw [e] at q; cases q
    refine ⟨e1, ?_, e3⟩
    simp only [if_neg ob]; exact e2
  · have ob : ¬ own b := fun ob => by obtain ⟨_, _, _, q, _⟩ := oat b ob; rw [q] at e; cases e
    exact sh.sG b o (by simp only [if_neg ob]; exact e)
  · rcases sh.dis b with z | z
    · exact .inl z
    · by_cases ob : own b
      · obtain ⟨_, _, _, q, _⟩ := oat b ob; exact .inr q
      · simp only [if_neg ob] at z; exact .inr z
  · obtain ⟨e1, e2, e3⟩ := sh.cell a c e
    refine ⟨e1, ?_, e3⟩
    by_cases ob : own a
    · obtain ⟨_, _, _, q, _⟩ := oat a ob; exact q
    · simp only [if_neg ob] at e2; exact e2
  · have q := x.slot i
    cases e : σ.at i with
    | own l =>
      rw [e] at q
      obtain ⟨a, vs, e1, e2, e3, e4, e5, r⟩ := q
      have ob : own a := ⟨i, l, e, e1⟩
      have hG : (fun b => if own b then H b else G b) a = some (.lst vs) := by simp only [if_pos ob]; exact e2
      refine ⟨a, vs, e1, sh.sG _ _ hG, ?_, e4, ?_, r.mono sF⟩
      · rcases sh.dis a with z | z
        · exact z
        · cases hG.symm.trans z
      · cases eh : h' a with
        | none => rfl
        | some c =>
          have z := (sh.cell a c eh).2.1
          cases hG.symm.trans z
    | exc c d =>
      rw [e] at q
      obtain ⟨a, oe, dd, v, e1, e2, e3, e4, e5, r⟩ := q
      exact ⟨a, oe, dd, v, e1, e2, e3, e4, sF _ _ e5, r.mono sF⟩
    | un => trivial
    | val d =>
      rw [e] at q
      obtain ⟨v, e1, r⟩ := q
      exact ⟨v, e1, r.mono sF⟩
end
/-! ### with what was there at the entry -/
structure Lk where
  pn : List (Addr × Obj)
  F0 : Hp
  G0 : Hp
structure SR (T : Tb) (lk : Lk) (F G : Hp) (σ : Env) (h : AH) (τ : L2.St) (H : Hp) : Prop where
  s : SR0 T lk.pn F G σ h τ H
  lF : Same lk.F0 F
  lG : G = lk.G0
section
variable {T : Tb} {lk : Lk} {F F' G : Hp} {σ : Env} {h h' : AH} {τ : L2.St} {H H' : Hp}
theorem SR.sh (x : SR T lk F G σ h τ H) : SH T F G h H := x.s.sh
theorem SR.slot (x : SR T lk F G σ h τ H) : ∀ i, SlotR T lk.pn F G h H τ[i]? (σ.at i) := x.s.slot
theorem SR.len (x : SR T lk F G σ h τ H) : σ.length = τ.length := x.s.len
theorem SR.grow (x : SR T lk F G σ h τ H) (g : Grow F H F' H') : SR T lk F' G σ h τ H' := ⟨x.s.grow g, x.lF.trans g.f, x.lG⟩
theorem SR.val {i : Nat} {d : D} (x : SR T lk F G σ h τ H) (e : σ.at i = .val d) : ∃ v, τ[i]? = some (some v) ∧ Rep T F d v := x.s.val e
theorem SR.store {i : Nat} {d : D} {v : V} (x : SR T lk F G σ h τ H) (r : Rep T F d v) : SR T lk F G (σ.put i (.val d)) h (τ.set i (some v)) H := ⟨x.s.store r, x.lF, x.lG⟩
theorem SR.forget {i : Nat} {o : Option V} (x : SR T lk F G σ h τ H) : SR T lk F G (σ.put i .un) h (τ.set i o) H := ⟨x.s.forget, x.lF, x.lG⟩
theorem SR.wipe (x : SR T lk F G σ h τ H) (vs : List Nat) : SR T lk F G (σ.wipe vs) h (L2.wipe τ vs) H := ⟨x.s.wipe vs, x.lF, x.lG⟩
theorem SR.nox {G2 : Hp} (x : SR T lk F G σ h τ H) {pn' : List (Addr × Obj)} (sF : Same F F') (sh : SH T F' G2 h' H') : SR T ⟨pn', F', G2⟩ F' G2 σ.nox h' τ H' := ⟨x.s.nox sF sh, Same.refl _, rfl⟩
theorem SR.newcell {p : Addr} {o : HO} {c : Cell} (x : SR T lk F G σ h τ H) (n : H p = none) (hc : CellR T F (upd H p o) p c) : SR T lk F G σ (h.put p c) τ (upd H p o) := ⟨x.s.newcell n hc, x.lF, x.lG⟩
theorem SR.write {p : Addr} {o : HO} {c c' : Cell} (x : SR T lk F G σ h τ H) (e0 : h p = some c') (hc : CellR T F (upd H p o) p c) : SR T lk F G σ (h.put p c) τ (upd H p o) := ⟨x.s.write e0 hc, x.lF, x.lG⟩
theorem SR.freeze {p : Addr} {o : HO} {c : Cell} (x : SR T lk F G σ h τ H) (e0 : h p = some c) (ho : H p = some o) : SR T lk (upd F p o) G σ (fun b => if b = p then none else h b) τ H :=
  ⟨x.s.freeze e0 ho, x.lF.trans fun b u e => by rw [upd_ne (ne_of_none e (x.s.sh.cell p c e0).1)]; exact e, x.lG⟩
theorem SR.frz {i : Nat} {l : List D} (x : SR T lk F G σ h τ H) (e0 : σ.at i = .own l) : ∃ F', Same F F' ∧ SR T lk F' G (σ.put i (.val (.lst l))) h τ H := by
  obtain ⟨F', s, y⟩ := x.s.frz e0
  exact ⟨F', s, y, x.lF.trans s, x.lG⟩
theorem SR.newown {i : Nat} {l : List D} {p : Addr} {vs : List V} (x : SR T lk F G σ h τ H) (n : H p = none) (r : Reps T F l vs) : SR T lk F G (σ.put i (.own l)) h (τ.set i (some (.ref p))) (upd H p (.lst vs)) := ⟨x.s.newown n r, x.lF, x.lG⟩
theorem SR.setown {i : Nat} {l m : List D} {p : Addr} {us : List V} (x : SR T lk F G σ h τ H) (e0 : σ.at i = .own l) (hp : τ[i]? = some (some (V.ref p))) (r : Reps T F m us) : SR T lk F G (σ.put i (.own m)) h τ (upd H p (.lst us)) := ⟨x.s.setown (vs := us) e0 hp r, x.lF, x.lG⟩
theorem SR.call (x : SR T lk F G σ h τ H) : ∃ G', SH T F G' h H ∧ ∀ F' h' H', Same F F' → SH T F' G' h' H' → SR T lk F' G σ h' τ H' := by
  obtain ⟨G', sh, b⟩ := x.s.call
  exact ⟨G', sh, fun F' h' H' s sh' => ⟨b F' h' H' s sh', x.lF.trans s, x.lG⟩⟩
end
end FF

namespace FF
open PySem PySem.Spec PyProof.Rows L2

structure RRt where
  F0 : Hp
  G0 : Hp
  R : Exc → Env → AH → Prop
abbrev RRt.lk (RR : RRt) (X : Cx) : Lk := ⟨X.pn, RR.F0, RR.G0⟩
section
variable {X : Cx} {T : Tb}
theorem PE.imp {e : Expr} {t t' : TE} (p : PE X e t) (h : ∀ τ H Q, t' τ H Q → t τ H Q) : PE X e t' := ⟨fun pins s τ H Q I q => p.run pins s τ H Q I (h τ H Q q)⟩
theorem PT.imp {e : Expr} {t t' : TT} (p : PT X e t) (h : ∀ τ H Q, t' τ H Q → t τ H Q) : PT X e t' := ⟨fun pins s τ H Q I q => p.run pins s τ H Q I (h τ H Q q)⟩
theorem PW.imp {e : Expr} {t t' : TT} (p : PW X e t) (h : ∀ τ H Q, t' τ H Q → t τ H Q) : PW X e t' := ⟨fun wh pins s τ H Q I q => p.run wh pins s τ H Q I (h τ H Q q)⟩
theorem PA.imp {e : List Expr} {t t' : TA} (p : PA X e t) (h : ∀ τ H Q, t' τ H Q → t τ H Q) : PA X e t' := ⟨fun pos pins s τ H Q I q => p.run pos pins s τ H Q I (h τ H Q q)⟩
theorem PS.imp {e : Stmt} {t t' : TS} (p : PS X e t) (h : ∀ D τ H, t' D τ H → t D τ H) : PS X e t' := ⟨fun pins s τ H D I q => p.run pins s τ H D I (h D τ H q)⟩
theorem PSs.imp {e : List Stmt} {t t' : TS} (p : PSs X e t) (h : ∀ D τ H, t' D τ H → t D τ H) : PSs X e t' := ⟨fun pins s τ H D I q => p.run pins s τ H D I (h D τ H q)⟩

/-- our reading of an expression, in the layer's words -/
def LE (T : Tb) (X : Cx) (RR : RRt) (w : Env → AH → QE → RE → Prop) : TE := fun τ H Q =>
  ∃ F G σ h Qd, SR T (RR.lk X) F G σ h τ H ∧ w σ h Qd (fun x h' => RR.R x σ h') ∧ ∀ d h' v F' H', Same F F' → SR T (RR.lk X) F' G σ h' τ H' → Rep T F' d v → Qd d h' → Q v H'
def LT (T : Tb) (X : Cx) (RR : RRt) (w : Env → AH → QE → RE → Prop) : TT := fun τ H Q =>
  ∃ F G σ h, ∃ Qd : Bool → AH → Prop, SR T (RR.lk X) F G σ h τ H ∧ w σ h (fun x h' => match x with | .bl k => Qd k h' | _ => False) (fun x h' => RR.R x σ h') ∧ ∀ k h' F' H', Same F F' → SR T (RR.lk X) F' G σ h' τ H' → Qd k h' → Q k H'
def LA (T : Tb) (X : Cx) (RR : RRt) (n : Nat) (w : Env → AH → (List D → AH → Prop) → RE → Prop) : TA := fun τ H Q =>
  ∃ F G σ h Qd, SR T (RR.lk X) F G σ h τ H ∧ w σ h Qd (fun x h' => RR.R x σ h') ∧ ∀ d h' v F' H', d.length = n → Same F F' → SR T (RR.lk X) F' G σ h' τ H' → Reps T F' d v → Qd d h' → Q v H'
variable {RR : RRt}
theorem LT.imp {w w' : Env → AH → QE → RE → Prop} {τ : L2.St} {H : Hp} {Q : Bool → Hp → Prop} (h : LT T X RR w τ H Q) (i : ∀ σ h Qd R, w σ h Qd R → w' σ h Qd R) : LT T X RR w' τ H Q := by
  obtain ⟨F, G, σ, h0, Qd, sr, q, k⟩ := h
  exact ⟨F, G, σ, h0, Qd, sr, i _ _ _ _ q, k⟩

/-! ### operators by their values -/
/-- what a data operation is, in the layer's words -/
def L2op (T : Tb) (X : Cx) (f : D → D → AH → QE → Prop) : R2 := fun x y H Q =>
  ∃ F G σ h τ dx dy Qd, SR0 T X.pn F G σ h τ H ∧ Rep T F dx x ∧ Rep T F dy y ∧ f dx dy h Qd ∧ ∀ z h' v F' H', Same F F' → SR0 T X.pn F' G σ h' τ H' → Rep T F' z v → Qd z h' → Q v H'
def L1op (T : Tb) (X : Cx) (f : D → AH → QE → Prop) : V → Hp → VK → Prop := fun x H Q =>
  ∃ F G σ h τ dx Qd, SR0 T X.pn F G σ h τ H ∧ Rep T F dx x ∧ f dx h Qd ∧ ∀ z h' v F' H', Same F F' → SR0 T X.pn F' G σ h' τ H' → Rep T F' z v → Qd z h' → Q v H'
def LNop (T : Tb) (X : Cx) (f : List D → AH → QE → Prop) : List V → Hp → VK → Prop := fun x H Q =>
  ∃ F G σ h τ dx Qd, SR0 T X.pn F G σ h τ H ∧ Reps T F dx x ∧ f dx h Qd ∧ ∀ z h' v F' H', Same F F' → SR0 T X.pn F' G σ h' τ H' → Rep T F' z v → Qd z h' → Q v H'
theorem le_op {wa wb : Env → AH → QE → RE → Prop} {f : D → D → AH → QE → Prop} {τ : L2.St} {H : Hp} {Q : VK}
    (h : LE T X RR (fun σ h Q R => wa σ h (fun x h => wb σ h (fun y h => f x y h Q) R) R) τ H Q) : tOp (L2op T X f) (LE T X RR wa) (LE T X RR wb) τ H Q := by
  obtain ⟨F, G, σ, h, Qd, sr, w, k⟩ := h
  exact ⟨F, G, σ, h, _, sr, w, fun dx h1 vx F1 H1 s1 sr1 r1 w1 => ⟨F1, G, σ, h1, _, sr1, w1, fun dy h2 vy F2 H2 s2 sr2 r2 w2 =>
    ⟨F2, G, σ, h2, τ, dx, dy, Qd, sr2.s, r1.mono s2, r2, w2, fun z h' v F' H' s3 sr3 r3 q => k z h' v F' H' (s1.trans (s2.trans s3)) ⟨sr3, sr2.lF.trans s3, sr2.lG⟩ r3 q⟩⟩⟩
theorem le_un {wa : Env → AH → QE → RE → Prop} {f : D → AH → QE → Prop} {τ : L2.St} {H : Hp} {Q : VK}
    (h : LE T X RR (fun σ h Q R => wa σ h (fun x h => f x h Q) R) τ H Q) : tUn (L1op T X f) (LE T X RR wa) τ H Q := by
  obtain ⟨F, G, σ, h, Qd, sr, w, k⟩ := h
  exact ⟨F, G, σ, h, _, sr, w, fun dx h1 vx F1 H1 s1 sr1 r1 w1 => ⟨F1, G, σ, h1, τ, dx, Qd, sr1.s, r1, w1, fun z h' v F' H' s3 sr3 r3 q => k z h' v F' H' (s1.trans s3) ⟨sr3, sr1.lF.trans s3, sr1.lG⟩ r3 q⟩⟩

/-! ### ints -/
theorem mulOk_ok {i j : Int} (h : mulOk i j) : IntMulOk i j := by
  have b : ∀ x : Int, Builtin.Int.intBits x = bitsI x := fun x => by
    unfold Builtin.Int.intBits bitsI
    by_cases e : x = 0
    · subst e; rfl
    · rw [if_neg (by simpa using e), if_neg e]
  have e : bitsLine = 134217728 := by decide
  unfold IntMulOk
  intro z
  simp only [Bool.and_eq_true, decide_eq_true_eq, b, shortFactorBits_eq, Builtin.Int.intTooBig, e] at z
  unfold mulOk at h
  omega
theorem bits_eq (x : Int) : Builtin.Int.intBits x = bitsI x := by
  unfold Builtin.Int.intBits bitsI
  by_cases e : x = 0
  · subst e; rfl
  · rw [if_neg (by simpa using e), if_neg e]
theorem noPy {i j : Int} (h : bitsI j ≤ 9000) : Builtin.divisionGoesByPylong i j = false := PyProof.noPylong_of_log2 (by
  unfold bitsI at h
  by_cases e : j = 0
  · subst e; decide
  · rw [if_neg e] at h; omega)

def opM : BOp → Operator
  | .add => .Add | .sub => .Sub | .mul => .Mult | .fdiv => .FloorDiv | .mod => .Mod | .pow => .Pow | .shl => .LShift | .shr => .RShift
def copM : COp → CmpOp
  | .eq => .Eq | .ne => .NotEq | .lt => .Lt | .le => .LtE | .gt => .Gt | .ge => .GtE | .is_ => .Is | .isn => .IsNot | .in_ => .In | .nin => .NotIn

theorem op_mulG : OpR X (binaryOp .Mult) (rI mulOk fun i j => .int (i * j)) := opI fun _ _ _ _ _ _ _ hc q => mul_int q (mulOk_ok hc)
theorem op_fdivG : OpR X (binaryOp .FloorDiv) (rI (fun _ j => j ≠ 0 ∧ bitsI j ≤ 9000) fun i j => .int (i.fdiv j)) := opI fun _ _ _ _ _ _ _ hc q => floordiv_int hc.1 q (.inl (noPy hc.2))
theorem op_shlG : OpR X (binaryOp .LShift) (rI (fun i j => 0 ≤ j ∧ (bitsI i : Int) + j ≤ 134217728) fun i j => .int (i * 2 ^ j.toNat)) := opI fun i j _ _ _ _ _ hc q => by
  have e : (2 : Int) ^ 27 = 134217728 := by decide
  refine lshift_int hc.1 ?_ q
  rw [bits_eq, e]
  exact hc.2
theorem SL_eq : SL = sizeLine := sizeLine_eq.symm

/-- a list + a list, of any standing -/
theorem op_catS : OpR X (binaryOp .Add) (fun x y H Q => ∃ l b xs zs, x = .ref l ∧ y = .ref b ∧ SqL X.K H l xs ∧ SqL X.K H b zs ∧ xs.length + zs.length ≤ sizeLine ∧ ∀ p, H p = none → Q (.ref p) (upd H p (.lst (xs ++ zs)))) := by
  intro pins s σ H x y v u Q I rx ry h
  obtain ⟨l, b, xs, zs, rfl, rfl, hH, hB, hz, q⟩ := h
  cases rx
  cases ry
  obtain ⟨its, r, p1, hl⟩ := I.list hH
  obtain ⟨its2, r2, p2, hl2⟩ := I.list hB
  obtain ⟨⟨cls, dd, data, sl⟩, n, ho, hc, hdd, hd⟩ := p1
  obtain ⟨⟨cls2, dd2, data2, sl2⟩, n2, ho2, hc2, hdd2, hd2⟩ := p2
  simp only at hc hd hc2 hd2
  subst hc hd hc2 hd2
  have e : its.toArray ++ its2.toArray = (its ++ its2).toArray := by simp
  have l1 := r.length
  have l2 := r2.length
  refine concat_meets ⟨_, ho, rfl⟩ ⟨_, ho2, rfl⟩ noFill_list_add seq_list_add PySem.F.slot_list_add PySem.F.entry_list_add (PySem.F.args_list_add_2 _ _) (list_addW l b its.toArray its2.toArray n n2 dd dd2 sl sl2 (by rw [List.size_toArray, List.size_toArray]; omega)) ⟨ho, ho2, ?_⟩
  rw [e]
  exact ⟨.ref _, _, I.lnew (t' := s.toks) (r.append r2) (by rw [List.length_append]; omega), rfl, q _ I.fresh⟩
/-- a list times an int -/
theorem op_repS : OpR X (binaryOp .Mult) (fun x y H Q => ∃ l k xs, x = .ref l ∧ y = .int k ∧ SqL X.K H l xs ∧ -1000000 < k ∧ k < 1000000 ∧ xs.length * k.toNat ≤ sizeLine ∧ ∀ p, H p = none → Q (.ref p) (upd H p (.lst (List.replicate k.toNat xs).flatten))) := by
  intro pins s σ H x y v u Q I rx ry h
  obtain ⟨l, k, xs, rfl, rfl, hH, h1, h2, hz, q⟩ := h
  cases rx
  obtain ⟨t, rfl⟩ := ry
  obtain ⟨its, r, p1, hl⟩ := I.list hH
  obtain ⟨⟨cls, dd, data, sl⟩, n, ho, hc, hdd, hd⟩ := p1
  simp only at hc hd
  subst hc hd
  have l1 := r.length
  have hz' : its.toArray.size * k.toNat ≤ 2 ^ 24 := by
    rw [List.size_toArray, ← l1]
    have e : sizeLine = 2 ^ 24 := by decide
    rw [← e]
    exact hz
  refine wpAny_binaryOp_repeat_ref (T := "list") (U := "int") (by decide) ⟨_, ho, rfl⟩ (fun s' => typeIs_int s' k t) noFill_list_mul F.fills_int_mul F.slot_int_rmul repeat_list F.slot_int_index.lookup
    (call_meets F.slot_int_rmul (typeIs_int s k t) F.entry_int_rmul (F.args_int_rmul_2 _ _) (lm_int_rmul_list_any k t l its.toArray n dd sl)
      ⟨ho, rfl, ⟨_, ho, rfl⟩, call_meets F.slot_list_mul ⟨_, ho, rfl⟩ F.entry_list_mul (F.args_list_mul_2 _ _)
        (lm_list_mul_any l its.toArray n dd sl k t (by simp [Builtin.List.listFitsIndex]; omega) (by omega) (by simp [Builtin.List.listTooLong, sizeLine]; omega))
        ⟨ho, ?_⟩⟩)
  rw [listMul_foldl_if]
  exact ⟨.ref _, _, I.lnew (t' := s.toks) (r.rep k.toNat) (by rw [PyProof.Rows.lm_len_rep_flat, Nat.mul_comm]; exact hz), rfl, q _ I.fresh⟩
def rBin (T : Tb) (X : Cx) (op : BOp) : R2 := L2op T X fun x y h Q => wBin op x y fun z => Q z h
theorem op_bin (hK : X.K = T.K) (op : BOp) : OpR X (binaryOp (opM op)) (rBin T X op) := by
  intro pins s σ H x y v u Q I rx ry h
  obtain ⟨F, G, σ', h, τ, dx, dy, Qd, sr, r1, r2, w, k⟩ := h
  have res : ∀ (z : D) (v' : V), Rep T F z v' → Qd z h → Q v' H := fun z v' r q => k z h v' F H (Same.refl _) sr r q
  cases r1 with
  | int =>
    cases r2 with
    | int =>
      rename_i i j
      cases op with
      | add => exact op_add pins s σ H _ _ v u Q I rx ry ⟨i, j, rfl, rfl, res _ _ .int w⟩
      | sub => exact op_sub pins s σ H _ _ v u Q I rx ry ⟨i, j, rfl, rfl, res _ _ .int w⟩
      | mul => exact op_mulG pins s σ H _ _ v u Q I rx ry ⟨i, j, rfl, rfl, w.1, res _ _ .int w.2⟩
      | fdiv => exact op_fdivG pins s σ H _ _ v u Q I rx ry ⟨i, j, rfl, rfl, w.1, res _ _ .int w.2⟩
      | mod => exact op_modN pins s σ H _ _ v u Q I rx ry ⟨i, j, rfl, rfl, w.1, res _ _ .int w.2⟩
      | pow => exact op_pow pins s σ H _ _ v u Q I rx ry ⟨i, j, rfl, rfl, w.1, res _ _ .int w.2⟩
      | shl => exact op_shlG pins s σ H _ _ v u Q I rx ry ⟨i, j, rfl, rfl, w.1, res _ _ .int w.2⟩
      | shr => exact op_shr pins s σ H _ _ v u Q I rx ry ⟨i, j, rfl, rfl, w.1, res _ _ .int w.2⟩
    | _ => exact False.elim w
  | lst s1 q1 =>
    rename_i l a vs
    cases r2 with
    | lst s2 q2 =>
      rename_i m b us
      cases op with
      | add =>
        obtain ⟨w1, w2⟩ := w
        refine op_catS pins s σ H _ _ v u Q I rx ry ⟨a, b, vs, us, rfl, rfl, hK ▸ sr.sh.sF.seq s1, hK ▸ sr.sh.sF.seq s2, ?_, fun p hp => ?_⟩
        · rw [← q1.length, ← q2.length, ← SL_eq]; exact w1
        · have g := Grow.new (o := .lst (vs ++ us)) sr.sh.sF hp
          exact k _ _ _ _ _ g.f (sr.grow g) (.lst (SqL.of upd_same) ((q1.append q2).mono g.f)) w2
      | _ => exact False.elim w
    | int =>
      rename_i i
      cases op with
      | mul =>
        obtain ⟨w1, w2⟩ := w
        refine op_repS pins s σ H _ _ v u Q I rx ry ⟨a, i, vs, rfl, rfl, hK ▸ sr.sh.sF.seq s1, w1.1, w1.2.1, by rw [← q1.length, ← SL_eq]; exact w1.2.2, fun p hp => ?_⟩
        have g := Grow.new (o := .lst (List.replicate i.toNat vs).flatten) sr.sh.sF hp
        have key : ∀ n : Nat, Reps T F (List.replicate n l).flatten (List.replicate n vs).flatten := fun n => by
          induction n with
          | zero => exact .nil
          | succ n ih => rw [List.replicate_succ, List.flatten_cons, List.replicate_succ, List.flatten_cons]; exact q1.append ih
        exact k _ _ _ _ _ g.f (sr.grow g) (.lst (SqL.of upd_same) ((key _).mono g.f)) w2
      | _ => exact False.elim w
    | _ => exact False.elim w
  | str =>
    rename_i x
    cases r2 with
    | str =>
      rename_i y
      cases op with
      | add =>
        obtain ⟨w1, w2⟩ := w
        refine op_add_str pins s σ H _ _ v u Q I rx ry ⟨sOf x, sOf y, rfl, rfl, ?_, ?_⟩
        · show x.toArray.size + y.toArray.size ≤ _
          rw [List.size_toArray, List.size_toArray, ← SL_eq]; exact w1
        · have e : sOf x ++ sOf y = sOf (x ++ y) := by
            show (⟨x.toArray ++ y.toArray⟩ : Str) = _
            simp [sOf]
          rw [e]
          exact res _ _ .str w2
      | _ => exact False.elim w
    | _ => exact False.elim w
  | tup s1 q1 =>
    rename_i l a vs
    cases r2 with
    | tup s2 q2 =>
      rename_i m b us
      cases op with
      | add =>
        obtain ⟨⟨_, _, n1, n2, w1⟩, w2⟩ := w
        have e1 : vs ≠ [] := fun z => by subst z; cases q1; exact n1 rfl
        have e2 : us ≠ [] := fun z => by subst z; cases q2; exact n2 rfl
        refine op_catT pins s σ H _ _ v u Q I rx ry ⟨a, b, vs, us, rfl, rfl, hK ▸ Same.sqt sr.sh.sF s1, hK ▸ Same.sqt sr.sh.sF s2, e1, ?_, fun z => absurd z e2, fun _ p hp => ?_⟩
        · rw [← q1.length, ← q2.length, ← SL_eq]; exact w1
        · have g := Grow.new (o := .tup (vs ++ us)) sr.sh.sF hp
          exact k _ _ _ _ _ g.f (sr.grow g) (.tup (SqT.of upd_same) ((q1.append q2).mono g.f)) w2
      | _ => exact False.elim w
    | _ => exact False.elim w
  | _ => cases r2 <;> exact False.elim w
end
end FF

namespace FF
open PySem PySem.Spec PyProof.Rows L2
mutual
def D.py : D → PyData
  | .bl b => .bool b
  | .int i => .int i
  | .str s => .str (sOf s)
  | .tup l => .tuple (D.pys l)
  | .lst l => .list (D.pys l)
  | _ => .none
def D.pys : List D → List PyData
  | [] => []
  | d :: r => D.py d :: D.pys r
end
theorem depth_all {n : Nat} {ds : List PyData} : (∀ d ∈ ds, d.depth ≤ n) → PyData.depthAll ds ≤ n := by
  induction ds with
  | nil => intro _; exact Nat.zero_le _
  | cons d r ih =>
    intro h
    rw [PyData.depthAll]
    exact Nat.max_le.mpr ⟨h d List.mem_cons_self, ih fun e he => h e (List.mem_cons_of_mem _ he)⟩
theorem lay_all {ds : List PyData} : (∀ d ∈ ds, d.canLay0 = true) → PyData.canLayAll0 ds = true := by
  induction ds with
  | nil => intro _; simp [PyData.canLayAll0]
  | cons d r ih =>
    intro h
    rw [PyData.canLayAll0, h d List.mem_cons_self, ih fun e he => h e (List.mem_cons_of_mem _ he)]
    rfl
theorem pys_mem {ds : List D} {p : PyData} : p ∈ D.pys ds → ∃ d ∈ ds, d.py = p := by
  induction ds with
  | nil => intro h; cases h
  | cons d r ih =>
    intro h
    rw [D.pys] at h
    rcases List.mem_cons.mp h with e | h
    · exact ⟨d, List.mem_cons_self, e.symm⟩
    · obtain ⟨e, h1, h2⟩ := ih h
      exact ⟨e, List.mem_cons_of_mem _ h1, h2⟩
theorem pln_lay : ∀ (n : Nat) (d : D), d.pln n = true → d.py.canLay0 = true ∧ d.py.depth ≤ n := by
  intro n
  induction n with
  | zero =>
    intro d h
    cases d with
    | non => exact ⟨by simp [D.py, PyData.canLay0], by simp [D.py, PyData.depth]⟩
    | bl b => exact ⟨by simp [D.py, PyData.canLay0], by simp [D.py, PyData.depth]⟩
    | int b => exact ⟨by simp [D.py, PyData.canLay0], by simp [D.py, PyData.depth]⟩
    | str s =>
      refine ⟨?_, by simp [D.py, PyData.depth]⟩
      have h : s.all (· < 1114112) = true := by simpa [D.pln] using h
      simp only [D.py, PyData.canLay0, PyData.strOk]
      simpa using h
    | _ => simp [D.pln] at h
  | succ n ih =>
    intro d h
    cases d with
    | non => exact ⟨by simp [D.py, PyData.canLay0], by simp [D.py, PyData.depth]⟩
    | bl b => exact ⟨by simp [D.py, PyData.canLay0], by simp [D.py, PyData.depth]⟩
    | int b => exact ⟨by simp [D.py, PyData.canLay0], by simp [D.py, PyData.depth]⟩
    | str s =>
      refine ⟨?_, by simp [D.py, PyData.depth]⟩
      have h : s.all (· < 1114112) = true := by simpa [D.pln] using h
      simp only [D.py, PyData.canLay0, PyData.strOk]
      simpa using h
    | tup l =>
      have h : l.all (D.pln n) = true := by simpa [D.pln] using h
      have h' : ∀ d ∈ l, d.pln n = true := fun d hd => List.all_eq_true.mp h d hd
      refine ⟨?_, ?_⟩
      · simp only [D.py, PyData.canLay0]
        exact lay_all fun p hp => by obtain ⟨d, h1, h2⟩ := pys_mem hp; rw [← h2]; exact (ih d (h' d h1)).1
      · simp only [D.py, PyData.depth]
        have := depth_all (n := n) (ds := D.pys l) fun p hp => by obtain ⟨d, h1, h2⟩ := pys_mem hp; rw [← h2]; exact (ih d (h' d h1)).2
        omega
    | lst l =>
      have h : l.all (D.pln n) = true := by simpa [D.pln] using h
      have h' : ∀ d ∈ l, d.pln n = true := fun d hd => List.all_eq_true.mp h d hd
      refine ⟨?_, ?_⟩
      · simp only [D.py, PyData.canLay0]
        exact lay_all fun p hp => by obtain ⟨d, h1, h2⟩ := pys_mem hp; rw [← h2]; exact (ih d (h' d h1)).1
      · simp only [D.py, PyData.depth]
        have := depth_all (n := n) (ds := D.pys l) fun p hp => by obtain ⟨d, h1, h2⟩ := pys_mem hp; rw [← h2]; exact (ih d (h' d h1)).2
        omega
    | _ => simp [D.pln] at h
theorem pln_shaped {n : Nat} {d : D} (h : d.pln n = true) (hn : n ≤ 64) : SeqAt.shaped d.py = true := by
  obtain ⟨a, b⟩ := pln_lay n d h
  unfold SeqAt.shaped
  rw [a, decide_eq_true (Nat.le_trans b hn)]
  rfl
theorem sOf_inj {x y : List Nat} (h : sOf x = sOf y) : x = y := by
  have : x.toArray = y.toArray := congrArg Str.cps h
  simpa using this
theorem sOf_beq (x y : List Nat) : (sOf x == sOf y) = (x == y) := by
  by_cases e : x = y
  · subst e; simp
  · have : sOf x ≠ sOf y := fun z => e (sOf_inj z)
    rw [beq_eq_false_iff_ne.mpr this, beq_eq_false_iff_ne.mpr e]
mutual
theorem eqv_py : ∀ (n : Nat) (d e : D), d.pln n = true → e.pln n = true → PyData.eqv d.py e.py = D.eqb d e
  | n, .non, e, _, he => by cases e <;> first | (cases n <;> simp [D.pln] at he; done) | simp [D.py, PyData.eqv, D.eqb]
  | n, .bl b, e, _, he => by cases e <;> first | (cases n <;> simp [D.pln] at he; done) | simp [D.py, PyData.eqv, D.eqb]
  | n, .int b, e, _, he => by cases e <;> first | (cases n <;> simp [D.pln] at he; done) | simp [D.py, PyData.eqv, D.eqb]
  | n, .str b, e, _, he => by cases e <;> first | (cases n <;> simp [D.pln] at he; done) | simp [D.py, PyData.eqv, D.eqb, sOf_beq]
  | 0, .tup l, e, hd, _ => by simp [D.pln] at hd
  | n + 1, .tup l, e, hd, he => by
    cases e with
    | tup m =>
      simp only [D.py, PyData.eqv, D.eqb]
      exact eqv_pys n l m (by simpa [D.pln] using hd) (by simpa [D.pln] using he)
    | _ => first | (simp [D.pln] at he; done) | simp [D.py, PyData.eqv, D.eqb]
  | 0, .lst l, e, hd, _ => by simp [D.pln] at hd
  | n + 1, .lst l, e, hd, he => by
    cases e with
    | lst m =>
      simp only [D.py, PyData.eqv, D.eqb]
      exact eqv_pys n l m (by simpa [D.pln] using hd) (by simpa [D.pln] using he)
    | _ => first | (simp [D.pln] at he; done) | simp [D.py, PyData.eqv, D.eqb]
  | n, .obj _ _, _, hd, _ => by cases n <;> simp [D.pln] at hd
  | n, .ref _, _, hd, _ => by cases n <;> simp [D.pln] at hd
  | n, .fn _, _, hd, _ => by cases n <;> simp [D.pln] at hd
  | n, .clo _ _, _, hd, _ => by cases n <;> simp [D.pln] at hd
  | n, .odd _, _, hd, _ => by cases n <;> simp [D.pln] at hd
theorem eqv_pys : ∀ (n : Nat) (d e : List D), (∀ x ∈ d, x.pln n = true) → (∀ x ∈ e, x.pln n = true) → PyData.eqvAll (D.pys d) (D.pys e) = D.eqbs d e
  | _, [], [], _, _ => by simp [D.pys, PyData.eqvAll, D.eqbs]
  | _, [], _ :: _, _, _ => by simp [D.pys, PyData.eqvAll, D.eqbs]
  | _, _ :: _, [], _, _ => by simp [D.pys, PyData.eqvAll, D.eqbs]
  | n, x :: xs, y :: ys, hd, he => by
    simp only [D.pys, PyData.eqvAll, D.eqbs]
    rw [eqv_py n x y (hd x List.mem_cons_self) (he y List.mem_cons_self), eqv_pys n xs ys (fun z hz => hd z (List.mem_cons_of_mem _ hz)) fun z hz => he z (List.mem_cons_of_mem _ hz)]
end
section
variable {X : Cx} {T : Tb} {F H : Hp}
mutual
theorem rep_dp (s : Same F H) : ∀ {d : D} {v : V}, Rep T F d v → ∀ {n : Nat}, d.pln n = true → Dp T.K H v d.py
  | _, _, .non, _, _ => by rw [D.py]; exact .non; all_goals simp
  | _, _, .bl, _, _ => by rw [D.py]; exact .bl _
  | _, _, .int, _, _ => by rw [D.py]; exact .int _
  | _, _, .str, _, _ => by rw [D.py]; exact .str _
  | _, _, .tup h r, n, p => by
    cases n with
    | zero => simp [D.pln] at p
    | succ n =>
      rw [D.py]
      exact .tup (Same.sqt s h) (reps_dp s r (n := n) (by simpa [D.pln] using p))
  | _, _, .lst h r, n, p => by
    cases n with
    | zero => simp [D.pln] at p
    | succ n =>
      rw [D.py]
      exact .lst (s.seq h) (reps_dp s r (n := n) (by simpa [D.pln] using p))
  | _, _, .obj _ _ _, n, p => by cases n <;> simp [D.pln] at p
  | _, _, .ref, n, p => by cases n <;> simp [D.pln] at p
  | _, _, .fn, n, p => by cases n <;> simp [D.pln] at p
theorem reps_dp (s : Same F H) : ∀ {d : List D} {v : List V}, Reps T F d v → ∀ {n : Nat}, (∀ x ∈ d, x.pln n = true) → DpAll T.K H v (D.pys d)
  | _, _, .nil, _, _ => by rw [D.pys]; exact .nil
  | _, _, .cons h r, n, p => by
    rw [D.pys]
    exact .cons (rep_dp s h (n := n) (p _ List.mem_cons_self)) (reps_dp s r (n := n) fun x hx => p x (List.mem_cons_of_mem _ hx))
end
theorem rep_isNon {d : D} {v : V} (r : Rep T F d v) : decide (v = .non) = d.isNon := by
  cases r <;> simp [D.isNon]
theorem rep_flat {d : D} {v : V} (r : Rep T F d v) (h : d.flat = true) : flatV v = true := by
  cases r <;> first | rfl | cases h
theorem reps_flat : ∀ {d : List D} {v : List V}, Reps T F d v → d.all D.flat = true → v.all flatV = true
  | _, _, .nil, _ => rfl
  | _, _, .cons h r, e => by
    rw [List.all_cons, Bool.and_eq_true] at e
    rw [List.all_cons, rep_flat h e.1, reps_flat r e.2]
    rfl
theorem eqV_eqb {d e : D} {v u : V} (r : Rep T F d v) (q : Rep T F e u) (hd : d.flat = true) (he : e.flat = true) : eqV u v = D.eqb d e := by
  have bc : ∀ {α : Type} [BEq α] [LawfulBEq α] (a b : α), (a == b) = (b == a) := fun a b => by
    rw [Bool.eq_iff_iff, beq_iff_eq, beq_iff_eq]
    exact eq_comm
  cases r <;> first | (cases (show false = true from hd); done) | (cases q <;> first | (cases (show false = true from he); done) | rfl | (simp only [eqV, D.eqb]; done) | (simp only [eqV, D.eqb]; first | exact bc (α := Int) _ _ | exact bc (α := Bool) _ _) | (simp only [eqV, D.eqb, sOf_beq]; exact bc (α := List Nat) _ _))
theorem inV_any {d : D} {v : V} (r : Rep T F d v) (hd : d.flat = true) : ∀ {l : List D} {vs : List V}, Reps T F l vs → l.all D.flat = true → inV v vs = l.any (D.eqb d)
  | _, _, .nil, _ => rfl
  | _, _, .cons h q, e => by
    rw [List.all_cons, Bool.and_eq_true] at e
    unfold inV
    rw [List.any_cons, List.any_cons, eqV_eqb r h hd e.1]
    congr 1
    exact inV_any r hd q e.2
theorem asL_rep {F G : Hp} {h : AH} {H : Hp} (sh : SH T F G h H) {d : D} {v : V} {l : List D} (r : Rep T F d v) (e : asL h d = some l) : ∃ a vs, v = .ref a ∧ SqL T.K H a vs ∧ Reps T F l vs := by
  cases r with
  | lst h1 q =>
    cases e
    exact ⟨_, _, rfl, sh.sF.seq h1, q⟩
  | ref =>
    rename_i a
    unfold asL at e
    simp only at e
    split at e
    · rename_i m hm
      cases e
      obtain ⟨_, _, vs, e1, q⟩ := sh.cell _ _ hm
      exact ⟨a, vs, rfl, SqL.of e1, q⟩
    · cases e
  | _ => cases e
theorem asLT_rep {F G : Hp} {h : AH} {H : Hp} (sh : SH T F G h H) {d : D} {v : V} {l : List D} (r : Rep T F d v) (e : asLT h d = some l) : ∃ a vs, v = .ref a ∧ (SqL T.K H a vs ∨ SqT T.K H a vs) ∧ Reps T F l vs := by
  cases r with
  | lst h1 q =>
    cases e
    exact ⟨_, _, rfl, .inl (sh.sF.seq h1), q⟩
  | tup h1 q =>
    cases e
    exact ⟨_, _, rfl, .inr (Same.sqt sh.sF h1), q⟩
  | ref =>
    rename_i a
    unfold asLT at e
    simp only at e
    split at e
    · rename_i m hm
      cases e
      obtain ⟨_, _, vs, e1, q⟩ := sh.cell _ _ hm
      exact ⟨a, vs, rfl, .inl (SqL.of e1), q⟩
    · cases e
  | _ => cases e
theorem asObj_rep {F G : Hp} {h : AH} {H : Hp} (sh : SH T F G h H) {d : D} {v : V} {c : Nat} {fs : List (Nat × D)} (r : Rep T F d v) (e : d.asObj h = some (c, fs)) : ∃ a dx fvs, v = .ref a ∧ H a = some (.ins (T.cA c) dx fvs) ∧ Cls T.K (T.cA c) ∧ RepF T F c fs fvs := by
  cases r with
  | obj h1 k q =>
    cases e
    exact ⟨_, _, _, rfl, sh.sF _ _ h1, k, q⟩
  | ref =>
    rename_i a
    unfold D.asObj at e
    simp only at e
    split at e
    · rename_i m hm
      cases e
      obtain ⟨_, _, dx, fvs, e1, k, q⟩ := sh.cell _ _ hm
      exact ⟨a, dx, fvs, rfl, e1, k, q⟩
    · cases e
  | _ => cases e

/-! ### comparisons -/
def rCmp (T : Tb) (X : Cx) (op : COp) : R2 := L2op T X fun x y h Q => wCmp op x y fun k => Q (.bl k) h
theorem op_cmp (hK : X.K = T.K) (hu : X.A.units + 64 < cLine) (op : COp) : OpR X (compareOp (copM op)) (rCmp T X op) := by
  intro pins s σ H x y v u Q I rx ry h
  obtain ⟨F, G, σ', h, τ, dx, dy, Qd, sr, r1, r2, w, k⟩ := h
  have res : ∀ (b : Bool), Qd (.bl b) h → Q (.bl b) H := fun b q => k _ h _ F H (Same.refl _) sr .bl q
  cases op with
  | eq =>
    obtain ⟨⟨w1, w2⟩, w3⟩ := w
    refine op_eqD hu pins s σ H _ _ v u Q I rx ry ⟨dx.py, dy.py, hK ▸ rep_dp sr.sh.sF r1 w1, hK ▸ rep_dp sr.sh.sF r2 w2, pln_shaped w1 (by decide), pln_shaped w2 (by decide), ?_⟩
    rw [eqv_py 60 dx dy w1 w2]
    exact res _ w3
  | ne =>
    obtain ⟨⟨w1, w2⟩, w3⟩ := w
    refine op_neD hu pins s σ H _ _ v u Q I rx ry ⟨dx.py, dy.py, hK ▸ rep_dp sr.sh.sF r1 w1, hK ▸ rep_dp sr.sh.sF r2 w2, pln_shaped w1 (by decide), pln_shaped w2 (by decide), ?_⟩
    rw [eqv_py 60 dx dy w1 w2]
    exact res _ w3
  | lt =>
    cases r1 <;> first | (exact False.elim w) | (cases r2 <;> first | (exact False.elim w) | exact op_lt pins s σ H _ _ v u Q I rx ry ⟨_, _, rfl, rfl, res _ w⟩)
  | le =>
    cases r1 <;> first | (exact False.elim w) | (cases r2 <;> first | (exact False.elim w) | exact op_le pins s σ H _ _ v u Q I rx ry ⟨_, _, rfl, rfl, res _ w⟩)
  | gt =>
    cases r1 <;> first | (exact False.elim w) | (cases r2 <;> first | (exact False.elim w) | exact op_gt pins s σ H _ _ v u Q I rx ry ⟨_, _, rfl, rfl, res _ w⟩)
  | ge =>
    cases r1 <;> first | (exact False.elim w) | (cases r2 <;> first | (exact False.elim w) | exact op_ge pins s σ H _ _ v u Q I rx ry ⟨_, _, rfl, rfl, res _ w⟩)
  | is_ =>
    cases r2 <;> first | (exact False.elim w) | (refine op_isN pins s σ H _ _ v u Q I rx ry ⟨rfl, ?_⟩; rw [rep_isNon r1]; exact res _ w)
  | isn =>
    cases r2 <;> first | (exact False.elim w) | (refine op_notN pins s σ H _ _ v u Q I rx ry ⟨rfl, ?_⟩; rw [rep_isNon r1]; exact res _ w)
  | in_ =>
    cases r2 with
    | lst h1 q =>
      obtain ⟨⟨w1, w2⟩, w3⟩ := w
      refine op_in_seq pins s σ H _ _ v u Q I rx ry ⟨_, _, rfl, .inl (hK ▸ sr.sh.sF.seq h1), rep_flat r1 w1, reps_flat q w2, ?_⟩
      rw [inV_any r1 w1 q w2]
      exact res _ w3
    | tup h1 q =>
      obtain ⟨⟨w1, w2⟩, w3⟩ := w
      refine op_in_seq pins s σ H _ _ v u Q I rx ry ⟨_, _, rfl, .inr (hK ▸ Same.sqt sr.sh.sF h1), rep_flat r1 w1, reps_flat q w2, ?_⟩
      rw [inV_any r1 w1 q w2]
      exact res _ w3
    | _ => exact False.elim w
  | nin =>
    cases r2 with
    | lst h1 q =>
      obtain ⟨⟨w1, w2⟩, w3⟩ := w
      refine op_notIn_seq pins s σ H _ _ v u Q I rx ry ⟨_, _, rfl, .inl (hK ▸ sr.sh.sF.seq h1), rep_flat r1 w1, reps_flat q w2, ?_⟩
      rw [inV_any r1 w1 q w2]
      exact res _ w3
    | tup h1 q =>
      obtain ⟨⟨w1, w2⟩, w3⟩ := w
      refine op_notIn_seq pins s σ H _ _ v u Q I rx ry ⟨_, _, rfl, .inr (hK ▸ Same.sqt sr.sh.sF h1), rep_flat r1 w1, reps_flat q w2, ?_⟩
      rw [inV_any r1 w1 q w2]
      exact res _ w3
    | _ => exact False.elim w

/-! ### built-in functions -/
theorem maxL_eq : ∀ {ns : List Int} {m : Int}, m ∈ ns → (∀ y, y ∈ ns → y ≤ m) → maxL ns = m
  | [], m, h, _ => by cases h
  | [x], m, h, _ => (List.mem_singleton.mp h).symm
  | x :: y :: r, m, h, k => by
    have e : maxL (x :: y :: r) = max x (maxL (y :: r)) := rfl
    rw [e]
    have mem : ∀ {l : List Int}, l ≠ [] → maxL l ∈ l := by
      intro l
      induction l with
      | nil => intro z; exact absurd rfl z
      | cons a l ih =>
        intro _
        cases l with
        | nil => exact List.mem_singleton.mpr rfl
        | cons b l =>
          have e2 : maxL (a :: b :: l) = max a (maxL (b :: l)) := rfl
          rw [e2]
          rcases Int.le_total a (maxL (b :: l)) with q | q
          · rw [Int.max_eq_right q]; exact List.mem_cons_of_mem _ (ih (by simp))
          · rw [Int.max_eq_left q]; exact List.mem_cons_self
    have top : ∀ {l : List Int} {z : Int}, z ∈ l → z ≤ maxL l := by
      intro l
      induction l with
      | nil => intro z hz; cases hz
      | cons a l ih =>
        intro z hz
        cases l with
        | nil => rw [List.mem_singleton.mp hz]; exact Int.le_refl _
        | cons b l =>
          have e2 : maxL (a :: b :: l) = max a (maxL (b :: l)) := rfl
          rw [e2]
          rcases List.mem_cons.mp hz with q | q
          · rw [q]; exact Int.le_max_left _ _
          · exact Int.le_trans (ih q) (Int.le_max_right _ _)
    have a1 : max x (maxL (y :: r)) ∈ x :: y :: r := by rw [← e]; exact mem (by simp)
    have a2 := k _ a1
    have a3 : m ≤ max x (maxL (y :: r)) := by rw [← e]; exact top h
    omega
theorem minL_eq : ∀ {ns : List Int} {m : Int}, m ∈ ns → (∀ y, y ∈ ns → m ≤ y) → minL ns = m
  | [], m, h, _ => by cases h
  | [x], m, h, _ => (List.mem_singleton.mp h).symm
  | x :: y :: r, m, h, k => by
    have e : minL (x :: y :: r) = min x (minL (y :: r)) := rfl
    rw [e]
    have mem : ∀ {l : List Int}, l ≠ [] → minL l ∈ l := by
      intro l
      induction l with
      | nil => intro z; exact absurd rfl z
      | cons a l ih =>
        intro _
        cases l with
        | nil => exact List.mem_singleton.mpr rfl
        | cons b l =>
          have e2 : minL (a :: b :: l) = min a (minL (b :: l)) := rfl
          rw [e2]
          rcases Int.le_total a (minL (b :: l)) with q | q
          · rw [Int.min_eq_left q]; exact List.mem_cons_self
          · rw [Int.min_eq_right q]; exact List.mem_cons_of_mem _ (ih (by simp))
    have top : ∀ {l : List Int} {z : Int}, z ∈ l → minL l ≤ z := by
      intro l
      induction l with
      | nil => intro z hz; cases hz
      | cons a l ih =>
        intro z hz
        cases l with
        | nil => rw [List.mem_singleton.mp hz]; exact Int.le_refl _
        | cons b l =>
          have e2 : minL (a :: b :: l) = min a (minL (b :: l)) := rfl
          rw [e2]
          rcases List.mem_cons.mp hz with q | q
          · rw [q]; exact Int.min_le_left _ _
          · exact Int.le_trans (Int.min_le_right _ _) (ih q)
    have a1 : min x (minL (y :: r)) ∈ x :: y :: r := by rw [← e]; exact mem (by simp)
    have a2 := k _ a1
    have a3 : min x (minL (y :: r)) ≤ m := by rw [← e]; exact top h
    omega
def rBi (T : Tb) (X : Cx) (b : Bi) : List V → Hp → VK → Prop := LNop T X fun ds h Q => wBi b ds h fun d => Q d h
theorem call_bi_abs : CallR X (.builtin "abs") (rBi T X .abs) := by
  intro pins s σ H xs us Q I r h
  obtain ⟨F, G, σ', h, τ, ds, Qd, sr, r1, w, k⟩ := h
  have res : ∀ (z : D) (v' : V), Rep T F z v' → Qd z h → Q v' H := fun z v' r q => k z h v' F H (Same.refl _) sr r q
  cases r1 with
  | nil => exact False.elim w
  | cons a1 a2 =>
    cases a1 <;> first | (cases a2 <;> exact False.elim w) | (cases a2 <;> first | exact False.elim w | skip)
    rename_i i
    refine call_abs pins s σ H _ us Q I r ⟨i, rfl, ?_⟩
    have e : (if i < 0 then -i else i) = (i.natAbs : Int) := by split <;> omega
    rw [e]
    exact res _ _ .int w
theorem call_bi_int : CallR X (.type "int") (rBi T X .int) := by
  intro pins s σ H xs us Q I r h
  obtain ⟨F, G, σ', h, τ, ds, Qd, sr, r1, w, k⟩ := h
  have res : ∀ (z : D) (v' : V), Rep T F z v' → Qd z h → Q v' H := fun z v' r q => k z h v' F H (Same.refl _) sr r q
  cases r1 with
  | nil => exact False.elim w
  | cons a1 a2 =>
    cases a2 with
    | cons _ _ => cases a1 <;> exact False.elim w
    | nil =>
      cases a1 with
      | int => exact call_int1 pins s σ H _ us Q I r (.inl ⟨_, rfl, res _ _ .int w⟩)
      | bl => exact call_int1 pins s σ H _ us Q I r (.inr ⟨_, rfl, res _ _ .int w⟩)
      | _ => exact False.elim w
theorem call_bi_len (hK : X.K = T.K) : CallR X (.builtin "len") (rBi T X .len) := by
  intro pins s σ H xs us Q I r h
  obtain ⟨F, G, σ', h, τ, ds, Qd, sr, r1, w, k⟩ := h
  have res : ∀ (z : D) (v' : V), Rep T F z v' → Qd z h → Q v' H := fun z v' r q => k z h v' F H (Same.refl _) sr r q
  cases r1 with
  | nil => exact False.elim w
  | cons a1 a2 =>
    cases a2 with
    | cons _ _ => exact False.elim w
    | nil =>
      have key : ∀ {d : D} {v : V}, Rep T F d v → (match asLT h d with | some l => Qd (.int l.length) h | none => False) → ∃ x n, [v] = [x] ∧ LenV X.K x H n ∧ Q (.int n) H := fun {d v} ra wd => by
        cases e : asLT h d with
        | none => rw [e] at wd; exact False.elim wd
        | some l =>
          rw [e] at wd
          obtain ⟨a, vs, rfl, q1, q2⟩ := asLT_rep sr.sh ra e
          refine ⟨_, l.length, rfl, ?_, res _ _ .int wd⟩
          rcases q1 with q1 | q1
          · exact .inl ⟨vs, hK ▸ q1, q2.length⟩
          · exact .inr ⟨vs, hK ▸ q1, q2.length⟩
      cases a1 with
      | str =>
        rename_i x
        obtain ⟨w1, w2⟩ := w
        refine call_len pins s σ H _ us Q I r ⟨_, x.length, rfl, ⟨?_, ?_⟩, res _ _ .int w2⟩
        · show x.toArray.size ≤ _
          rw [List.size_toArray, ← SL_eq]; exact w1
        · show _ = x.toArray.size
          rw [List.size_toArray]
      | lst h1 q => exact call_len pins s σ H _ us Q I r (key (.lst h1 q) w)
      | tup h1 q => exact call_len pins s σ H _ us Q I r (key (.tup h1 q) w)
      | ref => exact call_len pins s σ H _ us Q I r (key .ref w)
      | _ => exact False.elim w
theorem of_asL_ints {F G : Hp} {h : AH} {H : Hp} (hK : X.K = T.K) (sh : SH T F G h H) {d : D} {v : V} {P : List Int → Prop} (ra : Rep T F d v) (w : match asL h d with | some l => (match intsOf l with | some ns => P ns | none => False) | none => False) :
    ∃ a ns, v = .ref a ∧ SqL X.K H a (ns.map V.int) ∧ P ns := by
  cases e : asL h d with
  | none => rw [e] at w; exact False.elim w
  | some l =>
    rw [e] at w
    cases e2 : intsOf l with
    | none => simp only [e2] at w
    | some ns =>
      simp only [e2] at w
      obtain ⟨a, vs, rfl, q1, q2⟩ := asL_rep sh ra e
      have := Reps.intsOf q2 e2
      subst this
      exact ⟨a, ns, rfl, hK ▸ q1, w⟩
theorem of_asL_bools {F G : Hp} {h : AH} {H : Hp} (hK : X.K = T.K) (sh : SH T F G h H) {d : D} {v : V} {P : List Bool → Prop} (ra : Rep T F d v) (w : match asL h d with | some l => (match boolsOf l with | some ns => P ns | none => False) | none => False) :
    ∃ a ns, v = .ref a ∧ SqL X.K H a (ns.map V.bl) ∧ P ns := by
  cases e : asL h d with
  | none => rw [e] at w; exact False.elim w
  | some l =>
    rw [e] at w
    cases e2 : boolsOf l with
    | none => simp only [e2] at w
    | some ns =>
      simp only [e2] at w
      obtain ⟨a, vs, rfl, q1, q2⟩ := asL_rep sh ra e
      have := Reps.boolsOf q2 e2
      subst this
      exact ⟨a, ns, rfl, hK ▸ q1, w⟩
theorem call_bi_sum (hK : X.K = T.K) (hc : X.calm = true) : CallR X (.builtin "sum") (rBi T X .sum) := by
  intro pins s σ H xs us Q I r h
  obtain ⟨F, G, σ', h, τ, ds, Qd, sr, r1, w, k⟩ := h
  have res : ∀ (z : D) (v' : V), Rep T F z v' → Qd z h → Q v' H := fun z v' r q => k z h v' F H (Same.refl _) sr r q
  cases r1 with
  | nil => exact False.elim w
  | cons a1 a2 =>
    cases a2 with
    | cons _ _ => exact False.elim w
    | nil =>
      obtain ⟨a, ns, rfl, q1, q2⟩ := of_asL_ints (P := fun ns => Qd (.int ns.sum) h) hK sr.sh a1 w
      exact cr_sum hc pins s σ H _ us Q I r ⟨a, ns, rfl, q1, res _ _ .int q2⟩
theorem call_bi_all (hK : X.K = T.K) (hc : X.calm = true) : CallR X (.builtin "all") (rBi T X .all) := by
  intro pins s σ H xs us Q I r h
  obtain ⟨F, G, σ', h, τ, ds, Qd, sr, r1, w, k⟩ := h
  have res : ∀ (z : D) (v' : V), Rep T F z v' → Qd z h → Q v' H := fun z v' r q => k z h v' F H (Same.refl _) sr r q
  cases r1 with
  | nil => exact False.elim w
  | cons a1 a2 =>
    cases a2 with
    | cons _ _ => exact False.elim w
    | nil =>
      obtain ⟨a, ns, rfl, q1, q2⟩ := of_asL_bools (P := fun ns => Qd (.bl (ns.all id)) h) hK sr.sh a1 w
      exact cr_all hc pins s σ H _ us Q I r ⟨a, ns, rfl, q1, res _ _ .bl q2⟩
theorem call_bi_any (hK : X.K = T.K) (hc : X.calm = true) : CallR X (.builtin "any") (rBi T X .any) := by
  intro pins s σ H xs us Q I r h
  obtain ⟨F, G, σ', h, τ, ds, Qd, sr, r1, w, k⟩ := h
  have res : ∀ (z : D) (v' : V), Rep T F z v' → Qd z h → Q v' H := fun z v' r q => k z h v' F H (Same.refl _) sr r q
  cases r1 with
  | nil => exact False.elim w
  | cons a1 a2 =>
    cases a2 with
    | cons _ _ => exact False.elim w
    | nil =>
      obtain ⟨a, ns, rfl, q1, q2⟩ := of_asL_bools (P := fun ns => Qd (.bl (ns.any id)) h) hK sr.sh a1 w
      exact cr_any hc pins s σ H _ us Q I r ⟨a, ns, rfl, q1, res _ _ .bl q2⟩
theorem call_bi_max (hK : X.K = T.K) (hc : X.calm = true) : CallR X (.builtin "max") (rBi T X .max) := by
  intro pins s σ H xs us Q I r h
  obtain ⟨F, G, σ', h, τ, ds, Qd, sr, r1, w, k⟩ := h
  have res : ∀ (z : D) (v' : V), Rep T F z v' → Qd z h → Q v' H := fun z v' r q => k z h v' F H (Same.refl _) sr r q
  cases r1 with
  | nil => exact False.elim w
  | cons a1 a2 =>
    cases a2 with
    | nil =>
      rename_i dd vv
      have w' : match asL h dd with | some l => (match intsOf l with | some ns => 0 < ns.length ∧ Qd (.int (maxL ns)) h | none => False) | none => False := by
        cases a1 <;> first | exact w | exact False.elim w
      obtain ⟨a, ns, rfl, q1, q2, q3⟩ := of_asL_ints (P := fun ns => 0 < ns.length ∧ Qd (.int (maxL ns)) h) hK sr.sh a1 w'
      exact cr_max hc pins s σ H _ us Q I r ⟨a, ns, rfl, q1, q2, fun m h1 h2 => res _ _ .int (by rw [← maxL_eq h1 h2]; exact q3)⟩
    | cons b1 b2 =>
      cases b2 with
      | cons _ _ => cases a1 <;> first | exact False.elim w | (cases b1 <;> exact False.elim w)
      | nil =>
        cases a1 <;> first | exact False.elim w | skip
        cases b1 <;> first | exact False.elim w | skip
        rename_i i j
        refine call_max2 hc pins s σ H _ us Q I r ⟨i, j, rfl, ?_⟩
        have e : (if j > i then j else i) = max i j := by split <;> omega
        rw [e]
        exact res _ _ .int w
theorem call_bi_min (hK : X.K = T.K) (hc : X.calm = true) : CallR X (.builtin "min") (rBi T X .min) := by
  intro pins s σ H xs us Q I r h
  obtain ⟨F, G, σ', h, τ, ds, Qd, sr, r1, w, k⟩ := h
  have res : ∀ (z : D) (v' : V), Rep T F z v' → Qd z h → Q v' H := fun z v' r q => k z h v' F H (Same.refl _) sr r q
  cases r1 with
  | nil => exact False.elim w
  | cons a1 a2 =>
    cases a2 with
    | nil =>
      rename_i dd vv
      have w' : match asL h dd with | some l => (match intsOf l with | some ns => 0 < ns.length ∧ Qd (.int (minL ns)) h | none => False) | none => False := by
        cases a1 <;> first | exact w | exact False.elim w
      obtain ⟨a, ns, rfl, q1, q2, q3⟩ := of_asL_ints (P := fun ns => 0 < ns.length ∧ Qd (.int (minL ns)) h) hK sr.sh a1 w'
      exact cr_min hc pins s σ H _ us Q I r ⟨a, ns, rfl, q1, q2, fun m h1 h2 => res _ _ .int (by rw [← minL_eq h1 h2]; exact q3)⟩
    | cons b1 b2 =>
      cases b2 with
      | cons _ _ => cases a1 <;> first | exact False.elim w | (cases b1 <;> exact False.elim w)
      | nil =>
        cases a1 <;> first | exact False.elim w | skip
        cases b1 <;> first | exact False.elim w | skip
        rename_i i j
        refine call_min2 hc pins s σ H _ us Q I r ⟨i, j, rfl, ?_⟩
        have e : (if j < i then j else i) = min i j := by split <;> omega
        rw [e]
        exact res _ _ .int w
end
end FF

namespace FF
open PySem PySem.Spec PyProof.Rows L2

/-! ### shapes of the text -/
def noStar : Expr → Bool
  | .Starred _ _ => false
  | _ => true
def noSuper : Expr → Bool
  | .Call (.Name id _) [] [] _ => id != "super"
  | _ => true
/-- its truth is its value's -/
def plainT : Expr → Bool
  | .UnaryOp .Not _ _ => false
  | .BoolOp _ _ _ => false
  | .IfExp _ _ _ _ => false
  | .Compare _ _ _ _ => false
  | _ => true
def noSlice : Expr → Bool
  | .Slice _ _ _ _ => false
  | _ => true
theorem star_cons {e : Expr} {es : List Expr} {env : PySem.Env} (h : noStar e = true) : starEach (e :: es) env = (false, eval e env) :: starEach es env := by
  cases e <;> first | rfl | cases h
theorem star_any {pos : Pos} {env : PySem.Env} : ∀ {es : List Expr}, es.all noStar = true → (backTo pos (starEach es env)).any (·.1) = false
  | [], _ => rfl
  | e :: es, h => by
    rw [List.all_cons, Bool.and_eq_true] at h
    rw [star_cons h.1]
    exact star_any h.2
theorem star_all {pos : Pos} {env : PySem.Env} : ∀ {es : List Expr}, es.all noStar = true → (backTo pos (starEach es env)).all (!·.1) = true
  | [], _ => rfl
  | e :: es, h => by
    rw [List.all_cons, Bool.and_eq_true] at h
    rw [star_cons h.1]
    exact star_all h.2
theorem base_ok {e : Expr} {f : Str} {env : PySem.Env} (h : noSuper e = true) : attributeBase e f env (eval e env) = eval e env := by
  cases e with
  | Call g as ks pos =>
    cases g with
    | Name id p =>
      cases as with
      | nil =>
        cases ks with
        | nil =>
          have h : (id != "super") = true := h
          unfold attributeBase
          simp only [h, Bool.true_or, if_true]
        | cons _ _ => rfl
      | cons _ _ => rfl
    | _ => rfl
  | _ => rfl
theorem true_ok {e : Expr} {env : PySem.Env} (h : plainT e = true) : ∀ whole, isTrue e env whole = (do let v ← whole; standAt e.pos; holding [v] (truthy v)) := by
  intro whole
  cases e with
  | UnaryOp op a p => cases op <;> first | rfl | cases h
  | BoolOp _ _ _ => cases h
  | IfExp _ _ _ _ => cases h
  | Compare _ _ _ _ => cases h
  | _ => rfl
theorem ix_ok {e : Expr} (h : noSlice e = true) : PlainIx e := by
  intro o i
  cases e <;> first | rfl | cases h
theorem meth_ok {o e : Expr} {m : Str} {apos pos : Pos} {es : List Expr} {env : PySem.Env} (hb : noSuper o = true) (hl : (apos.endLine == pos.line) = true) (hs : (es).all noStar = true) (hn : es.length < 30) : ∃ pl, eval (.Call (.Attribute o m apos) es [] pos) env = (do
      let ov ← eval o env
      standAt apos.atName
      let (f, first) ← holding [ov] (getMethod ov m pl)
      callWith pos f first (backTo pos (starEach es env)) (backToKw pos (keywordEach [] env))) := by
  have hf : methodCallForm (es.length + 0) (backTo pos (starEach es env)) (backToKw pos (keywordEach [] env)) = true := by
    unfold methodCallForm
    rw [star_all hs]
    simp [backToKw, keywordEach, hn]
  refine ⟨(do return (← importBound o env).getD true), ?_⟩
  show (do
      let ov ← attributeBase o m env (eval o env)
      standAt apos.atName
      methodCall o m apos pos env ov (es.length + 0) (backTo pos (starEach es env)) (backToKw pos (keywordEach [] env))) = _
  rw [base_ok hb]
  unfold methodCall
  rw [hf]
  simp only [calleeOf, methodCallPos, hl, Bool.not_true, Bool.false_or, if_true, pure_bind]

section
variable {X : Cx} {T : Tb} {RR : RRt}
/-! ### names, constants -/
theorem le_var {Γ : Gam} {i : Nat} {x : Str} {pos : Pos} (hN : X.N[i]? = some x) (hv : Vis X.env.scope x) (hd : (x == ("__debug__" : Str)) = false) (hcd : (x == ("__classdict__" : Str)) = false) : PE X (.Name x pos) (LE T X RR (wpE Γ (.var i))) := by
  refine PE.imp (pe_var hN hv hd hcd) fun τ H Q ⟨F, G, σ, h, Qd, sr, w, k⟩ => ?_
  have w : (match σ.at i with | .val d => Qd d h | _ => False) := w
  cases e : σ.at i with
  | val d =>
    rw [e] at w
    obtain ⟨v, e1, r⟩ := sr.val e
    exact ⟨v, e1, k d h v F H (Same.refl _) sr r w⟩
  | _ => rw [e] at w; exact False.elim w
theorem le_const {w : Env → AH → QE → RE → Prop} {e : Expr} {v : V} {d : D} (he : PE X e (tC v)) (hr : ∀ F, Rep T F d v) (hw : ∀ σ h Q R, w σ h Q R → Q d h) : PE X e (LE T X RR w) :=
  PE.imp he fun τ H Q ⟨F, G, σ, h, Qd, sr, q, k⟩ => k d h v F H (Same.refl _) sr (hr F) (hw _ _ _ _ q)
/-! ### operators -/
theorem le_bin {Γ : Gam} {op : BOp} {a b : E} {ea eb : Expr} {pos : Pos} (hK : X.K = T.K) (ha : PE X ea (LE T X RR (wpE Γ a))) (hb : PE X eb (LE T X RR (wpE Γ b))) : PE X (.BinOp ea (opM op) eb pos) (LE T X RR (wpE Γ (.bin op a b))) :=
  PE.imp (pe_op (op_bin (T := T) hK op) ha hb) fun τ H Q h => le_op (f := fun x y h Q => wBin op x y fun z => Q z h) h
theorem nomark_ok {op : COp} {e : Expr} (h : (∀ es k p, e ≠ .Set es k p)) : behindInMarks (copM op) e = false := by
  cases e with
  | Set es k p => exact absurd rfl (h es k p)
  | _ => cases op <;> rfl
theorem le_cmp {Γ : Gam} {op : COp} {a b : E} {ea eb : Expr} {pos : Pos} (hK : X.K = T.K) (hu : X.A.units + 64 < cLine) (hm : behindInMarks (copM op) eb = false) (ha : PE X ea (LE T X RR (wpE Γ a))) (hb : PE X eb (LE T X RR (wpE Γ b))) : PE X (.Compare ea [copM op] [eb] pos) (LE T X RR (wpE Γ (.cmp op a b))) :=
  PE.imp (pe_cmpR (op_cmp (T := T) hK hu op) ha hb hm) fun τ H Q h => le_op (f := fun x y h Q => wCmp op x y fun k => Q (.bl k) h) h
theorem lt_cmp {Γ : Gam} {op : COp} {a b : E} {ea eb : Expr} {pos : Pos} (hK : X.K = T.K) (hu : X.A.units + 64 < cLine) (hm : behindInMarks (copM op) eb = false) (ha : PE X ea (LE T X RR (wpE Γ a))) (hb : PE X eb (LE T X RR (wpE Γ b))) : PT X (.Compare ea [copM op] [eb] pos) (LT T X RR (wpE Γ (.cmp op a b))) := by
  refine PT.imp (pt_cmpR (op_cmp (T := T) hK hu op) ha hb hm) fun τ H Q ⟨F, G, σ, h, Qd, sr, w, k⟩ => ?_
  have q0 : LE T X RR (fun σ h Q R => wpE Γ a σ h (fun x h => wpE Γ b σ h (fun y h => wCmp op x y fun k => Q (.bl k) h) R) R) τ H (fun x H' => ∃ k, x = .bl k ∧ Q k H') := by
    refine ⟨F, G, σ, h, (fun x h' => match x with | .bl k => Qd k h' | _ => False), sr, w, fun d h' v F' H' s sr' r q => ?_⟩
    cases r with
    | bl => exact ⟨_, rfl, k _ h' F' H' s sr' q⟩
    | _ => exact False.elim q
  exact le_op (f := fun x y h Q => wCmp op x y fun k => Q (.bl k) h) q0
/-- a value as a test -/
theorem lt_val {w : Env → AH → QE → RE → Prop} {e : Expr} (hp : plainT e = true) (he : PE X e (LE T X RR w)) : PT X e (LT T X RR w) := by
  refine PT.imp (pt_val he (true_ok hp)) fun τ H Q ⟨F, G, σ, h, Qd, sr, q, k⟩ => ?_
  refine ⟨F, G, σ, h, _, sr, q, fun d h' v F' H' s sr' r q => ?_⟩
  cases r with
  | bl => exact ⟨_, rfl, k _ h' F' H' s sr' q⟩
  | _ => exact False.elim q
theorem le_neg {Γ : Gam} {a : E} {ea : Expr} {pos : Pos} (ha : PE X ea (LE T X RR (wpE Γ a))) : PE X (.UnaryOp .USub ea pos) (LE T X RR (wpE Γ (.neg a))) := by
  refine PE.imp (pe_un un_neg ha) fun τ H Q ⟨F, G, σ, h, Qd, sr, w, k⟩ => ⟨F, G, σ, h, _, sr, w, fun d h' v F' H' s sr' r q => ?_⟩
  cases r with
  | int => exact ⟨_, rfl, k _ h' _ F' H' s sr' .int q⟩
  | _ => exact False.elim q
theorem le_not {Γ : Gam} {a : E} {ea : Expr} {pos : Pos} (ha : PE X ea (LE T X RR (wpE Γ a))) : PE X (.UnaryOp .Not ea pos) (LE T X RR (wpE Γ (.not a))) := by
  refine PE.imp (pe_not ha) fun τ H Q ⟨F, G, σ, h, Qd, sr, w, k⟩ => ⟨F, G, σ, h, _, sr, w, fun d h' v F' H' s sr' r q => ?_⟩
  cases r with
  | bl => exact ⟨_, rfl, k _ h' _ F' H' s sr' .bl q⟩
  | _ => exact False.elim q
theorem lt_not {Γ : Gam} {a : E} {ea : Expr} {pos : Pos} (ha : PT X ea (LT T X RR (wpE Γ a))) : PT X (.UnaryOp .Not ea pos) (LT T X RR (wpE Γ (.not a))) := by
  refine PT.imp (pt_not ha) fun τ H Q ⟨F, G, σ, h, Qd, sr, w, k⟩ => ?_
  refine ⟨F, G, σ, h, fun b h' => Qd (!b) h', sr, ?_, fun b h' F' H' s sr' q => k _ h' F' H' s sr' q⟩
  have w : wpE Γ a σ h (fun x h => match x with | .bl b => (match D.bl (!b) with | .bl k => Qd k h | _ => False) | _ => False) (fun x h' => RR.R x σ h') := w
  exact w
theorem le_and1 {Γ : Gam} {a : E} {ea : Expr} {pos : Pos} (ha : PE X ea (LE T X RR (wpE Γ a))) : PE X (.BoolOp .And [ea] pos) (LE T X RR (wpAnd Γ (.cons a .nil))) := pe_one ha
theorem le_and {Γ : Gam} {a b : E} {r : Es} {ea eb : Expr} {er : List Expr} {pos : Pos} (ha : PE X ea (LE T X RR (wpE Γ a))) (hr : PE X (.BoolOp .And (eb :: er) pos) (LE T X RR (wpAnd Γ (.cons b r)))) : PE X (.BoolOp .And (ea :: eb :: er) pos) (LE T X RR (wpAnd Γ (.cons a (.cons b r)))) := by
  refine PE.imp (pe_and ha hr) fun τ H Q ⟨F, G, σ, h, Qd, sr, w, k⟩ => ⟨F, G, σ, h, _, sr, w, fun d h' v F' H' s sr' r q => ?_⟩
  cases r with
  | bl =>
    rename_i b0
    refine ⟨b0, rfl, ?_⟩
    cases b0 with
    | true => exact ⟨F', G, σ, h', Qd, sr', q, fun d h2 v F2 H2 s2 => k d h2 v F2 H2 (s.trans s2)⟩
    | false => exact k _ h' _ F' H' s sr' .bl q
  | _ => exact False.elim q
theorem le_or1 {Γ : Gam} {a : E} {ea : Expr} {pos : Pos} (ha : PE X ea (LE T X RR (wpE Γ a))) : PE X (.BoolOp .Or [ea] pos) (LE T X RR (wpOr Γ (.cons a .nil))) := pe_one ha
theorem le_or {Γ : Gam} {a b : E} {r : Es} {ea eb : Expr} {er : List Expr} {pos : Pos} (ha : PE X ea (LE T X RR (wpE Γ a))) (hr : PE X (.BoolOp .Or (eb :: er) pos) (LE T X RR (wpOr Γ (.cons b r)))) : PE X (.BoolOp .Or (ea :: eb :: er) pos) (LE T X RR (wpOr Γ (.cons a (.cons b r)))) := by
  refine PE.imp (pe_or ha hr) fun τ H Q ⟨F, G, σ, h, Qd, sr, w, k⟩ => ⟨F, G, σ, h, _, sr, w, fun d h' v F' H' s sr' r q => ?_⟩
  cases r with
  | bl =>
    rename_i b0
    refine ⟨b0, rfl, ?_⟩
    cases b0 with
    | true => exact k _ h' _ F' H' s sr' .bl q
    | false => exact ⟨F', G, σ, h', Qd, sr', q, fun d h2 v F2 H2 s2 => k d h2 v F2 H2 (s.trans s2)⟩
  | _ => exact False.elim q
theorem lw_and1 {Γ : Gam} {a : E} {ea : Expr} {pos : Pos} (ha : PT X ea (LT T X RR (wpE Γ a))) : PW X (.BoolOp .And [ea] pos) (LT T X RR (wpAnd Γ (.cons a .nil))) := pw_and1 ha
theorem lw_and {Γ : Gam} {a b : E} {r : Es} {ea eb : Expr} {er : List Expr} {pos : Pos} (ha : PT X ea (LT T X RR (wpE Γ a))) (hr : PW X (.BoolOp .And (eb :: er) pos) (LT T X RR (wpAnd Γ (.cons b r)))) : PW X (.BoolOp .And (ea :: eb :: er) pos) (LT T X RR (wpAnd Γ (.cons a (.cons b r)))) := by
  refine PW.imp (pw_and ha hr) fun τ H Q ⟨F, G, σ, h, Qd, sr, w, k⟩ => ?_
  refine ⟨F, G, σ, h, fun b0 h' => if b0 = true then wpAnd Γ (.cons b r) σ h' (fun x h' => match x with | .bl k => Qd k h' | _ => False) (fun x h' => RR.R x σ h') else Qd false h', sr, w, fun b0 h' F' H' s sr' q => ?_⟩
  cases b0 with
  | true => exact ⟨F', G, σ, h', Qd, sr', q, fun d h2 F2 H2 s2 => k d h2 F2 H2 (s.trans s2)⟩
  | false => exact k _ h' F' H' s sr' q
theorem lw_or1 {Γ : Gam} {a : E} {ea : Expr} {pos : Pos} (ha : PT X ea (LT T X RR (wpE Γ a))) : PW X (.BoolOp .Or [ea] pos) (LT T X RR (wpOr Γ (.cons a .nil))) := pw_or1 ha
theorem lw_or {Γ : Gam} {a b : E} {r : Es} {ea eb : Expr} {er : List Expr} {pos : Pos} (ha : PT X ea (LT T X RR (wpE Γ a))) (hr : PW X (.BoolOp .Or (eb :: er) pos) (LT T X RR (wpOr Γ (.cons b r)))) : PW X (.BoolOp .Or (ea :: eb :: er) pos) (LT T X RR (wpOr Γ (.cons a (.cons b r)))) := by
  refine PW.imp (pw_or ha hr) fun τ H Q ⟨F, G, σ, h, Qd, sr, w, k⟩ => ?_
  refine ⟨F, G, σ, h, fun b0 h' => if b0 = true then Qd true h' else wpOr Γ (.cons b r) σ h' (fun x h' => match x with | .bl k => Qd k h' | _ => False) (fun x h' => RR.R x σ h'), sr, w, fun b0 h' F' H' s sr' q => ?_⟩
  cases b0 with
  | true => exact k _ h' F' H' s sr' q
  | false => exact ⟨F', G, σ, h', Qd, sr', q, fun d h2 F2 H2 s2 => k d h2 F2 H2 (s.trans s2)⟩
theorem le_ite {Γ : Gam} {c a b : E} {ec ea eb : Expr} {pos : Pos} (hc : PT X ec (LT T X RR (wpE Γ c))) (ha : PE X ea (LE T X RR (wpE Γ a))) (hb : PE X eb (LE T X RR (wpE Γ b))) : PE X (.IfExp ec ea eb pos) (LE T X RR (wpE Γ (.ite c a b))) := by
  refine PE.imp (pe_ifExp hc ha hb) fun τ H Q ⟨F, G, σ, h, Qd, sr, w, k⟩ => ?_
  refine ⟨F, G, σ, h, fun b0 h' => if b0 = true then wpE Γ a σ h' Qd (fun x h' => RR.R x σ h') else wpE Γ b σ h' Qd (fun x h' => RR.R x σ h'), sr, w, fun b0 h' F' H' s sr' q => ?_⟩
  cases b0 with
  | true => exact ⟨F', G, σ, h', Qd, sr', q, fun d h2 v F2 H2 s2 => k d h2 v F2 H2 (s.trans s2)⟩
  | false => exact ⟨F', G, σ, h', Qd, sr', q, fun d h2 v F2 H2 s2 => k d h2 v F2 H2 (s.trans s2)⟩
theorem le_chain0 {Γ : Gam} {o1 o2 : COp} {a b c : E} {τ : L2.St} {H : Hp} {Q : VK} (h : LE T X RR (wpE Γ (.chain o1 o2 a b c)) τ H Q) : tChain (rCmp T X o1) (rCmp T X o2) (LE T X RR (wpE Γ a)) (LE T X RR (wpE Γ b)) (LE T X RR (wpE Γ c)) τ H Q := by
  obtain ⟨F, G, σ, h, Qd, sr, w, k⟩ := h
  refine ⟨F, G, σ, h, _, sr, w, fun dx h1 vx F1 H1 s1 sr1 r1 w1 => ⟨F1, G, σ, h1, _, sr1, w1, fun dy h2 vy F2 H2 s2 sr2 r2 w2 => ?_⟩⟩
  refine ⟨F2, G, σ, h2, τ, dx, dy, fun z h3 => match z with | .bl k => if k = true then wpE Γ c σ h3 (fun z h => wCmp o2 dy z fun k => Qd (.bl k) h) (fun x h' => RR.R x σ h') else Qd (.bl false) h3 | _ => False, sr2.s, r1.mono s2, r2, w2, fun z h' v F' H' s3 sr3' r3 q => ?_⟩
  have sr3 : SR T (RR.lk X) F' G σ h' τ H' := ⟨sr3', sr2.lF.trans s3, sr2.lG⟩
  cases r3 with
  | bl =>
    rename_i b0
    refine ⟨b0, rfl, ?_⟩
    cases b0 with
    | true => exact ⟨F', G, σ, h', _, sr3, q, fun dz h4 vz F4 H4 s4 sr4 r4 w4 => ⟨F4, G, σ, h4, τ, dy, dz, Qd, sr4.s, r2.mono (s3.trans s4), r4, w4, fun z h5 v F5 H5 s5 sr5 r5 q5 => k z h5 v F5 H5 (s1.trans (s2.trans (s3.trans (s4.trans s5)))) ⟨sr5, sr4.lF.trans s5, sr4.lG⟩ r5 q5⟩⟩
    | false => exact k _ h' _ F' H' (s1.trans (s2.trans s3)) sr3 .bl q
  | _ => exact False.elim q
theorem le_chain {Γ : Gam} {o1 o2 : COp} {a b c : E} {ea eb ec : Expr} {pos : Pos} (hK : X.K = T.K) (hu : X.A.units + 64 < cLine) (hm : behindInMarks (copM o2) ec = false)
    (ha : PE X ea (LE T X RR (wpE Γ a))) (hb : PE X eb (LE T X RR (wpE Γ b))) (hc : PE X ec (LE T X RR (wpE Γ c))) : PE X (.Compare ea [copM o1, copM o2] [eb, ec] pos) (LE T X RR (wpE Γ (.chain o1 o2 a b c))) :=
  PE.imp (pe_chain (op_cmp (T := T) hK hu o1) (op_cmp (T := T) hK hu o2) ha hb hc hm) fun τ H Q h => le_chain0 h
theorem lt_chain {Γ : Gam} {o1 o2 : COp} {a b c : E} {ea eb ec : Expr} {pos : Pos} (hK : X.K = T.K) (hu : X.A.units + 64 < cLine) (hm : behindInMarks (copM o2) ec = false)
    (ha : PE X ea (LE T X RR (wpE Γ a))) (hb : PE X eb (LE T X RR (wpE Γ b))) (hc : PE X ec (LE T X RR (wpE Γ c))) : PT X (.Compare ea [copM o1, copM o2] [eb, ec] pos) (LT T X RR (wpE Γ (.chain o1 o2 a b c))) := by
  refine PT.imp (pt_chain (op_cmp (T := T) hK hu o1) (op_cmp (T := T) hK hu o2) ha hb hc hm) fun τ H Q ⟨F, G, σ, h, Qd, sr, w, k⟩ => ?_
  refine le_chain0 ⟨F, G, σ, h, (fun x h' => match x with | .bl k => Qd k h' | _ => False), sr, w, fun d h' v F' H' s sr' r q => ?_⟩
  cases r with
  | bl => exact ⟨_, rfl, k _ h' F' H' s sr' q⟩
  | _ => exact False.elim q
end
end FF

namespace FF
open PySem PySem.Spec PyProof.Rows L2

/-- a def's promise, from its specification -/
def prom (T : Tb) (sp : Spec) : Sp := fun vs H Q E => ∃ F G h ds Qd Rd, Reps T F ds vs ∧ SH T F G h H ∧ sp ds h Qd Rd ∧
  (∀ d h' v F' H', Same F F' → SH T F' G h' H' → Rep T F' d v → Qd d h' → Q v H') ∧
  (∀ x h' F' H' dd v, Same F F' → SH T F' G h' H' → F' dd = some (.xd [(T.xf x.c, v)]) → Rep T F' x.v v → Rd x h' → E (.ref (T.cA x.c)) (some dd) H')
/-- what is wanted of an exception, in the layer's words -/
def WR (T : Tb) (X : Cx) (RR : RRt) : WX := fun cls d τ H => ∃ F G σ h x dd v, cls = .ref (T.cA x.c) ∧ d = some dd ∧ SR T (RR.lk X) F G σ h τ H ∧ F dd = some (.xd [(T.xf x.c, v)]) ∧ Rep T F x.v v ∧ RR.R x σ h
/-- a def that keeps its specification -/
structure Good (P : Program) (w : World) (T : Tb) (mg : Str → Option Value) (base : Heap) (k : Nat) (n : Nat) (sp : Spec) : Prop where
  ex : ∃ (fd : FuncData) (ps : List Str), FnOk P w T.K mg base (L2.CX P w) k (T.fA n) fd ps (prom T sp) ∧ Binds T.K fd ps []
  kp : PySem.W.keepIn T.K (.ref (T.fA n)) = true
theorem Good.mono {P : Program} {w : World} {T : Tb} {mg : Str → Option Value} {base : Heap} {j k n : Nat} {sp : Spec} (g : Good P w T mg base j n sp) (h : j ≤ k) : Good P w T mg base k n sp := by
  obtain ⟨⟨fd, ps, F, b⟩, kp⟩ := g
  exact ⟨⟨fd, ps, F.mono h, b⟩, kp⟩

section
variable {X : Cx} {T : Tb} {RR : RRt}
/-! ### displays -/
theorem la_nil {Γ : Gam} : PA X [] (LA T X RR 0 (wpEs Γ .nil)) :=
  PA.imp pa_nil fun τ H Q ⟨F, G, σ, h, Qd, sr, w, k⟩ => k [] h [] F H rfl (Same.refl _) sr .nil w
theorem la_cons {Γ : Gam} {n : Nat} {a : E} {r : Es} {e : Expr} {es : List Expr} (hs : noStar e = true) (ha : PE X e (LE T X RR (wpE Γ a))) (hr : PA X es (LA T X RR n (wpEs Γ r))) : PA X (e :: es) (LA T X RR (n + 1) (wpEs Γ (.cons a r))) :=
  PA.imp (pa_cons ha hr (star_cons hs)) fun τ H Q ⟨F, G, σ, h, Qd, sr, w, k⟩ => ⟨F, G, σ, h, _, sr, w, fun d h1 v F1 H1 s1 sr1 r1 w1 =>
    ⟨F1, G, σ, h1, _, sr1, w1, fun ds h2 vs F2 H2 l2 s2 sr2 r2 w2 => k _ h2 _ F2 H2 (congrArg (· + 1) l2) (s1.trans s2) sr2 (.cons (r1.mono s2) r2) w2⟩⟩
theorem le_tup {Γ : Gam} {n : Nat} {es : Es} {l : List Expr} {x1 : Nat} {pos : Pos} (h : PA X l (LA T X RR n (wpEs Γ es))) : PE X (.Tuple l x1 pos) (LE T X RR (wpE Γ (.tup es))) :=
  PE.imp (pe_tup h) fun τ H Q ⟨F, G, σ, h, Qd, sr, w, k⟩ => ⟨F, G, σ, h, _, sr, w, fun ds h1 vs F1 H1 _ s1 sr1 r1 ⟨w1, w2⟩ => ⟨by rw [← r1.length, ← SL_eq]; exact w1, fun p hp => by
    have g := Grow.new (o := .tup vs) sr1.sh.sF hp
    exact k _ h1 _ _ _ (s1.trans g.f) (sr1.grow g) (.tup (SqT.of upd_same) (r1.mono g.f)) w2⟩⟩
theorem le_lst {Γ : Gam} {n : Nat} {es : Es} {l : List Expr} {pos : Pos} (h : PA X l (LA T X RR n (wpEs Γ es))) : PE X (.List l pos) (LE T X RR (wpE Γ (.lst es))) :=
  PE.imp (pe_lst h) fun τ H Q ⟨F, G, σ, h, Qd, sr, w, k⟩ => ⟨F, G, σ, h, _, sr, w, fun ds h1 vs F1 H1 _ s1 sr1 r1 ⟨w1, w2⟩ => ⟨by rw [← r1.length, ← SL_eq]; exact w1, fun p hp => by
    have g := Grow.new (o := .lst vs) sr1.sh.sF hp
    exact k _ h1 _ _ _ (s1.trans g.f) (sr1.grow g) (.lst (SqL.of upd_same) (r1.mono g.f)) w2⟩⟩
theorem hfree {F G : Hp} {h : AH} {H : Hp} (sh : SH T F G h H) {p : Addr} (n : H p = none) : h p = none := by
  cases e : h p with
  | none => rfl
  | some c => obtain ⟨o, ho⟩ := (sh.cell p c e).2.2.there; rw [n] at ho; cases ho
theorem le_refl {Γ : Gam} {n : Nat} {es : Es} {l : List Expr} {pos : Pos} (h : PA X l (LA T X RR n (wpEs Γ es))) : PE X (.List l pos) (LE T X RR (wpE Γ (.refl es))) :=
  PE.imp (pe_lst h) fun τ H Q ⟨F, G, σ, h, Qd, sr, w, k⟩ => ⟨F, G, σ, h, _, sr, w, fun ds h1 vs F1 H1 _ s1 sr1 r1 ⟨w1, w2⟩ => ⟨by rw [← r1.length, ← SL_eq]; exact w1, fun p hp =>
    k _ _ _ F1 _ s1 (sr1.newcell (c := .lst ds) hp ⟨vs, upd_same, r1⟩) .ref (w2 p (hfree sr1.sh hp))⟩⟩

/-! ### calls -/
/-- from a call's wants to the callee's promise -/
theorem prom_of {sp : Spec} {F G : Hp} {σ : Env} {h : AH} {τ : L2.St} {H : Hp} {ds : List D} {vs : List V} {Qd : QE} {Q : VK} (sr : SR T (RR.lk X) F G σ h τ H) (r : Reps T F ds vs) (w : sp ds h Qd (fun x h' => RR.R x σ h'))
    (k : ∀ d h' v F' H', Same F F' → SR T (RR.lk X) F' G σ h' τ H' → Rep T F' d v → Qd d h' → Q v H') : prom T sp vs H Q (WE (WR T X RR) τ) := by
  obtain ⟨G', sh, back⟩ := sr.call
  refine ⟨F, G', h, ds, Qd, _, r, sh, w, fun d h' v F' H' s sh' rv q => k d h' v F' H' s (back F' h' H' s sh') rv q, fun x h' F' H' dd v s sh' e rv q => ?_⟩
  exact ⟨F', G, σ, h', x, dd, v, rfl, rfl, back F' h' H' s sh', e, rv, q⟩
theorem le_call {Γ : Gam} {k n m : Nat} {es : Es} {e : Expr} {l : List Expr} {x : Str} {p pos : Pos} (hK : X.K = T.K) (g : Good X.prog X.w T X.mg X.base k n (Γ.fn n)) (hr : Room k X.A) (hg : Gl X x) (hm : X.mg x = some (.ref (T.fA n)))
    (tk : Takes X (WR T X RR)) (hs : (e :: l).all noStar = true) (hd : (x == ("__debug__" : Str)) = false) (ha : PA X (e :: l) (LA T X RR m (wpEs Γ es))) : PE X (.Call (.Name x p) (e :: l) [] pos) (LE T X RR (wpE Γ (.call n es []))) := by
  obtain ⟨⟨fd, ps, F, b⟩, kp⟩ := g
  have F : FnOk X.prog X.w X.K X.mg X.base (L2.CX X.prog X.w) k (T.fA n) fd ps (prom T (Γ.fn n)) := hK ▸ F
  have b : Binds X.K fd ps [] := hK ▸ b
  have kp : PySem.W.keepIn X.K (.ref (T.fA n)) = true := hK ▸ kp
  have hs' : noStar e = true ∧ l.all noStar = true := by rw [List.all_cons, Bool.and_eq_true] at hs; exact hs
  refine PE.imp (pe_callSD F hr hg hm kp b .nil (fun τ => passAt tk τ) ha hd (star_cons hs'.1) (star_any hs'.2)) fun τ H Q ⟨F, G, σ, h, Qd, sr, w, k⟩ => ?_
  exact ⟨F, G, σ, h, _, sr, w, fun ds h1 vs F1 H1 _ s1 sr1 r1 w1 => by
      rw [List.append_nil] at w1
      rw [List.append_nil]
      exact prom_of sr1 r1 w1 fun d h' v F' H' s => k d h' v F' H' (s1.trans s)⟩
theorem le_call0 {Γ : Gam} {k n : Nat} {x : Str} {p pos : Pos} (hK : X.K = T.K) (g : Good X.prog X.w T X.mg X.base k n (Γ.fn n)) (hr : Room k X.A) (hg : Gl X x) (hm : X.mg x = some (.ref (T.fA n)))
    (tk : Takes X (WR T X RR)) (hd : (x == ("__debug__" : Str)) = false) : PE X (.Call (.Name x p) [] [] pos) (LE T X RR (wpE Γ (.call n .nil []))) := by
  obtain ⟨⟨fd, ps, F, b⟩, kp⟩ := g
  have F : FnOk X.prog X.w X.K X.mg X.base (L2.CX X.prog X.w) k (T.fA n) fd ps (prom T (Γ.fn n)) := hK ▸ F
  have b : Binds X.K fd ps [] := hK ▸ b
  have kp : PySem.W.keepIn X.K (.ref (T.fA n)) = true := hK ▸ kp
  refine ⟨fun pins s τ H Q I ⟨F0, G, σ, h, Qd, sr, w, k⟩ => ?_⟩
  refine wpAny_Call_Name_kw (ld_glob I hg hm ?_ hd)
  refine PySem.W.callWith_K0 I.kIn kp (run_fnSD (us := []) (vs := []) (E := WE (WR T X RR)) F hr b .nil (passAt tk τ) I .nil ?_)
  exact prom_of sr (.nil) w k
/-- the defaults -/
structure GoodD (P : Program) (w : World) (T : Tb) (mg : Str → Option Value) (base : Heap) (k : Nat) (n : Nat) (dv : List D) (sp : Spec) : Prop where
  ex : ∃ (fd : FuncData) (ps : List Str) (dvs : List V) (us : List Value), FnOk P w T.K mg base (L2.CX P w) k (T.fA n) fd ps (prom T sp) ∧ Binds T.K fd ps us ∧ Vals dvs us ∧ ∀ F, Reps T F dv dvs
  kp : PySem.W.keepIn T.K (.ref (T.fA n)) = true
theorem le_callD {Γ : Gam} {k n m : Nat} {dv : List D} {es : Es} {e : Expr} {l : List Expr} {x : Str} {p pos : Pos} (hK : X.K = T.K) (g : GoodD X.prog X.w T X.mg X.base k n dv (Γ.fn n)) (hr : Room k X.A) (hg : Gl X x) (hm : X.mg x = some (.ref (T.fA n)))
    (tk : Takes X (WR T X RR)) (hs : (e :: l).all noStar = true) (hd : (x == ("__debug__" : Str)) = false) (ha : PA X (e :: l) (LA T X RR m (wpEs Γ es))) : PE X (.Call (.Name x p) (e :: l) [] pos) (LE T X RR (wpE Γ (.call n es dv))) := by
  obtain ⟨⟨fd, ps, dvs, us, F, b, rv, rd⟩, kp⟩ := g
  have F : FnOk X.prog X.w X.K X.mg X.base (L2.CX X.prog X.w) k (T.fA n) fd ps (prom T (Γ.fn n)) := hK ▸ F
  have b : Binds X.K fd ps us := hK ▸ b
  have kp : PySem.W.keepIn X.K (.ref (T.fA n)) = true := hK ▸ kp
  have hs' : noStar e = true ∧ l.all noStar = true := by rw [List.all_cons, Bool.and_eq_true] at hs; exact hs
  refine PE.imp (pe_callSD F hr hg hm kp b rv (fun τ => passAt tk τ) ha hd (star_cons hs'.1) (star_any hs'.2)) fun τ H Q ⟨F, G, σ, h, Qd, sr, w, k⟩ => ?_
  exact ⟨F, G, σ, h, _, sr, w, fun ds h1 vs F1 H1 _ s1 sr1 r1 w1 => prom_of sr1 (r1.append (rd F1)) w1 fun d h' v F' H' s => k d h' v F' H' (s1.trans s)⟩
/-- a call with keywords: how the arguments go to the parameters -/
structure GoodK (P : Program) (w : World) (T : Tb) (mg : Str → Option Value) (base : Heap) (k : Nat) (n : Nat) (m : Nat) (ks : List Str) (perm : List Nat) (sp : Spec) : Prop where
  ex : ∃ (fd : FuncData) (ps : List Str), FnOk P w T.K mg base (L2.CX P w) k (T.fA n) fd ps (prom T sp) ∧
    ∀ (s : Shared) (us ws : List Value), T.K.In s.heap → us.length = m → ws.length = ks.length → BindsTo s fd ⟨us, ks.zip ws⟩ (ps.zip (perm.filterMap ((us ++ ws)[·]?)))
  kp : PySem.W.keepIn T.K (.ref (T.fA n)) = true
theorem vals_perm {vs : List V} {us : List Value} (r : Vals vs us) : ∀ (p : List Nat), Vals (p.filterMap (vs[·]?)) (p.filterMap (us[·]?))
  | [] => .nil
  | i :: p => by
    rw [List.filterMap_cons, List.filterMap_cons]
    cases e : vs[i]? with
    | none => rw [r.none_of e]; exact vals_perm r p
    | some v =>
      obtain ⟨u, hu, ru⟩ := r.get e
      rw [hu]
      exact .cons ru (vals_perm r p)
theorem reps_perm {F : Hp} {ds : List D} {vs : List V} (r : Reps T F ds vs) : ∀ (p : List Nat), Reps T F (permD p ds) (p.filterMap (vs[·]?))
  | [] => .nil
  | i :: p => by
    unfold permD
    rw [List.filterMap_cons, List.filterMap_cons]
    cases e : ds[i]? with
    | none =>
      have : vs[i]? = none := List.getElem?_eq_none_iff.mpr (by rw [← r.length]; exact List.getElem?_eq_none_iff.mp e)
      rw [this]
      exact reps_perm r p
    | some v =>
      obtain ⟨u, hu, ru⟩ := r.get e
      rw [hu]
      exact .cons ru (reps_perm r p)
theorem run_fnKD {k m : Nat} {f : Addr} {fd : FuncData} {ps ks : List Str} {perm : List Nat} {sp : Sp} {E : L2.St → XK} {pins : List (Addr × Obj)} {σ : L2.St} {H : Hp} {s : Shared} {Q : VK} {us ws : List Value} {vs zs : List V}
    (F : FnOk X.prog X.w X.K X.mg X.base (L2.CX X.prog X.w) k f fd ps sp) (hr : Room k X.A)
    (hb : ∀ (s : Shared) (us ws : List Value), X.K.In s.heap → us.length = m → ws.length = ks.length → BindsTo s fd ⟨us, ks.zip ws⟩ (ps.zip (perm.filterMap ((us ++ ws)[·]?))))
    (hx : PassesAt (L2.CX X.prog X.w) X σ (E σ)) (I : Inv X pins σ H s) (r : Vals vs us) (rz : Vals zs ws) (l1 : vs.length = m) (l2 : zs.length = ks.length) (h : sp (perm.filterMap ((vs ++ zs)[·]?)) H Q (E σ)) : wpAny (model X.prog X.w) X.A (call (.ref f) us (ks.zip ws)) (EP X pins σ Q) X.xe s := by
  have r2 := vals_perm (r.append rz) perm
  refine wpAny_call (codeAny_mono (F.run X.A X.stack s H ⟨us, ks.zip ws⟩ _ _ Q (E σ) hr I.env0 (hb s us ws I.kIn (r.length.symm.trans l1) (rz.length.symm.trans l2)) r2 h) fun r s' hq => ?_)
  cases r with
  | error e => exact hx pins H s e s' I hq
  | ok fl =>
    cases fl with
    | ret u => exact I.after hq
    | next => exact False.elim hq
    | brk => exact False.elim hq
    | cont => exact False.elim hq
/-- the keywords' values -/
theorem lk_nil {Γ : Gam} : PK X [] (LA T X RR 0 (wpEs Γ .nil)) :=
  ⟨fun pos pins s τ H Q I ⟨F, G, σ, h, Qd, sr, w, k⟩ => pk_nil.run pos pins s τ H Q I (k [] h [] F H rfl (Same.refl _) sr .nil w)⟩
theorem lk_cons {Γ : Gam} {n : Nat} {a : E} {r : Es} {e : Expr} {kws : List Keyword} {nm : Option Str} {kpos : Pos} (ha : PE X e (LE T X RR (wpE Γ a))) (hr : PK X kws (LA T X RR n (wpEs Γ r))) : PK X (⟨nm, e, kpos⟩ :: kws) (LA T X RR (n + 1) (wpEs Γ (.cons a r))) :=
  ⟨fun pos pins s τ H Q I ⟨F, G, σ, h, Qd, sr, w, k⟩ => (pk_cons ha hr).run pos pins s τ H Q I ⟨F, G, σ, h, _, sr, w, fun d h1 v F1 H1 s1 sr1 r1 w1 =>
    ⟨F1, G, σ, h1, _, sr1, w1, fun ds h2 vs F2 H2 l2 s2 sr2 r2 w2 => k _ h2 _ F2 H2 (congrArg (· + 1) l2) (s1.trans s2) sr2 (.cons (r1.mono s2) r2) w2⟩⟩⟩
theorem kw_all {pos : Pos} {env : PySem.Env} {ks : List Str} : ∀ {kws : List Keyword}, kws.map (·.arg) = ks.map some → (backToKw pos (keywordEach kws env)).all (·.1.isSome) = true ∧ (backToKw pos (keywordEach kws env)).filterMap (·.1) = ks ∧ (backToKw pos (keywordEach kws env)).any (·.1.isNone) = false := by
  induction ks with
  | nil =>
    intro kws h
    have : kws = [] := by simpa using h
    subst this
    exact ⟨rfl, rfl, rfl⟩
  | cons x ks ih =>
    intro kws h
    cases kws with
    | nil => simp at h
    | cons q kws =>
      obtain ⟨nm, e, p⟩ := q
      simp only [List.map_cons, List.cons.injEq] at h
      obtain ⟨h1, h2⟩ := h
      obtain ⟨a, b, c⟩ := ih h2
      have h1 : nm = some x := h1
      subst h1
      refine ⟨?_, ?_, ?_⟩
      · simp only [keywordEach, backToKw, List.map_cons, List.all_cons, Option.isSome_some, Bool.true_and]; exact a
      · simp only [keywordEach, backToKw, List.map_cons, List.filterMap_cons]; exact congrArg (x :: ·) b
      · simp only [keywordEach, backToKw, List.map_cons, List.any_cons, Option.isNone_some, Bool.false_or]; exact c
theorem le_callK {Γ : Gam} {k n m : Nat} {es kes : Es} {e : Expr} {l : List Expr} {kws : List Keyword} {ks : List Str} {perm : List Nat} {x : Str} {p pos : Pos} (hK : X.K = T.K) (g : GoodK X.prog X.w T X.mg X.base k n m ks perm (Γ.fn n)) (hr : Room k X.A) (hg : Gl X x) (hm : X.mg x = some (.ref (T.fA n)))
    (tk : Takes X (WR T X RR)) (hs : (e :: l).all noStar = true) (hd : (x == ("__debug__" : Str)) = false) (hks : kws.map (·.arg) = ks.map some) (ha : PA X (e :: l) (LA T X RR m (wpEs Γ es))) (hkw : PK X kws (LA T X RR ks.length (wpEs Γ kes))) : PE X (.Call (.Name x p) (e :: l) kws pos) (LE T X RR (wpE Γ (.callk n es kes perm))) := by
  obtain ⟨⟨fd, ps, F, b⟩, kp⟩ := g
  have F : FnOk X.prog X.w X.K X.mg X.base (L2.CX X.prog X.w) k (T.fA n) fd ps (prom T (Γ.fn n)) := hK ▸ F
  have b : ∀ (s : Shared) (us ws : List Value), X.K.In s.heap → us.length = m → ws.length = ks.length → BindsTo s fd ⟨us, ks.zip ws⟩ (ps.zip (perm.filterMap ((us ++ ws)[·]?))) := hK ▸ b
  have kp : PySem.W.keepIn X.K (.ref (T.fA n)) = true := hK ▸ kp
  have hs' : noStar e = true ∧ l.all noStar = true := by rw [List.all_cons, Bool.and_eq_true] at hs; exact hs
  obtain ⟨a1, a2, a3⟩ := kw_all (pos := pos) (env := X.env) hks
  refine ⟨fun pins s τ H Q I ⟨F0, G, σ, h, Qd, sr, w, kk⟩ => ?_⟩
  refine wpAny_Call_Name_kw (ld_glob I hg hm ?_ hd)
  have hpl : ((backTo pos (starEach (e :: l) X.env)).any (·.1) || (backToKw pos (keywordEach kws X.env)).any (·.1.isNone)) = false := by
    rw [star_any hs, a3]; rfl
  refine PySem.W.callWith_KW (h₀ := X.base) I.ok.mod.kin kp a1 (thn (ha.run pos pins s τ H (fun vs H1 => vs.length = m ∧ LA T X RR ks.length (wpEs Γ kes) τ H1 fun zs H2 => zs.length = ks.length ∧ prom T (Γ.fn n) (perm.filterMap ((vs ++ zs)[·]?)) H2 Q (WE (WR T X RR) τ)) I ?_) fun us s1 ⟨vs, H1, I1, r, l1, q⟩ => ?_) hpl (star_cons hs'.1)
  · refine ⟨F0, G, σ, h, _, sr, w, fun ds h1 vs F1 H1 l1 s1 sr1 r1 w1 => ⟨by rw [← r1.length]; exact l1, F1, G, σ, h1, _, sr1, w1, fun zs h2 us F2 H2 l2 s2 sr2 r2 w2 => ⟨by rw [← r2.length]; exact l2, ?_⟩⟩⟩
    exact prom_of sr2 (reps_perm ((r1.mono s2).append r2) perm) w2 fun d h' v F' H' s => kk d h' v F' H' (s1.trans (s2.trans s))
  · refine thn (hkw.run pos pins s1 τ H1 _ I1 q) fun ws s2 ⟨zs, H2, I2, rz, l2, q2⟩ => ⟨I2.kIn, ?_⟩
    rw [a2]
    exact run_fnKD F hr b (passAt tk τ) I2 r rz l1 l2 q2
theorem le_callK0 {Γ : Gam} {k n : Nat} {kes : Es} {kws : List Keyword} {ks : List Str} {perm : List Nat} {x : Str} {p pos : Pos} (hK : X.K = T.K) (g : GoodK X.prog X.w T X.mg X.base k n 0 ks perm (Γ.fn n)) (hr : Room k X.A) (hg : Gl X x) (hm : X.mg x = some (.ref (T.fA n)))
    (tk : Takes X (WR T X RR)) (hd : (x == ("__debug__" : Str)) = false) (hks : kws.map (·.arg) = ks.map some) (hkw : PK X kws (LA T X RR ks.length (wpEs Γ kes))) : PE X (.Call (.Name x p) [] kws pos) (LE T X RR (wpE Γ (.callk n .nil kes perm))) := by
  obtain ⟨⟨fd, ps, F, b⟩, kp⟩ := g
  have F : FnOk X.prog X.w X.K X.mg X.base (L2.CX X.prog X.w) k (T.fA n) fd ps (prom T (Γ.fn n)) := hK ▸ F
  have b : ∀ (s : Shared) (us ws : List Value), X.K.In s.heap → us.length = 0 → ws.length = ks.length → BindsTo s fd ⟨us, ks.zip ws⟩ (ps.zip (perm.filterMap ((us ++ ws)[·]?))) := hK ▸ b
  have kp : PySem.W.keepIn X.K (.ref (T.fA n)) = true := hK ▸ kp
  obtain ⟨a1, a2, a3⟩ := kw_all (pos := pos) (env := X.env) hks
  refine ⟨fun pins s τ H Q I ⟨F0, G, σ, h, Qd, sr, w, kk⟩ => ?_⟩
  refine wpAny_Call_Name_kw (ld_glob I hg hm ?_ hd)
  have hpl : ((backTo pos (starEach [] X.env)).any (·.1) || (backToKw pos (keywordEach kws X.env)).any (·.1.isNone)) = false := by
    rw [a3]; rfl
  refine PySem.W.callWith_KW0 (h₀ := X.base) I.ok.mod.kin kp a1 (thn (hkw.run pos pins s τ H (fun zs H2 => zs.length = ks.length ∧ prom T (Γ.fn n) (perm.filterMap ((([] : List V) ++ zs)[·]?)) H2 Q (WE (WR T X RR) τ)) I ?_) fun ws s2 ⟨zs, H2, I2, rz, l2, q2⟩ => ⟨I2.kIn, ?_⟩) hpl
  · refine ⟨F0, G, σ, h, _, sr, w, fun zs h2 us F2 H2 l2 s2 sr2 r2 w2 => ⟨by rw [← r2.length]; exact l2, ?_⟩⟩
    exact prom_of sr2 (reps_perm (Reps.append .nil r2) perm) w2 fun d h' v F' H' s => kk d h' v F' H' (s2.trans s)
  · rw [a2]
    exact run_fnKD (us := []) (vs := []) F hr b (passAt tk τ) I2 .nil rz rfl l2 q2
/-- a local that holds a def -/
theorem le_callv {Γ : Gam} {k i m : Nat} {es : Es} {e : Expr} {l : List Expr} {x : Str} {p pos : Pos} (hK : X.K = T.K) (g : ∀ n, n < 1000 → (∃ ds h Q R, Γ.fn n ds h Q R) → Good X.prog X.w T X.mg X.base k n (Γ.fn n)) (hr : Room k X.A)
    (hN : X.N[i]? = some x) (hv : Vis X.env.scope x) (hd : (x == ("__debug__" : Str)) = false) (hcd : (x == ("__classdict__" : Str)) = false) (hclo : ∀ n vs ds h Q R, ¬ Γ.clo n vs ds h Q R)
    (tk : Takes X (WR T X RR)) (hs : (e :: l).all noStar = true) (ha : PA X (e :: l) (LA T X RR m (wpEs Γ es))) (hkp : ∀ n, n < 1000 → PySem.W.keepIn T.K (.ref (T.fA n)) = true) : PE X (.Call (.Name x p) (e :: l) [] pos) (LE T X RR (wpE Γ (.callv i es))) := by
  have hs' : noStar e = true ∧ l.all noStar = true := by rw [List.all_cons, Bool.and_eq_true] at hs; exact hs
  refine ⟨fun pins s τ H Q I ⟨F0, G, σ, h, Qd, sr, w, kk⟩ => ?_⟩
  have w : (match σ.at i with
    | .val (.fn n) => n < 1000 ∧ wpEs Γ es σ h (fun ds h => Γ.fn n ds h Qd (fun x h' => RR.R x σ h')) (fun x h' => RR.R x σ h')
    | .val (.clo n vs) => wpEs Γ es σ h (fun ds h => Γ.clo n vs ds h Qd (fun x h' => RR.R x σ h')) (fun x h' => RR.R x σ h')
    | _ => False) := w
  cases e0 : σ.at i with
  | val d =>
    rw [e0] at w
    obtain ⟨v, e1, r⟩ := sr.val e0
    cases r with
    | fn =>
      rename_i n
      obtain ⟨hn, w⟩ := w
      refine wpAny_Call_Name_kw (thn ((pe_var (pos := p) hN hv hd hcd).run pins s τ H (fun v H1 => v = .ref (T.fA n) ∧ H1 = H) I ⟨_, e1, rfl, rfl⟩) fun u s1 ⟨v, H1, I1, r1, q1⟩ => ?_)
      obtain ⟨rfl, rfl⟩ := q1
      cases r1
      refine PySem.W.callWith_K (h₀ := X.base) I.ok.mod.kin (hK ▸ hkp n hn) (thn (ha.run pos pins s1 τ _ (fun vs H1 => (∃ ds h Q R, Γ.fn n ds h Q R) ∧ prom T (Γ.fn n) vs H1 Q (WE (WR T X RR) τ)) I1 ?_) fun us s2 ⟨vs, H2, I2, r, ⟨ex, q⟩⟩ => ⟨I2.kIn, ?_⟩) (star_cons hs'.1) (star_any hs'.2)
      · exact ⟨F0, G, σ, h, _, sr, w, fun ds h1 vs F1 H1 l1 s1 sr1 r1 w1 => ⟨⟨_, _, _, _, w1⟩, prom_of sr1 r1 w1 fun d h' v F' H' s => kk d h' v F' H' (s1.trans s)⟩⟩
      · obtain ⟨⟨fd, ps, F, b⟩, kp⟩ := g n hn ex
        have F : FnOk X.prog X.w X.K X.mg X.base (L2.CX X.prog X.w) k (T.fA n) fd ps (prom T (Γ.fn n)) := hK ▸ F
        have b : Binds X.K fd ps [] := hK ▸ b
        refine run_fnSD (dvs := []) (E := WE (WR T X RR)) F hr b .nil (passAt tk τ) I2 r ?_
        rw [List.append_nil]
        exact q
    | _ => exact False.elim w
  | _ => rw [e0] at w; exact False.elim w
/-! ### objects -/
theorem le_fld {Γ : Gam} {f : Nat} {o : E} {e : Expr} {x : Str} {pos : Pos} (hK : X.K = T.K) (hx : T.tbl[f]? = some x) (hb : noSuper e = true) (he : PE X e (LE T X RR (wpE Γ o))) : PE X (.Attribute e x pos) (LE T X RR (wpE Γ (.fld o f))) := by
  refine PE.imp (pe_fld he (base_ok hb)) fun τ H Q ⟨F, G, σ, h, Qd, sr, w, k⟩ => ⟨F, G, σ, h, _, sr, w, fun d h1 v F1 H1 s1 sr1 r1 w1 => ?_⟩
  have w1 : (match d.asObj h1 with | some (_, fs) => (match getF f fs with | some d => Qd d h1 | none => False) | none => False) := w1
  cases e1 : d.asObj h1 with
  | none => rw [e1] at w1; exact False.elim w1
  | some q =>
    obtain ⟨c, fs⟩ := q
    rw [e1] at w1
    obtain ⟨a, dx, fvs, rfl, ea, cl, rf⟩ := asObj_rep sr1.sh r1 e1
    cases e2 : getF f fs with
    | none => simp only [e2] at w1
    | some y =>
      simp only [e2] at w1
      obtain ⟨u, e3, r3, na⟩ := RepF.get hx rf e2
      exact ⟨a, T.cA c, dx, fvs, u, rfl, ea, hK ▸ cl, hK ▸ na, e3, k _ h1 _ F1 H1 s1 sr1 r3 w1⟩
/-- a method -/
structure GoodM (P : Program) (w : World) (T : Tb) (mg : Str → Option Value) (base : Heap) (k : Nat) (n c : Nat) (m : Str) (sp : Spec) : Prop where
  ex : ∃ (fd : FuncData) (ps : List Str), FnOk P w T.K mg base (L2.CX P w) k (T.fA n) fd ps (prom T sp) ∧ Binds T.K fd ps []
  me : Meth T.K (T.cA c) m (T.fA n)
theorem meth_go {X : Cx} {CX : CXT} {k : Nat} {f C : Addr} {fd : FuncData} {ps : List Str} {sp : Sp} {E : L2.St → XK} {m : Str} {pos apos : Pos} {o : Expr} {es : List Expr} {ta : TE} {t : TA} (he : PE X o ta) (c : Cls X.K C) (hm : Meth X.K C m f) (F : FnOk X.prog X.w X.K X.mg X.base CX k f fd ps sp) (hr : Room k X.A) (hb : Binds X.K fd ps []) (hx : ∀ σ, PassesAt CX X σ (E σ))
    (ha : es = [] ∨ PA X es t) (hs : es.all noStar = true) (hsup : noSuper o = true) (hl : (apos.endLine == pos.line) = true) (hn : es.length < 30) :
    PE X (.Call (.Attribute o m apos) es [] pos) (fun σ H Q => ta σ H fun x H1 => ∃ a dx fs, x = .ref a ∧ H1 a = some (.ins C dx fs) ∧ fs.lookup m = none ∧ ((es = [] ∧ sp [x] H1 Q (E σ)) ∨ (es ≠ [] ∧ t σ H1 fun vs H2 => sp (x :: vs) H2 Q (E σ)))) := by
  obtain ⟨pl, ht⟩ := meth_ok (m := m) (e := .Name m apos) (env := X.env) hsup hl hs hn
  refine ⟨fun pins s σ H Q I h => ?_⟩
  refine PySem.W.methodCall_KW (pl := pl) (thn (he.run pins s σ H _ I h) fun u s1 ⟨x, H1, I1, rx, a, dx, fs, ex, ea, l, q⟩ => ?_) ht
  subst ex
  obtain rfl : u = Value.ref a := rx
  refine getmeth_ok I1 ea c hm l ?_
  cases es with
  | nil =>
    rcases q with ⟨_, q⟩ | ⟨q, _⟩
    · exact PySem.W.callWith_K0 (first := [.ref a]) I1.kIn hm.kp (run_fnSD (E := E) (us := [.ref a]) (vs := [.ref a]) (dvs := []) F hr hb .nil (hx σ) I1 (.cons rfl .nil) q)
    · exact absurd rfl q
  | cons e es =>
    rcases q with ⟨q, _⟩ | ⟨_, q⟩
    · cases q
    · have hs' : noStar e = true ∧ es.all noStar = true := by rw [List.all_cons, Bool.and_eq_true] at hs; exact hs
      have ha : PA X (e :: es) t := ha.elim (fun z => nomatch z) id
      refine PySem.W.callWith_K (first := [.ref a]) (h₀ := X.base) I.ok.mod.kin hm.kp (thn (ha.run pos pins s1 σ H1 _ I1 q) fun us s2 ⟨vs, H2, I2, r, q2⟩ => ⟨I2.kIn, ?_⟩) (star_cons hs'.1) (star_any hs'.2)
      refine run_fnSD (E := E) (us := .ref a :: us) (vs := .ref a :: vs) (dvs := []) F hr hb .nil (hx σ) I2 (.cons rfl r) ?_
      rw [List.append_nil]
      exact q2
theorem le_meth {Γ : Gam} {k n c m : Nat} {o : E} {es : Es} {e : Expr} {l : List Expr} {x : Str} {apos pos : Pos} (hK : X.K = T.K) (g : GoodM X.prog X.w T X.mg X.base k n c x (Γ.fn n)) (cl : Cls T.K (T.cA c)) (hr : Room k X.A)
    (tk : Takes X (WR T X RR)) (hs : l.all noStar = true) (hsup : noSuper e = true) (hl : (apos.endLine == pos.line) = true) (hn : l.length < 30) (he : PE X e (LE T X RR (wpE Γ o))) (ha : (l = [] ∧ es = .nil) ∨ (l ≠ [] ∧ PA X l (LA T X RR m (wpEs Γ es)))) : PE X (.Call (.Attribute e x apos) l [] pos) (LE T X RR (wpE Γ (.meth n c o es []))) := by
  obtain ⟨⟨fd, ps, F, b⟩, me⟩ := g
  have F : FnOk X.prog X.w X.K X.mg X.base (L2.CX X.prog X.w) k (T.fA n) fd ps (prom T (Γ.fn n)) := hK ▸ F
  have b : Binds X.K fd ps [] := hK ▸ b
  refine PE.imp (meth_go (t := LA T X RR m (wpEs Γ es)) (E := WE (WR T X RR)) he (hK ▸ cl) (hK ▸ me) F hr b (fun τ => passAt tk τ) (ha.elim (fun z => .inl z.1) fun z => .inr z.2) hs hsup hl hn) fun τ H Q ⟨F, G, σ, h, Qd, sr, w, k⟩ => ⟨F, G, σ, h, _, sr, w, fun d h1 v F1 H1 s1 sr1 r1 w1 => ?_⟩
  have w1 : (match d.asObj h1 with | some (c', _) => c' = c ∧ wpEs Γ es σ h1 (fun ds h => Γ.fn n (d :: (ds ++ [])) h Qd (fun x h' => RR.R x σ h')) (fun x h' => RR.R x σ h') | none => False) := w1
  cases e1 : d.asObj h1 with
  | none => rw [e1] at w1; exact False.elim w1
  | some q =>
    obtain ⟨c', fs⟩ := q
    rw [e1] at w1
    obtain ⟨ec, w3⟩ := w1
    subst ec
    obtain ⟨a, dx, fvs, rfl, ea, cl', rf⟩ := asObj_rep sr1.sh r1 e1
    refine ⟨a, dx, fvs, rfl, ea, RepF.none me.at_ (by simp) rf, ?_⟩
    rcases ha with ⟨e1, e2⟩ | ⟨e1, _⟩
    · subst e1 e2
      have w4 : Γ.fn n [d] h1 Qd (fun x h' => RR.R x σ h') := w3
      exact .inl ⟨rfl, prom_of sr1 (.cons r1 .nil) w4 fun d h' v F' H' s => k d h' v F' H' (s1.trans s)⟩
    · refine .inr ⟨e1, F1, G, σ, h1, _, sr1, w3, fun ds h2 vs F2 H2 _ s2 sr2 r2 w2 => ?_⟩
      rw [List.append_nil] at w2
      exact prom_of sr2 (.cons (r1.mono s2) r2) w2 fun d h' v F' H' s => k d h' v F' H' (s1.trans (s2.trans s))
/-- a class whose objects are made by __init__ -/
structure GoodI (P : Program) (w : World) (T : Tb) (mg : Str → Option Value) (base : Heap) (k : Nat) (n c : Nat) (sp : Spec) : Prop where
  ex : ∃ (fd : FuncData) (ps : List Str), FnOk P w T.K mg base (L2.CX P w) k (T.fA n) fd ps (prom T sp) ∧ Binds T.K fd ps []
  mkC : Mk T.K (T.cA c) (T.fA n)
  cl : Cls T.K (T.cA c)
theorem run_makeSD {CX : CXT} {k : Nat} {f C : Addr} {fd : FuncData} {ps : List Str} {sp : Sp} {E : L2.St → XK} {pins : List (Addr × Obj)} {σ : L2.St} {H : Hp} {s : Shared} {Q : VK} {us : List Value} {vs : List V} (M : Mk X.K C f) (F : FnOk X.prog X.w X.K X.mg X.base CX k f fd ps sp) (hr : Room (k + 1) X.A) (hb : Binds X.K fd ps [])
    (hx : PassesAt CX X σ (E σ)) (I : Inv X pins σ H s) (r : Vals vs us)
    (h : ∀ x dx, H x = none → H dx = none → dx ≠ x → sp (.ref x :: vs) (upd (upd H dx (.own x)) x (.ins C dx [])) (fun v H2 => v = .non ∧ Q (.ref x) H2) (E σ)) :
    wpAny (model X.prog X.w) X.A (call (.ref C) us) (EP X pins σ Q) X.xe s := by
  have hq := h (s.heap.objs.size + 1) s.heap.objs.size (I.hok.fresh (Nat.le_succ _)) (I.hok.fresh (Nat.le_refl _)) (Nat.ne_of_lt (Nat.lt_succ_self _))
  have I2 := Inv.made (C := C) I
  have r2 : Vals (V.ref (s.heap.objs.size + 1) :: vs) (Value.ref (s.heap.objs.size + 1) :: us) := .cons rfl r
  have hl : (Value.ref (s.heap.objs.size + 1) :: us ++ []).length = ps.length := by
    have e := r2.length
    rw [F.len _ _ _ _ hq] at e
    rw [List.append_nil]
    exact e.symm
  have hb' := hb _ (Value.ref (s.heap.objs.size + 1) :: us) I2.kIn hl
  rw [List.append_nil] at hb'
  refine wpAny_call (make_map (f := f) I.kIn M.makes M.init (beq_iff_eq.mp M.fn) (codeAny_mono (F.run _ X.stack _ _ ⟨Value.ref (s.heap.objs.size + 1) :: us, []⟩ (Value.ref (s.heap.objs.size + 1) :: us) _ _ (E σ) (hr.make C us [])
    (I2.env0.make C us []) hb' r2 hq) fun r s' hq' => ?_))
  cases r with
  | error e => exact hx pins _ _ e s' I2 hq'
  | ok fl =>
    cases fl with
    | ret u =>
      obtain ⟨v, H', I3, rv, ev, q3⟩ := I2.after hq'
      subst ev
      exact ⟨rv, ⟨V.ref (s.heap.objs.size + 1), H', I3, rfl, q3⟩⟩
    | next => exact False.elim hq'
    | brk => exact False.elim hq'
    | cont => exact False.elim hq'
theorem le_make {Γ : Gam} {k n c m : Nat} {fz : Bool} {es : Es} {e : Expr} {l : List Expr} {x : Str} {p pos : Pos} (hK : X.K = T.K) (g : GoodI X.prog X.w T X.mg X.base k n c (Γ.fn n)) (hr : Room (k + 1) X.A) (hg : Gl X x) (hm : X.mg x = some (.ref (T.cA c)))
    (tk : Takes X (WR T X RR)) (hs : (e :: l).all noStar = true) (hd : (x == ("__debug__" : Str)) = false) (ha : PA X (e :: l) (LA T X RR m (wpEs Γ es))) : PE X (.Call (.Name x p) (e :: l) [] pos) (LE T X RR (wpE Γ (.make n c es fz))) := by
  obtain ⟨⟨fd, ps, F, b⟩, mk, cl⟩ := g
  have F : FnOk X.prog X.w X.K X.mg X.base (L2.CX X.prog X.w) k (T.fA n) fd ps (prom T (Γ.fn n)) := hK ▸ F
  have b : Binds X.K fd ps [] := hK ▸ b
  have mk : Mk X.K (T.cA c) (T.fA n) := hK ▸ mk
  have hs' : noStar e = true ∧ l.all noStar = true := by rw [List.all_cons, Bool.and_eq_true] at hs; exact hs
  refine ⟨fun pins s τ H Q I ⟨F0, G, σ, h, Qd, sr, w, kk⟩ => ?_⟩
  refine wpAny_Call_Name_kw (ld_glob I hg hm ?_ hd)
  refine PySem.W.callWith_K (h₀ := X.base) I.ok.mod.kin mk.kp (thn (ha.run pos pins s τ H (fun vs H1 => ∀ x dx, H1 x = none → H1 dx = none → dx ≠ x → prom T (Γ.fn n) (.ref x :: vs) (upd (upd H1 dx (.own x)) x (.ins (T.cA c) dx [])) (fun v H2 => v = .non ∧ Q (.ref x) H2) (WE (WR T X RR) τ)) I ?_) fun us s1 ⟨vs, H1, I1, r, q⟩ => ⟨I1.kIn, ?_⟩) (star_cons hs'.1) (star_any hs'.2)
  · refine ⟨F0, G, σ, h, _, sr, w, fun ds h1 vs F1 H1 _ s1 sr1 r1 w1 x dx nx ndx ne => ?_⟩
    have w1 := w1 x (hfree sr1.sh nx)
    have g1 := Grow.beside (o := .own x) sr1.sh.sF ndx
    have sr2 := sr1.grow g1
    have nx2 : upd H1 dx (.own x) x = none := by rw [upd_ne (Ne.symm ne)]; exact nx
    have sr3 := sr2.newcell (o := .ins (T.cA c) dx []) (c := .obj c []) nx2 ⟨dx, [], upd_same, cl, .nil⟩
    refine prom_of sr3 (.cons .ref r1) w1 fun d h' v F' H' s sr' rv q => ?_
    cases rv with
    | non =>
      refine ⟨rfl, ?_⟩
      cases fz with
      | true =>
        obtain ⟨fs, e1, q⟩ := q
        obtain ⟨_, _, dx', fvs, e2, cl', rf⟩ := sr'.sh.cell x _ e1
        have s2 : Same F' (upd F' x (.ins (T.cA c) dx' fvs)) := fun b u e => by rw [upd_ne (ne_of_none e (sr'.sh.cell x _ e1).1)]; exact e
        exact kk _ _ _ _ _ (s1.trans (s.trans s2)) (sr'.freeze e1 e2) (.obj upd_same cl' (rf.mono s2)) q
      | false => exact kk _ _ _ _ _ (s1.trans s) sr' .ref q
    | _ => exact False.elim q
  · exact run_makeSD (E := WE (WR T X RR)) mk F hr b (passAt tk τ) I1 r q
/-! ### built-ins -/
theorem le_bi {Γ : Gam} {m : Nat} {b : Bi} {es : Es} {e : Expr} {l : List Expr} {id : String} {x : Str} {p pos : Pos} (hc : CallR X (.builtin id) (rBi T X b)) (hg : Gl X x) (hm : X.mg x = none) (hv : bootBuiltins x = some (.builtin id))
    (hn : x ≠ "__name__") (hd : (x == ("__debug__" : Str)) = false) (hs : (e :: l).all noStar = true) (ha : PA X (e :: l) (LA T X RR m (wpEs Γ es))) : PE X (.Call (.Name x p) (e :: l) [] pos) (LE T X RR (wpE Γ (.bi b es))) := by
  have hs' : noStar e = true ∧ l.all noStar = true := by rw [List.all_cons, Bool.and_eq_true] at hs; exact hs
  exact PE.imp (pe_callB hc hg hm hv ha hn hd (star_cons hs'.1) (star_any hs'.2)) fun τ H Q ⟨F, G, σ, h, Qd, sr, w, k⟩ => ⟨F, G, σ, h, _, sr, w, fun ds h1 vs F1 H1 _ s1 sr1 r1 w1 =>
    ⟨F1, G, σ, h1, τ, ds, Qd, sr1.s, r1, w1, fun z h' v F' H' s sr' => k z h' v F' H' (s1.trans s) ⟨sr', sr1.lF.trans s, sr1.lG⟩⟩⟩
theorem le_biT {Γ : Gam} {m : Nat} {b : Bi} {es : Es} {e : Expr} {l : List Expr} {id : String} {x : Str} {p pos : Pos} (hc : CallR X (.type id) (rBi T X b)) (hg : Gl X x) (hm : X.mg x = none) (hv : bootBuiltins x = some (.type id))
    (hn : x ≠ "__name__") (hd : (x == ("__debug__" : Str)) = false) (hs : (e :: l).all noStar = true) (ha : PA X (e :: l) (LA T X RR m (wpEs Γ es))) : PE X (.Call (.Name x p) (e :: l) [] pos) (LE T X RR (wpE Γ (.bi b es))) := by
  have hs' : noStar e = true ∧ l.all noStar = true := by rw [List.all_cons, Bool.and_eq_true] at hs; exact hs
  exact PE.imp (pe_callTy hc hg hm hv ha hn hd (star_cons hs'.1) (star_any hs'.2)) fun τ H Q ⟨F, G, σ, h, Qd, sr, w, k⟩ => ⟨F, G, σ, h, _, sr, w, fun ds h1 vs F1 H1 _ s1 sr1 r1 w1 =>
    ⟨F1, G, σ, h1, τ, ds, Qd, sr1.s, r1, w1, fun z h' v F' H' s sr' => k z h' v F' H' (s1.trans s) ⟨sr', sr1.lF.trans s, sr1.lG⟩⟩⟩
/-! ### subscripts -/
def rIdx (T : Tb) (X : Cx) : R2 := L2op T X fun x y h Q => match y with
    | .int k => match asLT h x with
      | some l => match ixP l.length k with
        | some j => match l[j]? with
          | some d => Q d h
          | none => False
        | none => False
      | none => False
    | _ => False
theorem ix_idx (hK : X.K = T.K) : IxR X (rIdx T X) := by
  intro value slice pins s τ0 H x y v u Q I rx ry h hs
  obtain ⟨F, G, σ, h, τ, dx, dy, Qd, sr, r1, r2, w, k⟩ := h
  cases r2 with
  | int =>
    rename_i i
    have w : (match asLT h dx with
      | some l => (match ixP l.length i with
        | some j => (match l[j]? with
          | some d => Qd d h
          | none => False)
        | none => False)
      | none => False) := w
    cases e1 : asLT h dx with
    | none => rw [e1] at w; exact False.elim w
    | some l =>
      rw [e1] at w
      obtain ⟨a, vs, rfl, sq, rl⟩ := asLT_rep sr.sh r1 e1
      cases e2 : ixP l.length i with
      | none => simp only [e2] at w
      | some j =>
        simp only [e2] at w
        cases e3 : l[j]? with
        | none => simp only [e3] at w
        | some d =>
          simp only [e3] at w
          obtain ⟨z, e4, rz⟩ := rl.get e3
          have e5 : atI vs i = some z := by
            unfold atI
            have : ixN vs.length i = some j := by rw [← rl.length]; exact e2
            rw [this]
            exact e4
          have fin : Q z H := k d h z F H (Same.refl _) sr rz w
          rcases sq with sq | sq
          · exact ix_list value slice pins s τ0 H _ _ v u Q I rx ry ⟨a, vs, i, z, rfl, rfl, hK ▸ sq, e5, fin⟩ hs
          · exact ix_tup value slice pins s τ0 H _ _ v u Q I rx ry ⟨a, vs, i, z, rfl, rfl, hK ▸ sq, e5, fin⟩ hs
  | _ => exact False.elim w
theorem le_idx {Γ : Gam} {a b : E} {ea eb : Expr} {pos : Pos} (hK : X.K = T.K) (hb' : noSlice eb = true) (ha : PE X ea (LE T X RR (wpE Γ a))) (hb : PE X eb (LE T X RR (wpE Γ b))) : PE X (.Subscript ea eb pos) (LE T X RR (wpE Γ (.idx a b))) :=
  PE.imp (pe_ix (ix_idx (T := T) hK) ha hb (ix_ok hb')) fun τ H Q h => le_op (f := fun x y h Q => match y with
    | .int k => match asLT h x with
      | some l => match ixP l.length k with
        | some j => match l[j]? with
          | some d => Q d h
          | none => False
        | none => False
      | none => False
    | _ => False) h
theorem slP_eq (n d : Nat) (i : Int) : HT.sIx n d (some i) = slP n i := by
  show (if i < 0 then (i + (n : Int)).toNat else min i.toNat n) = _
  unfold slP
  by_cases h : 0 ≤ i
  · rw [if_pos h, if_neg (by omega)]
  · rw [if_neg h, if_pos (by omega)]
theorem slP_le (n : Nat) (i : Int) : slP n i ≤ n := by
  unfold slP
  split <;> omega
theorem cut_to (xs : List V) (i : Int) : cutV xs none (some i) = xs.take (slP xs.length i) := by
  unfold cutV
  rw [slP_eq]
  show (xs.drop 0).take (slP xs.length i - 0) = _
  simp
theorem cut_from (xs : List V) (i : Int) : cutV xs (some i) none = xs.drop (slP xs.length i) := by
  unfold cutV
  rw [slP_eq]
  show (xs.drop (slP xs.length i)).take (xs.length - slP xs.length i) = _
  rw [List.take_of_length_le]
  rw [List.length_drop]
  omega
theorem cut_of (xs : List V) (i j : Int) : cutV xs (some i) (some j) = (xs.take (slP xs.length j)).drop (slP xs.length i) := by
  unfold cutV
  rw [slP_eq, slP_eq, List.drop_take]
theorem asL_of {h : AH} {F G : Hp} {σ : Env} {τ : L2.St} {H : Hp} {d : D} {v : V} {P : List D → Prop} (hK : X.K = T.K) {lk : Lk} (sr : SR T lk F G σ h τ H) (r : Rep T F d v) (w : match asL h d with | some l => P l | none => False) : ∃ a vs l, v = .ref a ∧ SqL X.K H a vs ∧ Reps T F l vs ∧ P l := by
  cases e : asL h d with
  | none => rw [e] at w; exact False.elim w
  | some l =>
    rw [e] at w
    obtain ⟨a, vs, e1, e2, e3⟩ := asL_rep sr.sh r e
    exact ⟨a, vs, l, e1, hK ▸ e2, e3, w⟩
theorem le_slTo {Γ : Gam} {a b : E} {ea eb : Expr} {pos p2 : Pos} (hK : X.K = T.K) (ha : PE X ea (LE T X RR (wpE Γ a))) (hb : PE X eb (LE T X RR (wpE Γ b))) : PE X (.Subscript ea (.Slice none (some eb) none p2) pos) (LE T X RR (wpE Γ (.slTo a b))) := by
  refine PE.imp (pe_slice sl_list ha po_none (po_some hb)) fun τ H Q ⟨F, G, σ, h, Qd, sr, w, k⟩ => ⟨F, G, σ, h, _, sr, w, fun dx h1 vx F1 H1 s1 sr1 r1 w1 => ⟨F1, G, σ, h1, _, sr1, w1, fun dy h2 vy F2 H2 s2 sr2 r2 w2 => ?_⟩⟩
  cases r2 with
  | int =>
    rename_i i
    obtain ⟨c, vs, l, rfl, sq, rl, w2⟩ := asL_of (P := fun l => Qd (.lst (l.take (slP l.length i))) h2) hK sr2 (r1.mono s2) w2
    refine ⟨i, rfl, c, vs, rfl, sq, fun p hp => ?_⟩
    have g := Grow.new (o := .lst (cutV vs none (some i))) sr2.sh.sF hp
    have rc : Reps T F2 (l.take (slP l.length i)) (cutV vs none (some i)) := by
      rw [cut_to, ← rl.length]
      exact rl.take _
    exact k _ h2 _ _ _ (s1.trans (s2.trans g.f)) (sr2.grow g) (.lst (SqL.of upd_same) (rc.mono g.f)) w2
  | _ => exact False.elim w2
theorem le_slFrom {Γ : Gam} {a b : E} {ea eb : Expr} {pos p2 : Pos} (hK : X.K = T.K) (ha : PE X ea (LE T X RR (wpE Γ a))) (hb : PE X eb (LE T X RR (wpE Γ b))) : PE X (.Subscript ea (.Slice (some eb) none none p2) pos) (LE T X RR (wpE Γ (.slFrom a b))) := by
  refine PE.imp (pe_slice sl_list ha (po_some hb) po_none) fun τ H Q ⟨F, G, σ, h, Qd, sr, w, k⟩ => ⟨F, G, σ, h, _, sr, w, fun dx h1 vx F1 H1 s1 sr1 r1 w1 => ⟨F1, G, σ, h1, _, sr1, w1, fun dy h2 vy F2 H2 s2 sr2 r2 w2 => ?_⟩⟩
  cases r2 with
  | int =>
    rename_i i
    obtain ⟨c, vs, l, rfl, sq, rl, w2⟩ := asL_of (P := fun l => Qd (.lst (l.drop (slP l.length i))) h2) hK sr2 (r1.mono s2) w2
    refine ⟨i, rfl, c, vs, rfl, sq, fun p hp => ?_⟩
    have g := Grow.new (o := .lst (cutV vs (some i) none)) sr2.sh.sF hp
    have rc : Reps T F2 (l.drop (slP l.length i)) (cutV vs (some i) none) := by
      rw [cut_from, ← rl.length]
      exact rl.drop _
    exact k _ h2 _ _ _ (s1.trans (s2.trans g.f)) (sr2.grow g) (.lst (SqL.of upd_same) (rc.mono g.f)) w2
  | _ => exact False.elim w2
theorem le_slOf {Γ : Gam} {a b c : E} {ea eb ec : Expr} {pos p2 : Pos} (hK : X.K = T.K) (ha : PE X ea (LE T X RR (wpE Γ a))) (hb : PE X eb (LE T X RR (wpE Γ b))) (hc : PE X ec (LE T X RR (wpE Γ c))) : PE X (.Subscript ea (.Slice (some eb) (some ec) none p2) pos) (LE T X RR (wpE Γ (.slOf a b c))) := by
  refine PE.imp (pe_slice sl_list ha (po_some hb) (po_some hc)) fun τ H Q ⟨F, G, σ, h, Qd, sr, w, k⟩ => ⟨F, G, σ, h, _, sr, w, fun dx h1 vx F1 H1 s1 sr1 r1 w1 => ⟨F1, G, σ, h1, _, sr1, w1, fun dy h2 vy F2 H2 s2 sr2 r2 w2 => ?_⟩⟩
  cases r2 with
  | int =>
    rename_i i
    refine ⟨i, rfl, F2, G, σ, h2, _, sr2, w2, fun dz h3 vz F3 H3 s3 sr3 r3 w3 => ?_⟩
    cases r3 with
    | int =>
      rename_i j
      obtain ⟨c, vs, l, rfl, sq, rl, w3⟩ := asL_of (P := fun l => Qd (.lst ((l.take (slP l.length j)).drop (slP l.length i))) h3) hK sr3 ((r1.mono s2).mono s3) w3
      refine ⟨j, rfl, c, vs, rfl, sq, fun p hp => ?_⟩
      have g := Grow.new (o := .lst (cutV vs (some i) (some j))) sr3.sh.sF hp
      have rc : Reps T F3 ((l.take (slP l.length j)).drop (slP l.length i)) (cutV vs (some i) (some j)) := by
        rw [cut_of, ← rl.length]
        exact (rl.take _).drop _
      exact k _ h3 _ _ _ (s1.trans (s2.trans (s3.trans g.f))) (sr3.grow g) (.lst (SqL.of upd_same) (rc.mono g.f)) w3
    | _ => exact False.elim w3
  | _ => exact False.elim w2
end
end FF

namespace FF
open PySem PySem.Spec PyProof.Rows L2

/-! ### what is walked -/
structure Gives (T : Tb) (F : Hp) (J : L2.It) (ds : List D) : Prop where
  go : ∀ i H, i < ds.length → Same F H → J.go i H
  yld : ∀ i H F1 x H' d, ds[i]? = some d → Same F F1 → Same F1 H → J.yld i H x H' → ∃ F', Grow F1 H F' H' ∧ Rep T F' d x
  stop : ∀ H, Same F H → J.stop ds.length H
theorem gives_list {T : Tb} {F : Hp} {a : Addr} {l : List D} {vs : List V} (s : SqL T.K F a vs) (r : Reps T F l vs) : Gives T F (Itl T.K a) l where
  go := fun i H hi sF => ⟨vs, vs[i]'(by rw [← r.length]; exact hi), sF.seq s, by simp⟩
  yld := fun i H F1 x H' d e s1 sF ⟨e1, e2⟩ => by
    subst e1
    obtain ⟨u, e3, ru⟩ := r.get e
    have := e2 vs ((s1.trans sF).seq s)
    rw [e3] at this
    cases this
    exact ⟨F1, Grow.refl sF, ru.mono s1⟩
  stop := fun H sF => ⟨vs, sF.seq s, by rw [r.length]; exact Nat.le_refl _⟩
theorem gives_tup {T : Tb} {F : Hp} {a : Addr} {l : List D} {vs : List V} (s : SqT T.K F a vs) (r : Reps T F l vs) : Gives T F (Itt T.K a) l where
  go := fun i H hi sF => ⟨vs, vs[i]'(by rw [← r.length]; exact hi), Same.sqt sF s, by simp⟩
  yld := fun i H F1 x H' d e s1 sF ⟨e1, e2⟩ => by
    subst e1
    obtain ⟨u, e3, ru⟩ := r.get e
    have := e2 vs (Same.sqt (s1.trans sF) s)
    rw [e3] at this
    cases this
    exact ⟨F1, Grow.refl sF, ru.mono s1⟩
  stop := fun H sF => ⟨vs, Same.sqt sF s, by rw [r.length]; exact Nat.le_refl _⟩
theorem gives_rng {T : Tb} {F : Hp} {lo : Int} {n : Nat} : Gives T F (Itr lo n) (rangeL lo n) where
  go := fun i H hi sF => by
    have : (rangeL lo n).length = n := by simp [rangeL]
    rw [this] at hi; exact hi
  yld := fun i H F1 x H' d e s1 sF ⟨e1, e2⟩ => by
    subst e1 e2
    have : d = .int (lo + i) := by
      unfold rangeL at e
      rw [List.getElem?_map] at e
      cases q : (List.range n)[i]? with
      | none => rw [q] at e; cases e
      | some j =>
        rw [q] at e
        have : j = i := by
          obtain ⟨h1, h2⟩ := List.getElem?_eq_some_iff.mp q
          rw [List.getElem_range] at h2; exact h2.symm
        subst this
        exact (Option.some.inj e).symm
    subst this
    exact ⟨F1, Grow.refl sF, .int⟩
  stop := fun H sF => by
    have : (rangeL lo n).length = n := by simp [rangeL]
    rw [this]; exact Nat.le_refl _
theorem gives_enum {T : Tb} {F : Hp} {a : Addr} {l : List D} {vs : List V} (s : SqL T.K F a vs) (r : Reps T F l vs) : Gives T F (Ite T.K a) (enumD l) where
  go := fun i H hi sF => by
    have e : (enumD l).length = l.length := by simp [enumD, List.length_zipWith]
    rw [e, r.length] at hi
    exact ⟨vs, vs[i], sF.seq s, by simp⟩
  yld := fun i H F1 x H' d e s1 sF ⟨p, y, e1, n, e2, e3⟩ => by
    subst e1 e2
    unfold enumD at e
    rw [List.getElem?_zipWith] at e
    cases q : l[i]? with
    | none => rw [q] at e; cases q2 : (List.range l.length)[i]? <;> (rw [q2] at e; cases e)
    | some z =>
      obtain ⟨h1, _⟩ := List.getElem?_eq_some_iff.mp q
      have q2 : (List.range l.length)[i]? = some i := by rw [List.getElem?_range h1]
      rw [q, q2] at e
      cases e
      obtain ⟨u, e4, ru⟩ := r.get q
      have := e3 vs ((s1.trans sF).seq s)
      rw [e4] at this
      cases this
      have g := Grow.new (o := .tup [.int (i : Nat), y]) sF n
      exact ⟨_, g, .tup (SqT.of upd_same) (.cons .int (.cons ((ru.mono s1).mono g.f) .nil))⟩
  stop := fun H sF => by
    have e : (enumD l).length = l.length := by simp [enumD, List.length_zipWith]
    rw [e, r.length]
    exact ⟨vs, sF.seq s, Nat.le_refl _⟩
theorem gives_zip {T : Tb} {F : Hp} {a b : Addr} {l m : List D} {vs us : List V} (s : SqL T.K F a vs) (r : Reps T F l vs) (s' : SqL T.K F b us) (r' : Reps T F m us) : Gives T F (Itz T.K a b) (zipD l m) where
  go := fun i H hi sF => by
    have e : (zipD l m).length = min l.length m.length := by simp [zipD, List.length_zipWith]
    rw [e, r.length, r'.length] at hi
    exact ⟨vs, us, vs[i]'(by omega), us[i]'(by omega), sF.seq s, sF.seq s', by simp, by simp⟩
  yld := fun i H F1 x H' d e s1 sF ⟨p, y, y', e1, n, e2, e3, e3'⟩ => by
    subst e1 e2
    unfold zipD at e
    rw [List.getElem?_zipWith] at e
    cases q : l[i]? with
    | none => rw [q] at e; cases e
    | some z =>
      cases q' : m[i]? with
      | none => rw [q, q'] at e; cases e
      | some z' =>
        rw [q, q'] at e
        cases e
        obtain ⟨u, e4, ru⟩ := r.get q
        obtain ⟨u', e4', ru'⟩ := r'.get q'
        have := e3 vs ((s1.trans sF).seq s)
        rw [e4] at this
        cases this
        have := e3' us ((s1.trans sF).seq s')
        rw [e4'] at this
        cases this
        have g := Grow.new (o := .tup [y, y']) sF n
        exact ⟨_, g, .tup (SqT.of upd_same) (.cons ((ru.mono s1).mono g.f) (.cons ((ru'.mono s1).mono g.f) .nil))⟩
  stop := fun H sF => by
    have e : (zipD l m).length = min l.length m.length := by simp [zipD, List.length_zipWith]
    rw [e, r.length, r'.length]
    refine ⟨vs, us, sF.seq s, sF.seq s', ?_⟩
    omega
def LI (T : Tb) (X : Cx) (RR : RRt) (w : Env → AH → (List D → AH → Prop) → RE → Prop) : TI := fun τ H R =>
  ∃ F G σ h Kd, SR T (RR.lk X) F G σ h τ H ∧ w σ h Kd (fun x h' => RR.R x σ h') ∧ ∀ ds h' J F' H', Same F F' → SR T (RR.lk X) F' G σ h' τ H' → Gives T F' J ds → Kd ds h' → R J H'
section
variable {X : Cx} {T : Tb} {RR : RRt} {tg : Expr}
def iSeq (K : PySem.W.Frag) (tl : TE) : TI := fun σ H R => tl σ H fun x H1 => ∃ a, x = .ref a ∧ (((∃ xs, SqL K H1 a xs) ∧ R (Itl K a) H1) ∨ ((∃ xs, SqT K H1 a xs) ∧ R (Itt K a) H1))
theorem pi_seq {l : Expr} {tl : TE} (hl : PE X l tl) : PI X tg l (iSeq X.K tl) := by
  refine ⟨fun pins s σ H R I h => ?_⟩
  refine thn (hl.run pins s σ H _ I h) fun v s1 ⟨x, H1, I1, r1, q1⟩ => ?_
  obtain ⟨a, e, q⟩ := q1
  subst e
  cases r1
  rcases q with ⟨⟨xs, hq⟩, q⟩ | ⟨⟨xs, hq⟩, q⟩
  · obtain ⟨its, rv, p, hz⟩ := I1.list hq
    refine wpAny_pyIter_list p.isList ?_
    refine ⟨s1.heap.objs.size, [s1.heap.objs.size], _, _, H1, rfl, I1.kept (t' := s1.toks) fun b o e => Heap.get?_push_of_some _ e, turn_list a _, ⟨_, Heap.get?_push_size _ rfl, rfl, rfl⟩, fun b hb => ?_, q⟩
    have e : b = s1.heap.objs.size := by simpa using hb
    subst e
    exact I1.fpOk (Nat.le_refl _) (I1.hok.fresh (Nat.le_refl _))
  · obtain ⟨its, rv, p, hz⟩ := I1.tuple hq
    refine wpAny_pyIter_tuple (show s1.heap.IsTuple a its.toArray from p) ?_
    refine ⟨s1.heap.objs.size, [s1.heap.objs.size], _, _, H1, rfl, I1.kept (t' := s1.toks) fun b o e => Heap.get?_push_of_some _ e, turn_tuple a _, ⟨_, Heap.get?_push_size _ rfl, rfl, rfl⟩, fun b hb => ?_, q⟩
    have e : b = s1.heap.objs.size := by simpa using hb
    subst e
    exact I1.fpOk (Nat.le_refl _) (I1.hok.fresh (Nat.le_refl _))
theorem PI.imp {e : Expr} {t t' : TI} (p : PI X tg e t) (h : ∀ τ H Q, t' τ H Q → t τ H Q) : PI X tg e t' := ⟨fun pins s τ H Q I q => p.run pins s τ H Q I (h τ H Q q)⟩
theorem li_seq {Γ : Gam} {a : E} {e : Expr} (hK : X.K = T.K) (ha : PE X e (LE T X RR (wpE Γ a))) : PI X tg e (LI T X RR (wpI Γ (.seq a))) := by
  refine PI.imp (pi_seq ha) fun τ H Q ⟨F, G, σ, h, Kd, sr, w, k⟩ => ⟨F, G, σ, h, _, sr, w, fun d h1 v F1 H1 s1 sr1 r1 w1 => ?_⟩
  cases r1 with
  | lst sq rl => exact ⟨_, rfl, .inl ⟨⟨_, hK ▸ sr1.sh.sF.seq sq⟩, k _ h1 _ F1 H1 s1 sr1 (hK ▸ gives_list sq rl) w1⟩⟩
  | tup sq rl => exact ⟨_, rfl, .inr ⟨⟨_, hK ▸ Same.sqt sr1.sh.sF sq⟩, k _ h1 _ F1 H1 s1 sr1 (hK ▸ gives_tup sq rl) w1⟩⟩
  | _ => exact False.elim w1
theorem star1 {e : Expr} {env : PySem.Env} (h : noStar e = true) : starEach [e] env = [(false, eval e env)] := by rw [star_cons h]; rfl
theorem li_rng1 {Γ : Gam} {a : E} {e : Expr} {p pos : Pos} (hg : Gl X "range") (hm : X.mg "range" = none) (hs : noStar e = true) (ha : PE X e (LE T X RR (wpE Γ a))) : PI X tg (.Call (.Name "range" p) [e] [] pos) (LI T X RR (wpI Γ (.rng1 a))) := by
  refine PI.imp (pi_range1 hg hm (la_cons hs ha (la_nil (Γ := Γ))) (star1 hs)) fun τ H Q ⟨F, G, σ, h, Kd, sr, w, k⟩ => ?_
  refine ⟨F, G, σ, h, (fun ds h => match ds with | [.int j] => okR j ∧ Kd (rangeL 0 j.toNat) h | _ => False), sr, ?_, fun ds h1 vs F1 H1 _ s1 sr1 r1 w1 => ?_⟩
  · have w : wpE Γ a σ h (fun x h => match x with
      | .int j => okR j ∧ Kd (rangeL 0 j.toNat) h
      | _ => False) (fun x h' => RR.R x σ h') := w
    have e : (fun (x : D) (h : AH) => wpEs Γ .nil σ h (fun xs h => (match x :: xs with | [.int j] => okR j ∧ Kd (rangeL 0 j.toNat) h | _ => False)) (fun x h' => RR.R x σ h')) = (fun x h => match x with
      | .int j => okR j ∧ Kd (rangeL 0 j.toNat) h
      | _ => False) := by
      funext x h
      cases x <;> rfl
    show wpE Γ a σ h (fun x h => wpEs Γ .nil σ h (fun xs h => (match x :: xs with | [.int j] => okR j ∧ Kd (rangeL 0 j.toNat) h | _ => False)) (fun x h' => RR.R x σ h')) (fun x h' => RR.R x σ h')
    rw [e]; exact w
  · dsimp only at w1
    split at w1
    · cases r1 with
      | cons r r' =>
        cases r'
        cases r
        exact ⟨_, rfl, w1.1.1, w1.1.2, k _ h1 _ F1 H1 s1 sr1 gives_rng w1.2⟩
    · exact w1.elim
theorem li_rng2 {Γ : Gam} {a b : E} {e e2 : Expr} {p pos : Pos} (hg : Gl X "range") (hm : X.mg "range" = none) (hs : noStar e = true) (hs2 : noStar e2 = true) (ha : PE X e (LE T X RR (wpE Γ a))) (hb : PE X e2 (LE T X RR (wpE Γ b))) : PI X tg (.Call (.Name "range" p) [e, e2] [] pos) (LI T X RR (wpI Γ (.rng2 a b))) := by
  refine PI.imp (pi_range2 hg hm (la_cons hs ha (la_cons hs2 hb (la_nil (Γ := Γ)))) (by rw [star_cons hs, star1 hs2]) (star1 hs2)) fun τ H Q ⟨F, G, σ, h, Kd, sr, w, k⟩ => ?_
  refine ⟨F, G, σ, h, (fun ds h => match ds with | [.int i, .int j] => okR i ∧ okR j ∧ Kd (rangeL i (j - i).toNat) h | _ => False), sr, ?_, fun ds h1 vs F1 H1 _ s1 sr1 r1 w1 => ?_⟩
  · have w : wpE Γ a σ h (fun x h => wpE Γ b σ h (fun y h => match x, y with
      | .int i, .int j => okR i ∧ okR j ∧ Kd (rangeL i (j - i).toNat) h
      | _, _ => False) (fun x h' => RR.R x σ h')) (fun x h' => RR.R x σ h') := w
    have e : ∀ x : D, (fun (y : D) (h : AH) => wpEs Γ .nil σ h (fun xs h => (match x :: y :: xs with | [.int i, .int j] => okR i ∧ okR j ∧ Kd (rangeL i (j - i).toNat) h | _ => False)) (fun x h' => RR.R x σ h')) = (fun y h => match x, y with
      | .int i, .int j => okR i ∧ okR j ∧ Kd (rangeL i (j - i).toNat) h
      | _, _ => False) := by
      intro x
      funext y h
      cases x <;> cases y <;> rfl
    show wpE Γ a σ h (fun x h => wpE Γ b σ h (fun y h => wpEs Γ .nil σ h (fun xs h => (match x :: y :: xs with | [.int i, .int j] => okR i ∧ okR j ∧ Kd (rangeL i (j - i).toNat) h | _ => False)) (fun x h' => RR.R x σ h')) (fun x h' => RR.R x σ h')) (fun x h' => RR.R x σ h')
    simp only [e]
    exact w
  · dsimp only at w1
    split at w1
    · cases r1 with
      | cons r r' =>
        cases r' with
        | cons r'' r' =>
          cases r'
          cases r
          cases r''
          exact ⟨_, _, rfl, ⟨w1.1.1, w1.1.2, w1.2.1.1, w1.2.1.2⟩, k _ h1 _ F1 H1 s1 sr1 gives_rng w1.2.2⟩
    · exact w1.elim
theorem li_enum {Γ : Gam} {a : E} {e : Expr} {p pos tpos : Pos} {elts : List Expr} {kk : Nat} (hK : X.K = T.K) (hg : Gl X "enumerate") (hm : X.mg "enumerate" = none) (hs : noStar e = true) (ha : PE X e (LE T X RR (wpE Γ a))) : PI X (.Tuple elts kk tpos) (.Call (.Name "enumerate" p) [e] [] pos) (LI T X RR (wpI Γ (.enum a))) := by
  refine PI.imp (pi_enum hg hm (la_cons hs ha (la_nil (Γ := Γ))) (star1 hs)) fun τ H Q ⟨F, G, σ, h, Kd, sr, w, k⟩ => ?_
  refine ⟨F, G, σ, h, (fun ds h => match ds with | [.lst l] => Kd (enumD l) h | _ => False), sr, ?_, fun ds h1 vs F1 H1 _ s1 sr1 r1 w1 => ?_⟩
  · have w : wpE Γ a σ h (fun x h => match x with
      | .lst l => Kd (enumD l) h
      | _ => False) (fun x h' => RR.R x σ h') := w
    have e : (fun (x : D) (h : AH) => wpEs Γ .nil σ h (fun xs h => (match x :: xs with | [.lst l] => Kd (enumD l) h | _ => False)) (fun x h' => RR.R x σ h')) = (fun x h => match x with
      | .lst l => Kd (enumD l) h
      | _ => False) := by
      funext x h
      cases x <;> rfl
    show wpE Γ a σ h (fun x h => wpEs Γ .nil σ h (fun xs h => (match x :: xs with | [.lst l] => Kd (enumD l) h | _ => False)) (fun x h' => RR.R x σ h')) (fun x h' => RR.R x σ h')
    rw [e]; exact w
  · dsimp only at w1
    split at w1
    · cases r1 with
      | cons r r' =>
        cases r'
        cases r with
        | lst sq rl => exact ⟨_, _, rfl, hK ▸ sr1.sh.sF.seq sq, k _ h1 _ F1 H1 s1 sr1 (hK ▸ gives_enum sq rl) w1⟩
    · exact w1.elim
theorem li_zip {Γ : Gam} {a b : E} {e e2 : Expr} {p pos tpos : Pos} {elts : List Expr} {kk : Nat} (hK : X.K = T.K) (hg : Gl X "zip") (hm : X.mg "zip" = none) (hs : noStar e = true) (hs2 : noStar e2 = true) (ha : PE X e (LE T X RR (wpE Γ a))) (hb : PE X e2 (LE T X RR (wpE Γ b))) : PI X (.Tuple elts kk tpos) (.Call (.Name "zip" p) [e, e2] [] pos) (LI T X RR (wpI Γ (.zip a b))) := by
  refine PI.imp (pi_zip hg hm (la_cons hs ha (la_cons hs2 hb (la_nil (Γ := Γ)))) (star_cons hs) (star_any (es := [e2]) (by simp [hs2]))) fun τ H Q ⟨F, G, σ, h, Kd, sr, w, k⟩ => ?_
  refine ⟨F, G, σ, h, (fun ds h => match ds with | [.lst l, .lst m] => Kd (zipD l m) h | _ => False), sr, ?_, fun ds h1 vs F1 H1 _ s1 sr1 r1 w1 => ?_⟩
  · have w : wpE Γ a σ h (fun x h => wpE Γ b σ h (fun y h => match x, y with
      | .lst l, .lst m => Kd (zipD l m) h
      | _, _ => False) (fun x h' => RR.R x σ h')) (fun x h' => RR.R x σ h') := w
    have e : ∀ x : D, (fun (y : D) (h : AH) => wpEs Γ .nil σ h (fun xs h => (match x :: y :: xs with | [.lst l, .lst m] => Kd (zipD l m) h | _ => False)) (fun x h' => RR.R x σ h')) = (fun y h => match x, y with
      | .lst l, .lst m => Kd (zipD l m) h
      | _, _ => False) := by
      intro x
      funext y h
      cases x <;> cases y <;> rfl
    show wpE Γ a σ h (fun x h => wpE Γ b σ h (fun y h => wpEs Γ .nil σ h (fun xs h => (match x :: y :: xs with | [.lst l, .lst m] => Kd (zipD l m) h | _ => False)) (fun x h' => RR.R x σ h')) (fun x h' => RR.R x σ h')) (fun x h' => RR.R x σ h')
    simp only [e]
    exact w
  · dsimp only at w1
    split at w1
    · cases r1 with
      | cons r r' =>
        cases r' with
        | cons r'' r' =>
          cases r'
          cases r with
          | lst sq rl =>
            cases r'' with
            | lst sq' rl' => exact ⟨_, _, _, _, rfl, hK ▸ sr1.sh.sF.seq sq, hK ▸ sr1.sh.sF.seq sq', k _ h1 _ F1 H1 s1 sr1 (hK ▸ gives_zip sq rl sq' rl') w1⟩
    · exact w1.elim
end
/-! ### targets -/
def LG (T : Tb) (pn : List (Addr × Obj)) (vs : List Nat) (w : D → Env → (Env → Prop) → Prop) : TG := fun v τ H Q => ∃ F0 G0 F G σ h d Kd, SR T ⟨pn, F0, G0⟩ F G σ h τ H ∧ Rep T F d v ∧ w d σ Kd ∧
  ∀ σ' τ', SR T ⟨pn, F0, G0⟩ F G σ' h τ' H → τ'.length = τ.length → (∀ i, i ∉ vs → τ'[i]? = τ[i]?) → Kd σ' → Q τ' H
def LGs (T : Tb) (pn : List (Addr × Obj)) (vs : List Nat) (w : List D → Env → (Env → Prop) → Prop) : TGs := fun us τ H Q => ∃ F0 G0 F G σ h ds Kd, SR T ⟨pn, F0, G0⟩ F G σ h τ H ∧ Reps T F ds us ∧ w ds σ Kd ∧
  ∀ σ' τ', SR T ⟨pn, F0, G0⟩ F G σ' h τ' H → τ'.length = τ.length → (∀ i, i ∉ vs → τ'[i]? = τ[i]?) → Kd σ' → Q τ' H
def Tgs.len : Tgs → Nat
  | .nil => 0
  | .cons _ ts => Tgs.len ts + 1
mutual
theorem bindT_mono : ∀ (t : Tg) (d : D) (σ : Env) (K K' : Env → Prop), (∀ σ', K σ' → K' σ') → bindT t d σ K → bindT t d σ K'
  | .name _, _, _, _, _, hk, h => hk _ h
  | .tup ts, d, σ, K, K', hk, h => by
    cases d with
    | tup l => exact bindTs_mono ts l σ K K' hk h
    | _ => exact h.elim
theorem bindTs_mono : ∀ (ts : Tgs) (l : List D) (σ : Env) (K K' : Env → Prop), (∀ σ', K σ' → K' σ') → bindTs ts l σ K → bindTs ts l σ K'
  | .nil, l, σ, K, K', hk, h => by
    cases l with
    | nil => exact hk _ h
    | cons _ _ => exact h.elim
  | .cons t ts, l, σ, K, K', hk, h => by
    cases l with
    | nil => exact h.elim
    | cons d r => exact bindT_mono t d σ _ _ (fun σ' h' => bindTs_mono ts r σ' K K' hk h') h
end
mutual
theorem bindT_dead : ∀ (t : Tg) (d : D) (σ : Env), ¬ bindT t d σ (fun _ => False)
  | .name _, _, _, h => h
  | .tup ts, d, σ, h => by
    cases d with
    | tup l => exact bindTs_dead ts l σ h
    | _ => exact h.elim
theorem bindTs_dead : ∀ (ts : Tgs) (l : List D) (σ : Env), ¬ bindTs ts l σ (fun _ => False)
  | .nil, l, σ, h => by
    cases l with
    | nil => exact h
    | cons _ _ => exact h.elim
  | .cons t ts, l, σ, h => by
    cases l with
    | nil => exact h.elim
    | cons d r => exact bindT_dead t d σ (bindT_mono t d σ _ _ (fun σ' h' => bindTs_dead ts r σ' h') h)
end
theorem bindTs_len : ∀ {l : List D} {ts : Tgs} {σ : Env} {K : Env → Prop}, bindTs ts l σ K → l.length = ts.len
  | [], .nil, _, _, _ => rfl
  | [], .cons _ _, _, _, h => h.elim
  | _ :: _, .nil, _, _, h => h.elim
  | d :: r, .cons t ts, σ, K, h => by
    refine congrArg (· + 1) ?_
    apply Classical.byContradiction
    intro hne
    exact bindT_dead t d σ (bindT_mono t d σ _ _ (fun σ' h' => hne (bindTs_len h')) h)
theorem each_none : ∀ {es : List Expr} {env : PySem.Env}, es.all noStar = true → (assignEach es env).length = es.length ∧ (assignEach es env).findIdx? (·.1) = none
  | [], _, _ => ⟨rfl, rfl⟩
  | e :: es, env, h => by
    rw [List.all_cons, Bool.and_eq_true] at h
    have e1 : assignEach (e :: es) env = (false, assign e env) :: assignEach es env := by
      have h1 := h.1
      cases e <;> first | rfl | cases h1
    obtain ⟨h1, h2⟩ := each_none (es := es) (env := env) h.2
    rw [e1]
    refine ⟨by rw [List.length_cons, h1]; rfl, ?_⟩
    rw [List.findIdx?_cons, h2]
    rfl
section
variable {X : Cx} {T : Tb} {vs : List Nat}
theorem PG.imp {e : Expr} {t t' : TG} (p : PG X e t) (h : ∀ v τ H Q, t' v τ H Q → t v τ H Q) : PG X e t' := ⟨fun pins s τ H v u Q I r q => p.run pins s τ H v u Q I r (h v τ H Q q)⟩
theorem PGs.imp {e : List Expr} {t t' : TGs} (p : PGs X e t) (h : ∀ v τ H Q, t' v τ H Q → t v τ H Q) : PGs X e t' := ⟨fun pins s τ H v u Q I r q => p.run pins s τ H v u Q I r (h v τ H Q q)⟩
theorem lg_name {i : Nat} {x : Str} {pos : Pos} (hN : X.N.Nodup) (hi : X.N[i]? = some x) (hx : Loc X.env.scope x) (hf : X.fn x = true ∨ X.env.scope.names.lookup x = some .local) (hv : i ∈ vs) : PG X (.Name x pos) (LG T X.pn vs (bindT (.name i))) :=
  PG.imp (pg_name hN hi hx hf) fun v τ H Q ⟨F0, G0, F, G, σ, h, d, Kd, sr, r, w, k⟩ => k _ _ (sr.store r) (by rw [List.length_set]) (fun j hj => by
    rw [List.getElem?_set_ne (fun e => by subst e; exact hj hv)]) w
theorem lgs_nil : PGs X [] (LGs T X.pn vs (bindTs .nil)) :=
  PGs.imp pgs_nil fun us τ H Q ⟨F0, G0, F, G, σ, h, ds, Kd, sr, r, w, k⟩ => by
    cases r with
    | nil => exact ⟨rfl, k σ τ sr rfl (fun _ _ => rfl) w⟩
    | cons _ _ => exact w.elim
theorem lgs_cons {t : Tg} {ts : Tgs} {e : Expr} {es : List Expr} (hs : noStar e = true) (h1 : PG X e (LG T X.pn vs (bindT t))) (h2 : PGs X es (LGs T X.pn vs (bindTs ts))) : PGs X (e :: es) (LGs T X.pn vs (bindTs (.cons t ts))) := by
  refine PGs.imp (pgs_cons h1 h2 (by cases e <;> first | rfl | cases hs)) fun us τ H Q ⟨F0, G0, F, G, σ, h, ds, Kd, sr, r, w, k⟩ => ?_
  cases r with
  | nil => exact w.elim
  | cons r rr =>
    exact ⟨_, _, rfl, F0, G0, F, G, σ, h, _, _, sr, r, w, fun σ1 τ1 sr1 l1 a1 w1 => ⟨F0, G0, F, G, σ1, h, _, Kd, sr1, rr, w1, fun σ2 τ2 sr2 l2 a2 w2 => k σ2 τ2 sr2 (l2.trans l1) (fun i hi => (a2 i hi).trans (a1 i hi)) w2⟩⟩
theorem lg_tup {ts : Tgs} {es : List Expr} {kk : Nat} {pos : Pos} (hK : X.K = T.K) (hc : X.calm = true) (hs : es.all noStar = true) (hl : es.length = ts.len) (h : PGs X es (LGs T X.pn vs (bindTs ts))) : PG X (.Tuple es kk pos) (LG T X.pn vs (bindT (.tup ts))) := by
  refine PG.imp (pg_tup (n := ts.len) hc h ((each_none hs).1.trans hl) (each_none hs).2) fun v τ H Q ⟨F0, G0, F, G, σ, h, d, Kd, sr, r, w, k⟩ => ?_
  cases r with
  | tup sq rl => exact ⟨_, _, rfl, hK ▸ Same.sqt sr.sh.sF sq, by rw [← rl.length]; exact bindTs_len w, F0, G0, F, G, σ, h, _, Kd, sr, rl, w, k⟩
  | _ => exact w.elim
end
/-! ### comprehensions -/
theorem wipe_in {σ : L2.St} {i : Nat} (hi : i < σ.length) : ∀ {vs : List Nat}, i ∈ vs → (L2.wipe σ vs)[i]? = some none
  | [], h => by cases h
  | v :: vs, h => by
    unfold L2.wipe
    by_cases e : v = i
    · subst e
      rw [List.getElem?_set_self (by rw [L2.wipe_length]; exact hi)]
    · rw [List.getElem?_set_ne e]
      exact wipe_in hi ((List.mem_cons.mp h).resolve_left (fun z => e z.symm))
theorem wipe_ext {σ τ : L2.St} {vs : List Nat} (hl : τ.length = σ.length) (h : ∀ i, i ∉ vs → τ[i]? = (L2.wipe σ vs)[i]?) : L2.wipe τ vs = L2.wipe σ vs := by
  apply List.ext_getElem?
  intro i
  by_cases hi : i ∈ vs
  · by_cases hl' : i < σ.length
    · rw [wipe_in hl' hi, wipe_in (hl ▸ hl') hi]
    · rw [List.getElem?_eq_none (by rw [L2.wipe_length]; omega), List.getElem?_eq_none (by rw [L2.wipe_length]; omega)]
  · rw [L2.wipe_out hi]; exact h i hi
/-- the tests' reading -/
def LTs (T : Tb) (pn : List (Addr × Obj)) (w : Env → AH → (Bool → AH → Prop) → Prop) : TT := fun τ H Q => ∃ F0 G0 F G σ h Kd, SR T ⟨pn, F0, G0⟩ F G σ h τ H ∧ w σ h Kd ∧ ∀ k h' F' H', Same F F' → SR T ⟨pn, F0, G0⟩ F' G σ h' τ H' → Kd k h' → Q k H'
section
variable {X : Cx} {T : Tb} {RR : RRt} {tg : Expr}
theorem PTs.imp {e : List Expr} {t t' : TT} (p : PTs X e t) (h : ∀ τ H Q, t' τ H Q → t τ H Q) : PTs X e t' := ⟨fun pins s τ H Q I q => p.run pins s τ H Q I (h τ H Q q)⟩
theorem lts_nil {Γ : Gam} : PTs X [] (LTs T X.pn (wpT Γ .nil)) :=
  PTs.imp pts_nil fun τ H Q ⟨F0, G0, F, G, σ, h, Kd, sr, w, k⟩ => k true h F H (Same.refl _) sr w
theorem PT.ex {α : Type} {e : Expr} {t : α → TT} (h : ∀ a, PT X e (t a)) : PT X e (fun τ H Q => ∃ a, t a τ H Q) := ⟨fun pins s τ H Q I ⟨a, q⟩ => (h a).run pins s τ H Q I q⟩
theorem PE.ex {α : Type} {e : Expr} {t : α → TE} (h : ∀ a, PE X e (t a)) : PE X e (fun τ H Q => ∃ a, t a τ H Q) := ⟨fun pins s τ H Q I ⟨a, q⟩ => (h a).run pins s τ H Q I q⟩
theorem lts_one {Γ : Gam} {c : E} {e : Expr} (h : ∀ F0 G0, PT X e (LT T X ⟨F0, G0, fun _ _ _ => False⟩ (wpE Γ c))) : PTs X [e] (LTs T X.pn (wpT Γ (.cons c .nil))) :=
  PTs.imp (pts_one (PT.ex (α := Hp × Hp) fun a => h a.1 a.2)) fun τ H Q ⟨F0, G0, F, G, σ, h, Kd, sr, w, k⟩ => ⟨(F0, G0), F, G, σ, h, Kd, sr, w, k⟩
/-- what a comprehension's rule asks, from ours -/
def LE0 (T : Tb) (w : Env → AH → QE → RE → Prop) : TE := fun τ H Q =>
  ∃ a : Hp × Hp, ∃ F G σ h Qd, SR T ⟨[], a.1, a.2⟩ F G σ h τ H ∧ w σ h Qd (fun _ _ => False) ∧ ∀ d h' v F' H', Same F F' → SR T ⟨[], a.1, a.2⟩ F' G σ h' τ H' → Rep T F' d v → Qd d h' → Q v H'
abbrev cStep (Γ : Gam) (t : Tg) (c : Es) (e : E) (own : List Nat) (σ : Env) : D → AH → (Option D → AH → Prop) → Prop :=
  fun d h K => bindT t d (σ.nox.wipe own) fun σ' => wpT Γ c σ' h (fun k h => if k = true then wpE Γ e σ' h (fun y h => K (some y) h) (fun _ _ => False) else K none h)
theorem lc_go {Γ : Gam} {t : Tg} {it : FF.It} {c : Es} {e : E} {own : List Nat} {τ : L2.St} {H : Hp} {Q : VK} (h : LE T X RR (wpE Γ (.comp t it c e own)) τ H Q) :
    tLc (LI T X RR (wpI Γ it)) (LG T [] own (bindT t)) (LTs T [] (wpT Γ c)) (LE0 T (wpE Γ e)) own τ H Q := by
  obtain ⟨F, G, σ, h, Qd, sr, w, k⟩ := h
  have w : wpI Γ it σ h (fun ds h => loopC (cStep Γ t c e own σ) ds [] h fun l h => Qd (.lst l) h) (fun x h' => RR.R x σ h') := w
  refine ⟨F, G, σ, h, _, sr, w, fun ds h1 J F1 H1 s1 sr1 gv w1 L hL => ?_⟩
  obtain ⟨G0, sh0, back⟩ := sr1.call
  have nG : G0 L = none := sh0.sG.free hL
  refine ⟨fun i m H2 => ∃ F2 h2 acc av, m = ds.length - i ∧ i ≤ ds.length ∧ Same F1 F2 ∧ SH T F2 (upd G0 L (.lst av)) h2 H2 ∧ Reps T F2 acc av ∧ loopC (cStep Γ t c e own σ) (ds.drop i) acc h2 fun l h => Qd (.lst l) h, ⟨ds.length, F1, h1, [], [], by simp, Nat.zero_le _, Same.refl _, sh0.hide hL, .nil, w1⟩, ?_⟩
  rintro i m H2 ⟨F2, h2, acc, av, rfl, hi, s2, sh2, ra, w2⟩
  have hD : H2 L = some (.lst av) := sh2.sG _ _ upd_same
  by_cases hlt : i < ds.length
  · refine .inr ⟨gv.go i H2 hlt (s2.trans sh2.sF), fun H3 => ∃ F2 h2 acc av, i + 1 ≤ ds.length ∧ Same F1 F2 ∧ SH T F2 (upd G0 L (.lst av)) h2 H3 ∧ Reps T F2 acc av ∧ loopC (cStep Γ t c e own σ) (ds.drop (i + 1)) acc h2 fun l h => Qd (.lst l) h,
      fun H' ⟨F3, h3, acc3, av3, q1, q2, q3, q4, q5⟩ => ⟨ds.length - (i + 1), by omega, F3, h3, acc3, av3, rfl, q1, q2, q3, q4, q5⟩, fun x H' y => ?_⟩
    obtain ⟨F3, g3, rx⟩ := gv.yld i H2 F2 x H' ds[i] (by simp [hlt]) s2 sh2.sF y
    have sh3 := sh2.grow g3
    have e1 : ds.drop i = ds[i] :: ds.drop (i + 1) := by rw [List.drop_eq_getElem_cons hlt]
    rw [e1] at w2
    have sr3 : SR T ⟨[], F3, upd G0 L (.lst av)⟩ F3 (upd G0 L (.lst av)) (σ.nox.wipe own) h2 (L2.wipe τ own) H' := (sr1.nox (s2.trans g3.f) sh3).wipe own
    have w3 : bindT t ds[i] (σ.nox.wipe own) (fun σ' => wpT Γ c σ' h2 (fun k h => if k = true then wpE Γ e σ' h (fun y h => acc.length < SL ∧ loopC (cStep Γ t c e own σ) (ds.drop (i + 1)) (acc ++ [y]) h fun l h => Qd (.lst l) h) (fun _ _ => False) else loopC (cStep Γ t c e own σ) (ds.drop (i + 1)) acc h fun l h => Qd (.lst l) h)) := w2
    refine ⟨_, _, F3, _, _, h2, ds[i], _, sr3, rx, w3, fun σ4 τ4 sr4 l4 a4 w4 => ⟨?_, _, _, F3, _, σ4, h2, _, sr4, w4, fun b h5 F5 H5 s5 sr5 w5 => ?_⟩⟩
    · exact wipe_ext (by rw [l4, L2.wipe_length]) a4
    · cases b with
      | false =>
        exact ⟨F5, h5, acc, av, hlt, (s2.trans g3.f).trans s5, sr5.sh, (ra.mono g3.f).mono s5, w5⟩
      | true =>
        refine ⟨(_, _), F5, _, σ4, h5, _, sr5, w5, fun d h6 v F6 H6 s6 sr6 r6 w6 => ?_⟩
        have hD6 : H6 L = some (.lst av) := sr6.sh.sG _ _ upd_same
        refine ⟨av, hD6, by rw [← ra.length, ← SL_eq]; exact w6.1, F6, h6, acc ++ [d], av ++ [v], hlt, ((s2.trans g3.f).trans s5).trans s6, sr6.sh.hidw, (((ra.mono g3.f).mono s5).mono s6).append (.one r6), w6.2⟩
  · have ei : i = ds.length := by omega
    subst ei
    refine .inl ⟨gv.stop H2 (s2.trans sh2.sF), ?_⟩
    rw [List.drop_length] at w2
    obtain ⟨sh4, fk⟩ := sh2.unhide nG
    exact k _ h2 _ _ H2 ((s1.trans s2).trans fk) (back _ h2 H2 (s2.trans fk) sh4) (.lst (SqL.of upd_same) (ra.mono fk)) w2
theorem le_comp {Γ : Gam} {t : Tg} {it : FF.It} {c : Es} {e : E} {elt iter : Expr} {ifs : List Expr} {scope : Scope} {own : List (Str × Nat)} {pos : Pos} (hc : X.calm = true) (hN : X.N.Nodup) (hi : PI X tg iter (LI T X RR (wpI Γ it))) (ok : BlkOk X.N X.env.scope scope own)
    (hg : ∀ (s : Shared) (H : Hp) (C : Addr) (cl : List (Str × Addr)) (fp : List Addr), PG (X.blk s H scope (compEnvC scope cl C X.env) fp) tg (LG T [] (own.map (·.2)) (bindT t))) (ht : ∀ (s : Shared) (H : Hp) (C : Addr) (cl : List (Str × Addr)) (fp : List Addr), PTs (X.blk s H scope (compEnvC scope cl C X.env) fp) ifs (LTs T [] (wpT Γ c)))
    (he : ∀ (s : Shared) (H : Hp) (C : Addr) (cl : List (Str × Addr)) (fp : List Addr), PE (X.blk s H scope (compEnvC scope cl C X.env) fp) elt (LE0 T (wpE Γ e))) (hs : ∀ x, foldedSetIterable iter X.env x = pure x) :
    PE X (.ListComp elt [⟨tg, iter, ifs, 0⟩] scope pos) (LE T X RR (wpE Γ (.comp t it c e (own.map (·.2))))) :=
  PE.imp (pe_lc hc hN hi ok hg ht he hs) fun τ H Q h => lc_go h
end
/-! ### the rest of the expressions -/
section
variable {X : Cx} {T : Tb} {RR : RRt}
theorem le_bits {Γ : Gam} {a : E} {e : Expr} {apos pos : Pos} (hsup : noSuper e = true) (hl : (apos.endLine == pos.line) = true) (ha : PE X e (LE T X RR (wpE Γ a))) : PE X (.Call (.Attribute e "bit_length" apos) [] [] pos) (LE T X RR (wpE Γ (.bits a))) :=
  PE.imp (pe_bits ha (base_ok hsup) hl) fun τ H Q ⟨F, G, σ, h, Qd, sr, w, k⟩ => ⟨F, G, σ, h, _, sr, w, fun d h1 v F1 H1 s1 sr1 r1 w1 => by
    cases r1 with
    | int => exact ⟨_, rfl, k _ h1 _ F1 H1 s1 sr1 (by rw [bits_eq]; exact .int) w1⟩
    | _ => exact False.elim w1⟩
theorem le_slRev {Γ : Gam} {a : E} {e : Expr} {k : Nat} {p1 p2 p3 pos : Pos} (hK : X.K = T.K) (ha : PE X e (LE T X RR (wpE Γ a))) : PE X (.Subscript e (.Slice none none (some (.UnaryOp .USub (.Constant (.int 1) k p1) p2)) p3) pos) (LE T X RR (wpE Γ (.slRev a))) := by
  refine PE.imp (pe_revL ha) fun τ H Q ⟨F, G, σ, h, Qd, sr, w, kk⟩ => ⟨F, G, σ, h, _, sr, w, fun d h1 v F1 H1 s1 sr1 r1 w1 => ?_⟩
  obtain ⟨c, vs, l, rfl, sq, rl, w2⟩ := asL_of (P := fun l => Qd (.lst l.reverse) h1) hK sr1 r1 w1
  refine ⟨c, vs, rfl, sq, fun p hp => ?_⟩
  have g := Grow.new (o := .lst vs.reverse) sr1.sh.sF hp
  exact kk _ h1 _ _ _ (s1.trans g.f) (sr1.grow g) (.lst (SqL.of upd_same) (rl.reverse.mono g.f)) w2
end
end FF

namespace FF
open PySem PySem.Spec PyProof.Rows L2

/-! ### isinstance -/
def Ty.nm : Ty → String
  | .int => "int" | .bool => "bool" | .str => "str" | .tup => "tuple" | .lst => "list" | .dict => "dict" | .obj _ => ""
def D.ty : D → String
  | .non => "NoneType" | .bl _ => "bool" | .int _ => "int" | .str _ => "str" | .tup _ => "tuple" | .lst _ => "list" | _ => ""
theorem isTy_kit {K : PySem.W.Frag} {t : Ty} {d : D} {b : Bool} (h : isTy t d = some b) : PySem.W.kitOne K (.type d.ty) (.type t.nm) = some b := by
  have k1 : kitB "int" "int" = some true := by decide +kernel
  have k2 : kitB "bool" "int" = some true := by decide +kernel
  have k3 : kitB "NoneType" "int" = some false := by decide +kernel
  have k4 : kitB "str" "int" = some false := by decide +kernel
  have k5 : kitB "tuple" "int" = some false := by decide +kernel
  have k6 : kitB "list" "int" = some false := by decide +kernel
  have b1 : kitB "int" "bool" = some false := by decide +kernel
  have b2 : kitB "bool" "bool" = some true := by decide +kernel
  have b3 : kitB "NoneType" "bool" = some false := by decide +kernel
  have b4 : kitB "str" "bool" = some false := by decide +kernel
  have b5 : kitB "tuple" "bool" = some false := by decide +kernel
  have b6 : kitB "list" "bool" = some false := by decide +kernel
  have t1 : kitB "int" "tuple" = some false := by decide +kernel
  have t2 : kitB "bool" "tuple" = some false := by decide +kernel
  have t3 : kitB "NoneType" "tuple" = some false := by decide +kernel
  have t4 : kitB "str" "tuple" = some false := by decide +kernel
  have t5 : kitB "tuple" "tuple" = some true := by decide +kernel
  have t6 : kitB "list" "tuple" = some false := by decide +kernel
  have l1 : kitB "int" "list" = some false := by decide +kernel
  have l2 : kitB "bool" "list" = some false := by decide +kernel
  have l3 : kitB "NoneType" "list" = some false := by decide +kernel
  have l4 : kitB "str" "list" = some false := by decide +kernel
  have l5 : kitB "tuple" "list" = some false := by decide +kernel
  have l6 : kitB "list" "list" = some true := by decide +kernel
  have s1 : kitB "int" "str" = some false := by decide +kernel
  have s2 : kitB "bool" "str" = some false := by decide +kernel
  have s3 : kitB "NoneType" "str" = some false := by decide +kernel
  have s4 : kitB "str" "str" = some true := by decide +kernel
  have s5 : kitB "tuple" "str" = some false := by decide +kernel
  have s6 : kitB "list" "str" = some false := by decide +kernel
  cases t <;> cases d <;> first
    | (have h' : (none : Option Bool) = some b := h; cases h')
    | (have h' := Option.some.inj h; subst h'; exact kit_ty (by assumption))
theorem tyX_of {T : Tb} {F H : Hp} {d : D} {v : V} {t : Ty} {b : Bool} (s : Same F H) (r : Rep T F d v) (h : isTy t d = some b) : TyX T.K H v (.type d.ty) := by
  cases r with
  | non => exact .base .non
  | bl => exact .base (.bl _)
  | int => exact .base (.int _)
  | str => exact .base (.str _)
  | tup sq rl =>
    rcases Same.sqt s sq with (z | ⟨o, z⟩) | ⟨o, _, _, h1, h2, _⟩
    · exact .base (.tup z)
    · exact .fTuple z
    · exact .kTuple h1 h2
  | lst sq rl =>
    rcases s.seq sq with (z | ⟨o, z⟩) | ⟨o, _, _, h1, h2, _⟩
    · exact .base (.lst z)
    · exact .base (.frz z)
    · exact .kList h1 h2
  | _ => cases t <;> cases h
section
variable {X : Cx} {T : Tb} {RR : RRt}
theorem le_isin {Γ : Gam} {a : E} {t : Ty} {e : Expr} {y : Str} {p p2 pos : Pos} (hK : X.K = T.K) (hg : Gl X "isinstance") (hm : X.mg "isinstance" = none) (hy : Gl X y) (hmy : X.mg y = none) (hv : bootBuiltins y = some (.type t.nm)) (hn : y ≠ "__name__") (hd : (y == ("__debug__" : Str)) = false)
    (hs : noStar e = true) (ha : PE X e (LE T X RR (wpE Γ a))) : PE X (.Call (.Name "isinstance" p) [e, .Name y p2] [] pos) (LE T X RR (wpE Γ (.isin a t))) := by
  have hty : PE X (.Name y p2) (tC (.ty t.nm)) := pe_bltn hy hmy hv rfl hn hd
  refine PE.imp (pe_callB call_isi hg hm boot_isinstance (pa_cons ha (pa_cons hty pa_nil (star_cons (e := .Name y p2) rfl)) (star_cons hs)) (by decide) (by decide) (star_cons hs) rfl) fun τ H Q ⟨F, G, σ, h, Qd, sr, w, k⟩ => ⟨F, G, σ, h, _, sr, w, fun d h1 v F1 H1 s1 sr1 r1 w1 => ?_⟩
  cases e1 : isTy t d with
  | none => rw [e1] at w1; exact False.elim w1
  | some b =>
    rw [e1] at w1
    exact ⟨v, .ty t.nm, .type d.ty, .type t.nm, b, rfl, .ty _, hK ▸ tyX_of sr1.sh.sF r1 e1, isTy_kit e1, k _ h1 _ F1 H1 s1 sr1 .bl w1⟩
end
/-! ### statements -/
def LS (T : Tb) (X : Cx) (RR : RRt) (w : Env → AH → Post → Prop) : TS := fun D τ H => ∃ F G σ h nx rt ct, SR T (RR.lk X) F G σ h τ H ∧ w σ h ⟨nx, rt, ct, RR.R⟩ ∧
  (∀ σ' h' τ' F' H', Same F F' → SR T (RR.lk X) F' G σ' h' τ' H' → nx σ' h' → D.nx τ' H') ∧
  (∀ d h' v σ' τ' F' H', Same F F' → SR T (RR.lk X) F' G σ' h' τ' H' → Rep T F' d v → rt d h' → D.rt v H') ∧
  (∀ σ' h' τ' F' H', Same F F' → SR T (RR.lk X) F' G σ' h' τ' H' → ct σ' h' → D.ct τ' H')
section
variable {X : Cx} {T : Tb} {RR : RRt} {Γ : Gam} {pos : Pos}
theorem lss_nil : PSs X [] (LS T X RR (wpSs Γ .nil)) :=
  PSs.imp pss_nil fun D τ H ⟨F, G, σ, h, nx, rt, ct, sr, w, k, _, _⟩ => k σ h τ F H (Same.refl _) sr w
theorem lss_cons {s : S} {r : Ss} {st : Stmt} {rest : List Stmt} (h1 : PS X st (LS T X RR (wpS Γ s))) (h2 : PSs X rest (LS T X RR (wpSs Γ r))) : PSs X (st :: rest) (LS T X RR (wpSs Γ (.cons s r))) :=
  PSs.imp (pss_cons h1 h2) fun D τ H ⟨F, G, σ, h, nx, rt, ct, sr, w, k1, k2, k3⟩ => ⟨F, G, σ, h, _, rt, ct, sr, w, fun σ1 h1 τ1 F1 H1 s1 sr1 w1 =>
    ⟨F1, G, σ1, h1, nx, rt, ct, sr1, w1, fun σ' h' τ' F' H' s => k1 σ' h' τ' F' H' (s1.trans s), fun d h' v σ' τ' F' H' s => k2 d h' v σ' τ' F' H' (s1.trans s), fun σ' h' τ' F' H' s => k3 σ' h' τ' F' H' (s1.trans s)⟩, k2, k3⟩
theorem lss_frz {i : Nat} {r : Ss} {rest : List Stmt} (h2 : PSs X rest (LS T X RR (wpSs Γ r))) : PSs X rest (LS T X RR (wpSs Γ (.cons (.frz i) r))) :=
  PSs.imp h2 fun D τ H ⟨F, G, σ, h, nx, rt, ct, sr, w, k1, k2, k3⟩ => by
    have w : (match σ.at i with
      | .own l => wpSs Γ r (σ.put i (.val (.lst l))) h ⟨nx, rt, ct, RR.R⟩
      | _ => False) := w
    cases e : σ.at i with
    | own l =>
      rw [e] at w
      obtain ⟨F1, s1, sr1⟩ := sr.frz e
      exact ⟨F1, G, _, h, nx, rt, ct, sr1, w, fun σ' h' τ' F' H' s => k1 σ' h' τ' F' H' (s1.trans s), fun d h' v σ' τ' F' H' s => k2 d h' v σ' τ' F' H' (s1.trans s), fun σ' h' τ' F' H' s => k3 σ' h' τ' F' H' (s1.trans s)⟩
    | _ => rw [e] at w; exact w.elim
theorem lss_never {r : Ss} {rest : List Stmt} : PSs X rest (LS T X RR (wpSs Γ (.cons .never r))) :=
  PSs.imp pss_never fun D τ H ⟨F, G, σ, h, nx, rt, ct, sr, w, _⟩ => w
theorem ls_pass : PS X (.Pass pos) (LS T X RR (wpS Γ .pass)) :=
  PS.imp ps_pass fun D τ H ⟨F, G, σ, h, nx, rt, ct, sr, w, k, _, _⟩ => k σ h τ F H (Same.refl _) sr w
theorem ls_cont : PS X (.Continue pos) (LS T X RR (wpS Γ .cont)) :=
  PS.imp ps_continue fun D τ H ⟨F, G, σ, h, nx, rt, ct, sr, w, _, _, k⟩ => k σ h τ F H (Same.refl _) sr w
theorem ls_retN : PS X (.Return none pos) (LS T X RR (wpS Γ .retN)) :=
  PS.imp ps_retN fun D τ H ⟨F, G, σ, h, nx, rt, ct, sr, w, _, k, _⟩ => k .non h _ σ τ F H (Same.refl _) sr .non w
theorem ls_ret {a : E} {e : Expr} (ha : PE X e (LE T X RR (wpE Γ a))) : PS X (.Return (some e) pos) (LS T X RR (wpS Γ (.ret a))) :=
  PS.imp (ps_ret ha) fun D τ H ⟨F, G, σ, h, nx, rt, ct, sr, w, _, k, _⟩ => ⟨F, G, σ, h, _, sr, w, fun d h' v F' H' s sr' r q => k d h' v σ τ F' H' s sr' r q⟩
theorem ls_expr {a : E} {e : Expr} (hs : swapsWith e none pos.line X.env = pure false) (ha : PE X e (LE T X RR (wpE Γ a))) : PS X (.Expr e pos) (LS T X RR (wpS Γ (.expr a))) :=
  PS.imp (ps_expr ha hs) fun D τ H ⟨F, G, σ, h, nx, rt, ct, sr, w, k, _, _⟩ => ⟨F, G, σ, h, _, sr, w, fun d h' v F' H' s sr' r q => k σ h' τ F' H' s sr' q⟩
theorem ls_doc {r : Ss} {x j p p'} {rest : List Stmt} (h2 : PSs X rest (LS T X RR (wpSs Γ r))) : PSs X (.Expr (.Constant (.str x) j p) p' :: rest) (LS T X RR (wpSs Γ r)) :=
  PSs.imp (pss_cons ps_doc h2) fun D τ H q => q
theorem ls_set {i : Nat} {a : E} {x : Str} {e : Expr} {p : Pos} (hN : X.N.Nodup) (hi : X.N[i]? = some x) (hx : Loc X.env.scope x) (hf : X.fn x = true ∨ X.env.scope.names.lookup x = some .local) (hs : swapsWith e (some (.Name x p)) pos.line X.env = pure false)
    (ha : PE X e (LE T X RR (wpE Γ a))) : PS X (.Assign [.Name x p] e pos) (LS T X RR (wpS Γ (.set i a))) :=
  PS.imp (ps_set hN hi hx ha hs hf) fun D τ H ⟨F, G, σ, h, nx, rt, ct, sr, w, k, _, _⟩ => ⟨F, G, σ, h, _, sr, w, fun d h' v F' H' s sr' r q => k _ h' _ F' H' s (sr'.store r) q⟩
theorem ls_setC {i : Nat} {t : Tg} {it : FF.It} {c : Es} {e : E} {y : Str} {tg elt iter : Expr} {ifs : List Expr} {scope : Scope} {own : List (Str × Nat)} {py lp : Pos} (hc : X.calm = true) (hN : X.N.Nodup) (hy : X.N[i]? = some y) (hyl : X.env.scope.names.lookup y = some .local)
    (hsw : swapsWith (.ListComp elt [⟨tg, iter, ifs, 0⟩] scope lp) (some (.Name y py)) pos.line X.env = pure true)
    (hi : PI X tg iter (LI T X RR (wpI Γ it))) (ok : BlkOk X.N X.env.scope scope own)
    (hg : ∀ (s : Shared) (H : Hp) (C : Addr) (cl : List (Str × Addr)) (fp : List Addr), PG (X.blk s H scope (compEnvC scope cl C X.env) fp) tg (LG T [] (own.map (·.2)) (bindT t))) (ht : ∀ (s : Shared) (H : Hp) (C : Addr) (cl : List (Str × Addr)) (fp : List Addr), PTs (X.blk s H scope (compEnvC scope cl C X.env) fp) ifs (LTs T [] (wpT Γ c)))
    (he : ∀ (s : Shared) (H : Hp) (C : Addr) (cl : List (Str × Addr)) (fp : List Addr), PE (X.blk s H scope (compEnvC scope cl C X.env) fp) elt (LE0 T (wpE Γ e))) (hs : ∀ x, foldedSetIterable iter X.env x = pure x) :
    PS X (.Assign [.Name y py] (.ListComp elt [⟨tg, iter, ifs, 0⟩] scope lp) pos) (LS T X RR (wpS Γ (.setC i (.comp t it c e (own.map (·.2)))))) :=
  PS.imp (ps_setLc hc hN hy hyl hsw hi ok hg ht he hs) fun D τ H ⟨F, G, σ, h, nx, rt, ct, sr, w, k, _, _⟩ =>
    lc_go (RR := RR) (X := X) ⟨F, G, σ, h, (fun d h => nx (σ.put i (.val d)) h), sr, w, fun d h' v F' H' s sr' r q => k _ h' _ F' H' s (sr'.store r) q⟩
theorem ls_ite {c : E} {a b : Ss} {ec : Expr} {ea eb : List Stmt} (hc : PT X ec (LT T X RR (wpE Γ c))) (ha : PSs X ea (LS T X RR (wpSs Γ a))) (hb : PSs X eb (LS T X RR (wpSs Γ b))) : PS X (.If ec ea eb pos) (LS T X RR (wpS Γ (.ite c a b))) := by
  refine PS.imp (ps_if hc ha hb) fun D τ H ⟨F, G, σ, h, nx, rt, ct, sr, w, k1, k2, k3⟩ => ?_
  refine ⟨F, G, σ, h, fun b0 h' => if b0 = true then wpSs Γ a σ h' ⟨nx, rt, ct, RR.R⟩ else wpSs Γ b σ h' ⟨nx, rt, ct, RR.R⟩, sr, w, fun b0 h1 F1 H1 s1 sr1 w1 => ?_⟩
  cases b0 with
  | true => exact ⟨F1, G, σ, h1, nx, rt, ct, sr1, w1, fun σ' h' τ' F' H' s => k1 σ' h' τ' F' H' (s1.trans s), fun d h' v σ' τ' F' H' s => k2 d h' v σ' τ' F' H' (s1.trans s), fun σ' h' τ' F' H' s => k3 σ' h' τ' F' H' (s1.trans s)⟩
  | false => exact ⟨F1, G, σ, h1, nx, rt, ct, sr1, w1, fun σ' h' τ' F' H' s => k1 σ' h' τ' F' H' (s1.trans s), fun d h' v σ' τ' F' H' s => k2 d h' v σ' τ' F' H' (s1.trans s), fun σ' h' τ' F' H' s => k3 σ' h' τ' F' H' (s1.trans s)⟩
theorem ls_setT {ts : Tgs} {a : E} {es : List Expr} {kk : Nat} {e : Expr} {p : Pos} {vs : List Nat} (hg : PG X (.Tuple es kk p) (LG T X.pn vs (bindT (.tup ts)))) (hs : swapsWithSole [.Tuple es kk p] e pos.line X.env = pure false) (hw : swappedStores [.Tuple es kk p] e X.env = pure none)
    (ha : PE X e (LE T X RR (wpE Γ a))) : PS X (.Assign [.Tuple es kk p] e pos) (LS T X RR (wpS Γ (.setT ts a))) :=
  PS.imp (ps_asg ha hg hs hw rfl) fun D τ H ⟨F, G, σ, h, nx, rt, ct, sr, w, k, _, _⟩ => ⟨F, G, σ, h, _, sr, w, fun d h1 v F1 H1 s1 sr1 r1 w1 => by
    have w2 : bindT (.tup ts) d σ (fun σ' => nx σ' h1) := w1
    exact ⟨_, _, F1, G, σ, h1, d, _, sr1, r1, w2, fun σ' τ' sr' _ _ q => k σ' h1 τ' F1 H1 s1 sr' q⟩⟩
theorem ls_setP {i j : Nat} {a b : E} {x y : Str} {ea eb : Expr} {px py pt : Pos} {kt k2 : Nat} {pt2 : Pos} (hc : X.calm = true) (hN : X.N.Nodup) (hi : X.N[i]? = some x) (hj : X.N[j]? = some y) (hij : i ≠ j)
    (hx : X.env.scope.names.lookup x = some .local) (hy : X.env.scope.names.lookup y = some .local) (hsa : noStar ea = true) (hsb : noStar eb = true)
    (hw : swappedStores [.Tuple [.Name x px, .Name y py] kt pt] (.Tuple [ea, eb] k2 pt2) X.env = pure (some [x, y]))
    (hs : swapsWithSole [.Tuple [.Name x px, .Name y py] kt pt] (.Tuple [ea, eb] k2 pt2) pos.line X.env = pure false)
    (ha : PE X ea (LE T X RR (wpE Γ a))) (hb : PE X eb (LE T X RR (wpE Γ b))) : PS X (.Assign [.Tuple [.Name x px, .Name y py] kt pt] (.Tuple [ea, eb] k2 pt2) pos) (LS T X RR (wpS Γ (.setP i j a b))) := by
  refine PS.imp (ps_par hc hN hi hj hij hx hy (pa_cons ha (pa_cons hb pa_nil (star_cons hsb)) (star_cons hsa)) hw hs) fun D τ H ⟨F, G, σ, h, nx, rt, ct, sr, w, k, _, _⟩ => ?_
  exact ⟨F, G, σ, h, _, sr, w, fun d1 h1 v1 F1 H1 s1 sr1 r1 w1 => ⟨F1, G, σ, h1, _, sr1, w1, fun d2 h2 v2 F2 H2 s2 sr2 r2 w2 => ⟨_, _, rfl, k _ h2 _ F2 H2 (s1.trans s2) ((sr2.store (r1.mono s2)).store r2) w2⟩⟩⟩
theorem ls_setFld {c f : Nat} {o a : E} {eo e : Expr} {x : Str} {p : Pos} (hK : X.K = T.K) (hx : T.tbl[f]? = some x) (na : NoAttr T.K (T.cA c) x) (hs : swapsWith e (some (.Attribute eo x p)) pos.line X.env = pure false)
    (ho : PE X eo (LE T X RR (wpE Γ o))) (ha : PE X e (LE T X RR (wpE Γ a))) : PS X (.Assign [.Attribute eo x p] e pos) (LS T X RR (wpS Γ (.setFld c o f a))) := by
  refine PS.imp (ps_fld ho ha hs) fun D τ H ⟨F, G, σ, h, nx, rt, ct, sr, w, k, _, _⟩ => ⟨F, G, σ, h, _, sr, w, fun d h1 v F1 H1 s1 sr1 r1 w1 => ⟨F1, G, σ, h1, _, sr1, w1, fun y h2 u F2 H2 s2 sr2 r2 w2 => ?_⟩⟩
  cases r2 with
  | ref =>
    rename_i ad
    have w2 : (match h2 ad with
      | some (.obj c' fs) => (c' = c ∧ fs.length < 1000) ∧ nx σ (h2.put ad (.obj c (FF.putF f d fs)))
      | _ => False) := w2
    cases e1 : h2 ad with
    | none => rw [e1] at w2; exact w2.elim
    | some cc =>
      rw [e1] at w2
      cases cc with
      | lst l => exact w2.elim
      | obj c' fs =>
        obtain ⟨⟨ec, hl⟩, w2⟩ := w2
        subst ec
        obtain ⟨_, _, dx, fvs, e2, cl, rf⟩ := sr2.sh.cell ad _ e1
        refine ⟨ad, T.cA c', dx, fvs, rfl, e2, hK ▸ cl, hK ▸ na, by rw [← rf.length]; exact hl, ?_⟩
        exact k _ _ _ F2 _ (s1.trans s2) (sr2.write (c := .obj c' (FF.putF f d fs)) e1 ⟨dx, _, upd_same, cl, rf.put ⟨hx, na⟩ (r1.mono s2)⟩) w2
  | _ => exact False.elim w2
theorem ls_setIdx {o i a : E} {eo ei e : Expr} {p : Pos} (ha0 : ∀ v, assign (.Subscript eo ei p) X.env v = (do
      let ov ← holding [v] (eval eo X.env)
      let iv ← holding [v, ov] (eval ei X.env)
      standAt p
      holding [v, ov, iv] (setItem ov iv v)
      release [v, ov, iv] [])) (hs : swapsWithSole [.Subscript eo ei p] e pos.line X.env = pure false) (hw : swappedStores [.Subscript eo ei p] e X.env = pure none)
    (ho : PE X eo (LE T X RR (wpE Γ o))) (hi : PE X ei (LE T X RR (wpE Γ i))) (ha : PE X e (LE T X RR (wpE Γ a))) : PS X (.Assign [.Subscript eo ei p] e pos) (LS T X RR (wpS Γ (.setIdx o i a))) := by
  refine PS.imp (ps_asg ha (pg_sub ho hi set_list ha0) hs hw rfl) fun D τ H ⟨F, G, σ, h, nx, rt, ct, sr, w, k, _, _⟩ => ⟨F, G, σ, h, _, sr, w, fun d h1 v F1 H1 s1 sr1 r1 w1 => ⟨F1, G, σ, h1, _, sr1, w1, fun x h2 u F2 H2 s2 sr2 r2 w2 => ⟨F2, G, σ, h2, _, sr2, w2, fun y h3 u3 F3 H3 s3 sr3 r3 w3 => ?_⟩⟩⟩
  cases r3 with
  | int =>
    rename_i kk
    cases r2 with
    | ref =>
      rename_i ad
      have w3 : (match h3 ad with
        | some (.lst l) => (match ixP l.length kk with
          | some j => nx σ (h3.put ad (.lst (l.set j d)))
          | none => False)
        | _ => False) := w3
      cases e1 : h3 ad with
      | none => rw [e1] at w3; exact w3.elim
      | some cc =>
        rw [e1] at w3
        cases cc with
        | obj c' fs => exact w3.elim
        | lst l =>
          cases e2 : ixP l.length kk with
          | none => simp only [e2] at w3
          | some j =>
            simp only [e2] at w3
            obtain ⟨_, _, vs, e3, rl⟩ := sr3.sh.cell ad _ e1
            refine ⟨ad, vs, kk, j, rfl, rfl, e3, by rw [← rl.length]; exact e2, ?_⟩
            exact k _ _ _ F3 _ (s1.trans (s2.trans s3)) (sr3.write (c := .lst (l.set j d)) e1 ⟨_, upd_same, Reps.set ((r1.mono s2).mono s3) j rl⟩) w3
    | _ => exact False.elim w3
  | _ => cases r2 <;> exact False.elim w3
/-! ### loops -/
theorem ls_whl {c : E} {b : Ss} {ec : Expr} {eb : List Stmt} (hp : PassesOwn (model X.prog X.w) X.A X.env X.xe) (hc : PT X ec (LT T X RR (wpE Γ c))) (hb : PSs X eb (LS T X RR (wpSs Γ b))) : PS X (.While ec eb [] pos) (LS T X RR (wpS Γ (.whl c b))) := by
  refine PS.imp (ps_while hp hc hb) fun D τ H ⟨F, G, σ, h, nx, rt, ct, sr, ⟨W, ⟨m0, w0⟩, st⟩, k1, k2, k3⟩ => ?_
  refine ⟨fun m τ H => ∃ F1 σ h, Same F F1 ∧ SR T (RR.lk X) F1 G σ h τ H ∧ W m σ h, ⟨m0, F, σ, h, Same.refl _, sr, w0⟩, ?_⟩
  rintro m τ1 H1 ⟨F1, σ1, h1, s1, sr1, w1⟩
  refine ⟨F1, G, σ1, h1, fun b0 h' => if b0 = true then wpSs Γ b σ1 h' ⟨fun σ h => ∃ m', m' < m ∧ W m' σ h, rt, fun σ h => ∃ m', m' < m ∧ W m' σ h, RR.R⟩ else nx σ1 h', sr1, st m σ1 h1 w1, fun b0 h2 F2 H2 s2 sr2 w2 => ?_⟩
  cases b0 with
  | true =>
    refine ⟨fun τ H => ∃ m', m' < m ∧ ∃ F1 σ h, Same F F1 ∧ SR T (RR.lk X) F1 G σ h τ H ∧ W m' σ h, fun σ' H' q => q, F2, G, σ1, h2, _, _, _, sr2, w2, fun σ' h' τ' F' H' s sr' ⟨m', hm, w'⟩ => ⟨m', hm, F', σ', h', s1.trans (s2.trans s), sr', w'⟩, fun d h' v σ' τ' F' H' s => k2 d h' v σ' τ' F' H' (s1.trans (s2.trans s)), fun σ' h' τ' F' H' s sr' ⟨m', hm, w'⟩ => ⟨m', hm, F', σ', h', s1.trans (s2.trans s), sr', w'⟩⟩
  | false => exact k1 σ1 h2 τ1 F2 H2 (s1.trans s2) sr2 w2
theorem ls_for {t : Tg} {it : FF.It} {b : Ss} {tg iter : Expr} {eb : List Stmt} {vs : List Nat} (hp : PassesOwn (model X.prog X.w) X.A X.env X.xe) (hc : X.calm = true) (hi : PI X tg iter (LI T X RR (wpI Γ it))) (hg : PG X tg (LG T X.pn vs (bindT t))) (hb : PSs X eb (LS T X RR (wpSs Γ b)))
    (hs : ∀ x, foldedSetIterable iter X.env x = pure x) : PS X (.For tg iter eb [] pos) (LS T X RR (wpS Γ (.for_ t it b))) := by
  refine PS.imp (ps_for hp hc hi hg hb hs) fun D τ H ⟨F, G, σ, h, nx, rt, ct, sr, w, k1, k2, k3⟩ => ⟨F, G, σ, h, _, sr, w, fun ds h1 J F1 H1 s1 sr1 gv w1 => ?_⟩
  refine ⟨fun i m τ H => ∃ F2 σ h, m = ds.length - i ∧ i ≤ ds.length ∧ Same F1 F2 ∧ SR T (RR.lk X) F2 G σ h τ H ∧ forL (fun σ h P => wpSs Γ b σ h P) (bindT t) (ds.drop i) σ h ⟨nx, rt, ct, RR.R⟩, ⟨ds.length, F1, σ, h1, by simp, Nat.zero_le _, Same.refl _, sr1, w1⟩, ?_⟩
  rintro i m τ2 H2 ⟨F2, σ2, h2, rfl, hi, s2, sr2, w2⟩
  by_cases hlt : i < ds.length
  · refine .inr ⟨gv.go i H2 hlt (s2.trans sr2.sh.sF), fun τ3 H3 => ∃ F3 σ h, i + 1 ≤ ds.length ∧ Same F1 F3 ∧ SR T (RR.lk X) F3 G σ h τ3 H3 ∧ forL (fun σ h P => wpSs Γ b σ h P) (bindT t) (ds.drop (i + 1)) σ h ⟨nx, rt, ct, RR.R⟩, fun σ' H' ⟨F3, σ3, h3, q1, q2, q3, q4⟩ => ⟨ds.length - (i + 1), by omega, F3, σ3, h3, rfl, q1, q2, q3, q4⟩, fun x H' y => ?_⟩
    obtain ⟨F3, g3, rx⟩ := gv.yld i H2 F2 x H' ds[i] (by simp [hlt]) s2 sr2.sh.sF y
    have sr3 := sr2.grow g3
    rw [List.drop_eq_getElem_cons hlt] at w2
    refine ⟨_, _, F3, G, σ2, h2, ds[i], _, sr3, rx, w2, fun σ4 τ4 sr4 _ _ w4 => ⟨F3, G, σ4, h2, _, _, _, sr4, w4, ?_, ?_, ?_⟩⟩
    · exact fun σ' h' τ' F' H' s sr' w' => ⟨F', σ', h', hlt, s2.trans (g3.f.trans s), sr', w'⟩
    · exact fun d h' v σ' τ' F' H' s => k2 d h' v σ' τ' F' H' (s1.trans (s2.trans (g3.f.trans s)))
    · exact fun σ' h' τ' F' H' s sr' w' => ⟨F', σ', h', hlt, s2.trans (g3.f.trans s), sr', w'⟩
  · have ei : i = ds.length := by omega
    subst ei
    rw [List.drop_length] at w2
    exact .inl ⟨gv.stop H2 (s2.trans sr2.sh.sF), k1 σ2 h2 τ2 F2 H2 (s1.trans s2) sr2 w2⟩
/-! ### own lists -/
def LF (T : Tb) (X : Cx) (RR : RRt) (w : Env → AH → (List D → AH → Prop) → RE → Prop) : TE := fun τ H Q =>
  ∃ F G σ h Kd, SR T (RR.lk X) F G σ h τ H ∧ w σ h Kd (fun x h' => RR.R x σ h') ∧ ∀ ds h' vs F' H' p, Same F F' → SR T (RR.lk X) F' G σ h' τ H' → Reps T F' ds vs → H' p = none → Kd ds h' → Q (.ref p) (upd H' p (.lst vs))
theorem lf_lst {n : Nat} {es : Es} {l : List Expr} (h : PA X l (LA T X RR n (wpEs Γ es))) : PE X (.List l pos) (LF T X RR (wpF Γ (.lst es))) :=
  PE.imp (pe_lst h) fun τ H Q ⟨F, G, σ, h, Kd, sr, w, k⟩ => ⟨F, G, σ, h, _, sr, w, fun ds h1 vs F1 H1 _ s1 sr1 r1 ⟨w1, w2⟩ => ⟨by rw [← r1.length, ← SL_eq]; exact w1, fun p hp => k ds h1 vs F1 H1 p s1 sr1 r1 hp w2⟩⟩
theorem lf_add {a b : E} {ea eb : Expr} (hK : X.K = T.K) (ha : PE X ea (LE T X RR (wpE Γ a))) (hb : PE X eb (LE T X RR (wpE Γ b))) : PE X (.BinOp ea .Add eb pos) (LF T X RR (wpF Γ (.bin .add a b))) := by
  refine PE.imp (pe_op op_catS ha hb) fun τ H Q ⟨F, G, σ, h, Kd, sr, w, k⟩ => ⟨F, G, σ, h, _, sr, w, fun x h1 v1 F1 H1 s1 sr1 r1 w1 => ⟨F1, G, σ, h1, _, sr1, w1, fun y h2 v2 F2 H2 s2 sr2 r2 w2 => ?_⟩⟩
  cases r1 with
  | lst q1 l1 =>
    cases r2 with
    | lst q2 l2 =>
      obtain ⟨w2, w3⟩ := w2
      refine ⟨_, _, _, _, rfl, rfl, hK ▸ sr2.sh.sF.seq (s2.seq q1), hK ▸ sr2.sh.sF.seq q2, by rw [← l1.length, ← l2.length, ← SL_eq]; exact w2, fun p hp => ?_⟩
      exact k _ h2 _ F2 H2 p (s1.trans s2) sr2 ((l1.mono s2).append l2) hp w3
    | _ => exact False.elim w2
  | _ => cases r2 <;> exact False.elim w2
theorem ls_setOwn {i : Nat} {a : E} {x : Str} {e : Expr} {p : Pos} (hN : X.N.Nodup) (hi : X.N[i]? = some x) (hx : Loc X.env.scope x) (hf : X.fn x = true ∨ X.env.scope.names.lookup x = some .local) (hs : swapsWith e (some (.Name x p)) pos.line X.env = pure false)
    (ha : PE X e (LF T X RR (wpF Γ a))) : PS X (.Assign [.Name x p] e pos) (LS T X RR (wpS Γ (.setOwn i a))) :=
  PS.imp (ps_set hN hi hx ha hs hf) fun D τ H ⟨F, G, σ, h, nx, rt, ct, sr, w, k, _, _⟩ => ⟨F, G, σ, h, _, sr, w, fun ds h' vs F' H' p s sr' r hp q => k _ h' _ F' _ s (sr'.newown hp r) q⟩
theorem ls_app {i : Nat} {a : E} {x : Str} {e : Expr} {px apos cpos : Pos} (hK : X.K = T.K) (hN : X.N[i]? = some x) (hv : Vis X.env.scope x) (hd : (x == ("__debug__" : Str)) = false) (hcd : (x == ("__classdict__" : Str)) = false) (hl : (apos.endLine == cpos.line) = true) (hs : noStar e = true)
    (hsup : noSuper (.Name x px) = true) (ha : PE X e (LE T X RR (wpE Γ a))) : PS X (.Expr (.Call (.Attribute (.Name x px) "append" apos) [e] [] cpos) pos) (LS T X RR (wpS Γ (.app i a))) := by
  have hA := pa_cons ha pa_nil (star_cons hs)
  have few : ((backTo cpos (starEach [e] X.env)).all (fun x => !x.1) && (backToKw cpos (keywordEach [] X.env)).all (fun x => x.1.isSome)
      && decide (([e] : List Expr).length + ([] : List Keyword).length + (if ([] : List Keyword).isEmpty then 0 else 1) < 30)) = true := by
    rw [star_all (es := [e]) (by simp [hs])]
    rfl
  refine PS.imp (ps_expr (pe_bm PySem.F.plainAttrs_list PySem.F.slot_list_append PySem.F.type_list_append mt_append (pe_var hN hv hd hcd) hA (base_ok hsup) few hl (star_cons hs) rfl) rfl) fun D τ H ⟨F, G, σ, h, nx, rt, ct, sr, w, k, _, _⟩ => ?_
  have w : (match σ.at i with
    | .own l => wpE Γ a σ h (fun d h => l.length < SL ∧ nx (σ.put i (.own (l ++ [d]))) h) (fun x h => RR.R x σ h)
    | _ => False) := w
  cases e0 : σ.at i with
  | own l =>
    rw [e0] at w
    have q0 := sr.slot i
    rw [e0] at q0
    obtain ⟨ad, vs, p1, p2, p3, p4, p5, rl⟩ := q0
    refine ⟨.ref ad, p1, .inl ⟨rfl, vs, SqL.of p2⟩, F, G, σ, h, _, sr, w, fun d h1 v F1 H1 s1 sr1 r1 w1 => ?_⟩
    have q1 := sr1.slot i
    rw [e0] at q1
    obtain ⟨ad', vs', p1', p2', p3', p4', p5', rl'⟩ := q1
    have : ad = ad' := by rw [p1] at p1'; exact V.ref.inj (Option.some.inj (Option.some.inj p1'))
    subst this
    refine ⟨ad, vs', v, rfl, rfl, p2', by rw [← rl'.length, ← SL_eq]; exact w1.1, ?_⟩
    exact k _ h1 _ F1 _ s1 (sr1.setown e0 p1 (rl'.append (.one r1))) w1.2
  | _ => rw [e0] at w; exact w.elim
end
end FF

namespace FF
open PySem PySem.Spec PyProof.Rows L2

/-! ### what is checked -/
structure Wd where
  fns : List (Nat × Str)
  fnK : List (Nat × Str × Nat × List Str × List Nat)
  fnD : List (Nat × Str × List D)
  cons : List (Nat × Str × D)
  tbl : List Str
  cv : Bool
/-- the same constant -/
def D.same : D → D → Bool
  | .non, .non => true
  | .bl a, .bl b => a == b
  | .int a, .int b => decide (a = b)
  | .str a, .str b => decide (a = b)
  | _, _ => false
theorem D.same_ok {a b : D} (h : D.same a b = true) : a = b := by
  cases a <;> cases b <;> first
    | rfl
    | (exact congrArg D.bl (beq_iff_eq.mp h))
    | (exact congrArg D.int (of_decide_eq_true h))
    | (exact congrArg D.str (of_decide_eq_true h))
    | cases h
def sameL : List D → List D → Bool
  | [], [] => true
  | a :: r, b :: s => D.same a b && sameL r s
  | _, _ => false
theorem sameL_ok : ∀ {a b : List D}, sameL a b = true → a = b
  | [], [], _ => rfl
  | [], _ :: _, h => by cases h
  | _ :: _, [], h => by cases h
  | a :: r, b :: s, h => by
    obtain ⟨h1, h2⟩ := Bool.and_eq_true_iff.mp (show (D.same a b && sameL r s) = true from h)
    rw [D.same_ok h1, sameL_ok h2]
structure CK where
  N : List Str
  names : List (Str × NameKind)
  fnb : Str → Bool
def stdNames : List Str := ["abs", "int", "len", "max", "min", "sum", "all", "any", "range", "zip", "enumerate", "isinstance", "bool", "str", "tuple", "list"]
def CK.see (C : CK) (i : Nat) (x : Str) : Bool := decide (C.N[i]? = some x) && (match C.names.lookup x with | some .local => true | some .cell => true | some .free => true | _ => false) && !(x == ("__debug__" : Str)) && !(x == ("__classdict__" : Str))
def CK.own (C : CK) (i : Nat) (x : Str) : Bool := decide (C.N[i]? = some x) && (match C.names.lookup x with | some .local => true | some .cell => C.fnb x | _ => false)
def CK.loc (C : CK) (i : Nat) (x : Str) : Bool := decide (C.N[i]? = some x) && decide (C.names.lookup x = some .local)
def CK.gl (C : CK) (x : Str) : Bool := decide (C.names.lookup x = some .globalImplicit) && !(x == ("__debug__" : Str))
def relN (names : List (Str × NameKind)) (up : List (Str × NameKind)) : List (Str × NameKind) := names.map fun (n, k) => if (k == .free && up.lookup n == some .cell) then (n, .cell) else (n, k)
def CK.blk (C : CK) (scope : Scope) : CK := ⟨C.N, relN scope.names C.names, fun x => scope.names.lookup x == some .cell⟩
def CK.sc (C : CK) : Scope := { kind := .function, names := C.names, isGenerator := false, isCoroutine := false, more := [] }
def noSet : Expr → Bool
  | .Set _ _ _ => false
  | _ => true
def noComp : Expr → Bool
  | .ListComp _ _ _ _ => false
  | .SetComp _ _ _ _ => false
  | .DictComp _ _ _ _ _ => false
  | _ => true
/-- a test whose truth is read off -/
def tst : Expr → Bool
  | .IfExp _ _ _ _ => false
  | _ => true
def Bi.nm : Bi → String
  | .abs => "abs" | .int => "int" | .len => "len" | .max => "max" | .min => "min" | .sum => "sum" | .all => "all" | .any => "any" | _ => ""
def Bi.on : Bi → Bool
  | .abs => true | .int => true | .len => true | .max => true | .min => true | .sum => true | .all => true | .any => true | _ => false
def Ty.on : Ty → Bool
  | .int => true | .bool => true | .str => true | .tup => true | .lst => true | _ => false
def Es.len : Es → Nat
  | .nil => 0
  | .cons _ r => Es.len r + 1
def ownP (C : CK) (own : List Nat) : List (Str × Nat) := own.map fun i => ((C.N[i]?).getD ("" : Str), i)
mutual
def chkT (C : CK) (own : List Nat) : Tg → Expr → Bool
  | .name i, x => match x with
    | .Name n _ => C.own i n && decide (i ∈ own)
    | _ => false
  | .tup ts, x => match x with
    | .Tuple es _ _ => decide (es.length = ts.len) && chkTs C own ts es
    | _ => false
def chkTs (C : CK) (own : List Nat) : Tgs → List Expr → Bool
  | .nil, l => l.isEmpty
  | .cons t ts, l => match l with
    | x :: xs => noStar x && (chkT C own t x && chkTs C own ts xs)
    | [] => false
end
mutual
def chkE (W : Wd) (C : CK) : E → Expr → Bool
  | .var i, x => match x with
    | .Name n _ => C.see i n
    | _ => false
  | .int i, x => match x with
    | .Constant (.int j) _ _ => decide (i = j)
    | _ => false
  | .bl b, x => match x with
    | .Constant (.bool c) _ _ => b == c
    | _ => false
  | .non, x => match x with
    | .Constant .none _ _ => true
    | _ => false
  | .str s, x => match x with
    | .Constant (.str y) _ _ => decide (sOf s = y)
    | _ => false
  | .gcon g d, x => match x with
    | .Name y _ => (W.cons.any fun q => decide (q.1 = g) && decide (q.2.1 = y) && D.same q.2.2 d) && C.gl y
    | _ => false
  | .gfn n, x => match x with
    | .Name y _ => decide ((n, y) ∈ W.fns) && C.gl y
    | _ => false
  | .bin op a b, x => match x with
    | .BinOp l o r _ => decide (o = opM op) && (chkE W C a l && chkE W C b r)
    | _ => false
  | .neg a, x => match x with
    | .UnaryOp .USub y _ => chkE W C a y
    | _ => false
  | .not a, x => match x with
    | .UnaryOp .Not y _ => tst y && chkE W C a y
    | _ => false
  | .ands es, x => match x with
    | .BoolOp .And l _ => decide (0 < es.len) && chkEs W C es l
    | _ => false
  | .ors es, x => match x with
    | .BoolOp .Or l _ => decide (0 < es.len) && chkEs W C es l
    | _ => false
  | .cmp op a b, x => match x with
    | .Compare l [o] [r] _ => decide (o = copM op) && noSet r && (chkE W C a l && chkE W C b r)
    | _ => false
  | .chain o1 o2 a b c, x => match x with
    | .Compare l [p1, p2] [r, s] _ => decide (p1 = copM o1) && decide (p2 = copM o2) && noSet s && (chkE W C a l && (chkE W C b r && chkE W C c s))
    | _ => false
  | .ite c a b, x => match x with
    | .IfExp t y z _ => tst t && (chkE W C c t && (chkE W C a y && chkE W C b z))
    | _ => false
  | .tup es, x => match x with
    | .Tuple l _ _ => chkEs W C es l
    | _ => false
  | .lst es, x => match x with
    | .List l _ => chkEs W C es l
    | _ => false
  | .refl es, x => match x with
    | .List l _ => chkEs W C es l
    | _ => false
  | .call f es dv, x => match x with
    | .Call (.Name y _) l [] _ => ((decide ((f, y) ∈ W.fns) && dv.isEmpty) || ((W.fnD.any fun q => decide (q.1 = f) && decide (q.2.1 = y) && sameL q.2.2 dv) && !l.isEmpty)) && C.gl y && chkEs W C es l
    | _ => false
  | .callk f es ks p, x => match x with
    | .Call (.Name y _) l kws _ => (W.fnK.any fun q => decide (q.1 = f) && decide (q.2.1 = y) && decide (q.2.2.1 = es.len) && decide (kws.map (·.arg) = q.2.2.2.1.map some) && decide (q.2.2.2.2 = p)) && C.gl y && (chkEs W C es l && chkKs W C ks kws)
    | _ => false
  | .callv i es, x => match x with
    | .Call (.Name y _) (e :: l) [] _ => W.cv && C.see i y && chkEs W C es (e :: l)
    | _ => false
  | .meth _ _ _ _ _, _ => false
  | .make _ _ _ _, _ => false
  | .bi b es, x => match x with
    | .Call (.Name y _) (e :: l) [] _ => b.on && decide (y = Str.ofString b.nm) && C.gl y && chkEs W C es (e :: l)
    | _ => false
  | .isin e t, x => match x with
    | .Call (.Name f _) [y, .Name z _] [] _ => t.on && decide (f = ("isinstance" : Str)) && decide (z = Str.ofString t.nm) && C.gl f && C.gl z && noStar y && chkE W C e y
    | _ => false
  | .bits o, x => match x with
    | .Call (.Attribute y m ap) [] [] p => decide (m = ("bit_length" : Str)) && noSuper y && (ap.endLine == p.line) && chkE W C o y
    | _ => false
  | .count _ _, _ => false
  | .fld o f, x => match x with
    | .Attribute y a _ => decide (W.tbl[f]? = some a) && noSuper y && chkE W C o y
    | _ => false
  | .xfld _, _ => false
  | .idx o i, x => match x with
    | .Subscript y z _ => noSlice z && (chkE W C o y && chkE W C i z)
    | _ => false
  | .slTo o b, x => match x with
    | .Subscript y (.Slice none (some z) none _) _ => chkE W C o y && chkE W C b z
    | _ => false
  | .slFrom o a, x => match x with
    | .Subscript y (.Slice (some z) none none _) _ => chkE W C o y && chkE W C a z
    | _ => false
  | .slOf o a b, x => match x with
    | .Subscript y (.Slice (some z) (some w) none _) _ => chkE W C o y && (chkE W C a z && chkE W C b w)
    | _ => false
  | .slRev o, x => match x with
    | .Subscript y (.Slice none none (some (.UnaryOp .USub (.Constant (.int 1) _ _) _)) _) _ => chkE W C o y
    | _ => false
  | .comp t it c e own, x => match x with
    | .ListComp elt [⟨tg, iter, ifs, 0⟩] scope _ => blkC C.N C.sc scope (ownP C own) && noSet iter && (chkI W C it iter tg && (chkT (C.blk scope) own t tg && (chkC W (C.blk scope) c ifs && chkE W (C.blk scope) e elt)))
    | _ => false
def chkC (W : Wd) (C : CK) : Es → List Expr → Bool
  | .nil, l => l.isEmpty
  | .cons e r, l => match l with
    | [x] => tst x && (chkE W C e x && (match r with | .nil => true | .cons _ _ => false))
    | _ => false
def chkEs (W : Wd) (C : CK) : Es → List Expr → Bool
  | .nil, l => l.isEmpty
  | .cons e r, l => match l with
    | x :: xs => noStar x && tst x && (chkE W C e x && chkEs W C r xs)
    | [] => false
def chkKs (W : Wd) (C : CK) : Es → List Keyword → Bool
  | .nil, l => l.isEmpty
  | .cons e r, l => match l with
    | ⟨_, x, _⟩ :: xs => chkE W C e x && chkKs W C r xs
    | [] => false
def chkI (W : Wd) (C : CK) : It → Expr → Expr → Bool
  | .seq e, x, _ => chkE W C e x
  | .rng1 a, x, _ => match x with
    | .Call (.Name y _) [u] [] _ => decide (y = ("range" : Str)) && C.gl y && noStar u && chkE W C a u
    | _ => false
  | .rng2 a b, x, _ => match x with
    | .Call (.Name y _) [u, v] [] _ => decide (y = ("range" : Str)) && C.gl y && noStar u && noStar v && (chkE W C a u && chkE W C b v)
    | _ => false
  | .rng3 _ _ _, _, _ => false
  | .zip a b, x, tg => match tg with
    | .Tuple _ _ _ => match x with
      | .Call (.Name y _) [u, v] [] _ => decide (y = ("zip" : Str)) && C.gl y && noStar u && noStar v && (chkE W C a u && chkE W C b v)
      | _ => false
    | _ => false
  | .enum a, x, tg => match tg with
    | .Tuple _ _ _ => match x with
      | .Call (.Name y _) [u] [] _ => decide (y = ("enumerate" : Str)) && C.gl y && noStar u && chkE W C a u
      | _ => false
    | _ => false
end
/-! ### what it is to be right -/
structure Ok (W : Wd) (T : Tb) (Γ : Gam) (X : Cx) (RR : RRt) (k : Nat) : Prop where
  hK : X.K = T.K
  fr : ∀ x ∈ stdNames, X.mg x = none
  room : Room k X.A
  tk : Takes X (WR T X RR)
  calm : X.calm = true
  fns : ∀ p ∈ W.fns, Good X.prog X.w T X.mg X.base k p.1 (Γ.fn p.1) ∧ X.mg p.2 = some (.ref (T.fA p.1))
  fnK : ∀ p ∈ W.fnK, GoodK X.prog X.w T X.mg X.base k p.1 p.2.2.1 p.2.2.2.1 p.2.2.2.2 (Γ.fn p.1) ∧ X.mg p.2.1 = some (.ref (T.fA p.1))
  fnD : ∀ p ∈ W.fnD, GoodD X.prog X.w T X.mg X.base k p.1 p.2.2 (Γ.fn p.1) ∧ X.mg p.2.1 = some (.ref (T.fA p.1))
  cons : ∀ p ∈ W.cons, ∃ v u, X.mg p.2.1 = some u ∧ RelV v u ∧ ∀ F, Rep T F p.2.2 v
  tbl : W.tbl = T.tbl
  cv : W.cv = true → (∀ n, n < 1000 → (∃ ds h Q R, Γ.fn n ds h Q R) → Good X.prog X.w T X.mg X.base k n (Γ.fn n)) ∧ (∀ n vs ds h Q R, ¬ Γ.clo n vs ds h Q R) ∧ (∀ n, n < 1000 → PySem.W.keepIn T.K (.ref (T.fA n)) = true)
structure Fits (C : CK) (X : Cx) : Prop where
  N : X.N = C.N
  nd : C.N.Nodup
  nm : X.env.scope.names = C.names
  kd : X.env.scope.kind = .function
  fn : ∀ x, C.fnb x = true → X.fn x = true
section
variable {W : Wd} {C : CK} {T : Tb} {Γ : Gam} {X : Cx} {RR : RRt} {k : Nat}
theorem takesF {X : Cx} {T : Tb} {F0 G0 : Hp} : Takes X (WR T X ⟨F0, G0, fun _ _ _ => False⟩) := fun _ _ x => by
  obtain ⟨_, _, _, _, _, _, _, _, _, _, _, _, _, _, _, _, z⟩ := x
  obtain ⟨_, _, _, _, _, _, _, _, _, _, _, _, z⟩ := z
  exact z.elim
theorem Ok.blk (o : Ok W T Γ X RR k) (s : Shared) (H : Hp) (scope : Scope) (env : PySem.Env) (fp : List Addr) (F0 G0 : Hp) : Ok W T Γ (X.blk s H scope env fp) ⟨F0, G0, fun _ _ _ => False⟩ k :=
  ⟨o.hK, o.fr, o.room, takesF, o.calm, o.fns, o.fnK, o.fnD, o.cons, o.tbl, o.cv⟩
theorem Fits.blk (f : Fits C X) (s : Shared) (H : Hp) (scope : Scope) (hk : scope.kind = .function) (A : Addr) (cl : List (Str × Addr)) (fp : List Addr) : Fits (C.blk scope) (X.blk s H scope (compEnvC scope cl A X.env) fp) := by
  refine ⟨f.N, f.nd, ?_, hk, fun x h => h⟩
  show (relabel scope X.env).names = relN scope.names C.names
  unfold relabel relN Env.kindOf
  rw [f.nm, f.kd]
  apply List.map_congr_left
  intro a _
  simp
theorem bk {a b : Bool} (h : (a && b) = true) : a = true ∧ b = true := Bool.and_eq_true_iff.mp h
theorem nb {a : Bool} (h : (!a) = true) : a = false := by simpa using h
theorem Fits.see (f : Fits C X) {i : Nat} {x : Str} (h : C.see i x = true) : X.N[i]? = some x ∧ Vis X.env.scope x ∧ (x == ("__debug__" : Str)) = false ∧ (x == ("__classdict__" : Str)) = false := by
  unfold CK.see at h
  obtain ⟨h, h4⟩ := bk h
  obtain ⟨h, h3⟩ := bk h
  obtain ⟨h1, h2⟩ := bk h
  refine ⟨f.N ▸ of_decide_eq_true h1, ?_, nb h3, nb h4⟩
  unfold Vis
  rw [f.nm]
  cases e : C.names.lookup x with
  | none => rw [e] at h2; cases h2
  | some k => cases k <;> first | exact .inl rfl | exact .inr (.inl rfl) | exact .inr (.inr rfl) | (rw [e] at h2; cases h2)
theorem Fits.own (f : Fits C X) {i : Nat} {x : Str} (h : C.own i x = true) : X.N[i]? = some x ∧ Loc X.env.scope x ∧ (X.fn x = true ∨ X.env.scope.names.lookup x = some .local) := by
  unfold CK.own at h
  obtain ⟨h1, h2⟩ := bk h
  unfold L2.Loc
  rw [f.nm]
  refine ⟨f.N ▸ of_decide_eq_true h1, ?_⟩
  cases e : C.names.lookup x with
  | none => rw [e] at h2; cases h2
  | some k => cases k <;> first | exact ⟨.inl rfl, .inr rfl⟩ | exact ⟨.inr rfl, .inl (f.fn _ (by rw [e] at h2; exact h2))⟩ | (rw [e] at h2; cases h2)
theorem Fits.loc (f : Fits C X) {i : Nat} {x : Str} (h : C.loc i x = true) : X.N[i]? = some x ∧ X.env.scope.names.lookup x = some .local := by
  obtain ⟨h1, h2⟩ := bk h
  rw [f.nm]
  exact ⟨f.N ▸ of_decide_eq_true h1, of_decide_eq_true h2⟩
theorem Fits.gl (f : Fits C X) {x : Str} (h : C.gl x = true) : Gl X x ∧ (x == ("__debug__" : Str)) = false := by
  obtain ⟨h1, h2⟩ := bk h
  refine ⟨?_, nb h2⟩
  unfold Gl Env.kindOf
  rw [f.nm]
  exact of_decide_eq_true h1
theorem fold_ok {iter : Expr} {env : PySem.Env} (h : noSet iter = true) : ∀ x, foldedSetIterable iter env x = pure x := by
  intro x
  cases iter <;> first | rfl | cases h
theorem set_no {e : Expr} (h : noSet e = true) : ∀ es k p, e ≠ .Set es k p := fun es k p z => by subst z; cases h
mutual
theorem chkT_ok : ∀ (t : Tg) {C : CK} {own : List Nat} {x : Expr} {X : Cx}, chkT C own t x = true → X.K = T.K → X.calm = true → Fits C X → PG X x (LG T X.pn own (bindT t))
  | .name i, C, own, x, X, h, hK, hc, f => by
    unfold chkT at h
    split at h
    · obtain ⟨h1, h2⟩ := bk h
      obtain ⟨a1, a2, a3⟩ := f.own h1
      exact lg_name (f.N ▸ f.nd) a1 a2 a3 (of_decide_eq_true h2)
    · cases h
  | .tup ts, C, own, x, X, h, hK, hc, f => by
    unfold chkT at h
    split at h
    · obtain ⟨h1, h2⟩ := bk h
      obtain ⟨g1, g2⟩ := chkTs_ok ts h2 hK hc f
      exact lg_tup hK hc g1 (of_decide_eq_true h1) g2
    · cases h
theorem chkTs_ok : ∀ (t : Tgs) {C : CK} {own : List Nat} {x : List Expr} {X : Cx}, chkTs C own t x = true → X.K = T.K → X.calm = true → Fits C X → x.all noStar = true ∧ PGs X x (LGs T X.pn own (bindTs t))
  | .nil, C, own, x, X, h, hK, hc, f => by
    unfold chkTs at h
    cases x with
    | nil => exact ⟨rfl, lgs_nil⟩
    | cons _ _ => cases h
  | .cons t ts, C, own, x, X, h, hK, hc, f => by
    unfold chkTs at h
    split at h
    · obtain ⟨h1, h2⟩ := bk h
      obtain ⟨h2, h3⟩ := bk h2
      obtain ⟨g1, g2⟩ := chkTs_ok ts h3 hK hc f
      exact ⟨by rw [List.all_cons, h1, g1]; rfl, lgs_cons h1 (chkT_ok t h2 hK hc f) g2⟩
    · cases h
end
end
end FF

namespace FF
open PySem PySem.Spec PyProof.Rows L2
theorem std {x : String} {W : Wd} {T : Tb} {Γ : Gam} {X : Cx} {RR : RRt} {k : Nat} (o : Ok W T Γ X RR k) (h : (Str.ofString x) ∈ stdNames) : X.mg (Str.ofString x) = none := o.fr _ h
theorem std_bi {b : Bi} (h : b.on = true) : (Str.ofString b.nm) ∈ stdNames := by
  cases b <;> first | (unfold stdNames Bi.nm; simp; done) | exact nomatch h
theorem std_ty {t : Ty} (h : t.on = true) : (Str.ofString t.nm) ∈ stdNames ∧ bootBuiltins (Str.ofString t.nm) = some (.type t.nm) := by
  cases t <;> first
    | exact ⟨by unfold stdNames Ty.nm; simp, boot_int⟩
    | exact ⟨by unfold stdNames Ty.nm; simp, boot_bool⟩
    | exact ⟨by unfold stdNames Ty.nm; simp, boot_str⟩
    | exact ⟨by unfold stdNames Ty.nm; simp, boot_tuple⟩
    | exact ⟨by unfold stdNames Ty.nm; simp, boot_list⟩
    | exact nomatch h
theorem pt_plain {X : Cx} {T : Tb} {RR : RRt} {w : Env → AH → QE → RE → Prop} {x : Expr} (hp : plainT x = true) (h : PE X x (LE T X RR w)) : PE X x (LE T X RR w) ∧ (tst x = true → PT X x (LT T X RR w)) := ⟨h, fun _ => lt_val hp h⟩
theorem bi_go {W : Wd} {T : Tb} {Γ : Gam} {X : Cx} {RR : RRt} {k m : Nat} {b : Bi} {es : Es} {e : Expr} {l : List Expr} {p pos : Pos} (o : Ok W T Γ X RR k) (hb : b.on = true) (hg : Gl X (Str.ofString b.nm)) (hs : (e :: l).all noStar = true) (ha : PA X (e :: l) (LA T X RR m (wpEs Γ es))) : PE X (.Call (.Name (Str.ofString b.nm) p) (e :: l) [] pos) (LE T X RR (wpE Γ (.bi b es))) := by
  have hm := std o (std_bi hb)
  cases b with
  | abs => exact le_bi call_bi_abs hg hm boot_abs (by decide) (by decide) hs ha
  | int => exact le_biT call_bi_int hg hm boot_int (by decide) (by decide) hs ha
  | len => exact le_bi (call_bi_len o.hK) hg hm boot_len (by decide) (by decide) hs ha
  | max => exact le_bi (call_bi_max o.hK o.calm) hg hm boot_max (by decide) (by decide) hs ha
  | min => exact le_bi (call_bi_min o.hK o.calm) hg hm boot_min (by decide) (by decide) hs ha
  | sum => exact le_bi (call_bi_sum o.hK o.calm) hg hm boot_sum (by decide) (by decide) hs ha
  | all => exact le_bi (call_bi_all o.hK o.calm) hg hm boot_all (by decide) (by decide) hs ha
  | any => exact le_bi (call_bi_any o.hK o.calm) hg hm boot_any (by decide) (by decide) hs ha
  | _ => cases hb
theorem blk_ok {C : CK} {X : Cx} {scope : Scope} {own : List Nat} (f : Fits C X) (h : blkC C.N C.sc scope (ownP C own) = true) : BlkOk X.N X.env.scope scope (ownP C own) := by
  have b := blkOk_by h
  refine ⟨b.kind, b.uniq, fun p hp => by rw [f.N]; exact b.ix p hp, fun y hy e => ?_, fun y hy e => by rw [f.N]; exact b.own y hy e⟩
  rw [f.nm]
  exact b.free y hy e
theorem ownP_snd {C : CK} {own : List Nat} : (ownP C own).map (·.2) = own := by
  unfold ownP
  rw [List.map_map]
  conv => rhs; rw [← List.map_id own]
  rfl
mutual
theorem chkE_ok : ∀ (e : E) {W : Wd} {C : CK} {x : Expr} {T : Tb} {Γ : Gam} {X : Cx} {RR : RRt} {k : Nat}, chkE W C e x = true → Ok W T Γ X RR k → Fits C X → PE X x (LE T X RR (wpE Γ e)) ∧ (tst x = true → PT X x (LT T X RR (wpE Γ e)))
  | .var i, W, C, x, T, Γ, X, RR, k, h, o, f => by
    unfold chkE at h
    split at h
    · obtain ⟨a1, a2, a3, a4⟩ := f.see h
      exact pt_plain rfl (le_var a1 a2 a3 a4)
    · cases h
  | .int i, W, C, x, T, Γ, X, RR, k, h, o, f => by
    unfold chkE at h
    split at h
    · have e := of_decide_eq_true h
      subst e
      exact pt_plain rfl (le_const pe_int (fun _ => .int) fun _ _ _ _ q => q)
    · cases h
  | .bl b, W, C, x, T, Γ, X, RR, k, h, o, f => by
    unfold chkE at h
    split at h
    · have e := beq_iff_eq.mp h
      subst e
      exact pt_plain rfl (le_const pe_bl (fun _ => .bl) fun _ _ _ _ q => q)
    · cases h
  | .non, W, C, x, T, Γ, X, RR, k, h, o, f => by
    unfold chkE at h
    split at h
    · exact pt_plain rfl (le_const pe_non (fun _ => .non) fun _ _ _ _ q => q)
    · cases h
  | .str s, W, C, x, T, Γ, X, RR, k, h, o, f => by
    unfold chkE at h
    split at h
    · have e := of_decide_eq_true h
      subst e
      exact pt_plain rfl (le_const pe_str (fun _ => .str) fun _ _ _ _ q => q)
    · cases h
  | .gcon g d, W, C, x, T, Γ, X, RR, k, h, o, f => by
    unfold chkE at h
    split at h
    · obtain ⟨h1, h2⟩ := bk h
      obtain ⟨g1, g2⟩ := f.gl h2
      obtain ⟨⟨g', y', d'⟩, hq, hb⟩ := List.any_eq_true.mp h1
      obtain ⟨hb, b3⟩ := bk hb
      obtain ⟨b1, b2⟩ := bk hb
      have c2 : y' = _ := of_decide_eq_true b2
      have c3 : d' = d := D.same_ok b3
      obtain ⟨v, u, q1, q2, q3⟩ := o.cons _ hq
      have q1 : X.mg y' = some u := q1
      rw [c2] at q1
      have q3 : ∀ F, Rep T F d' v := q3
      rw [c3] at q3
      exact pt_plain rfl (le_const (pe_glob g1 q1 q2 g2) q3 fun _ _ _ _ q => q)
    · cases h
  | .gfn n, W, C, x, T, Γ, X, RR, k, h, o, f => by
    unfold chkE at h
    split at h
    · obtain ⟨h1, h2⟩ := bk h
      obtain ⟨g1, g2⟩ := f.gl h2
      obtain ⟨q1, q2⟩ := o.fns _ (of_decide_eq_true h1)
      exact pt_plain rfl (le_const (pe_glob (v := .ref (T.fA n)) g1 q2 rfl g2) (fun _ => .fn) fun _ _ _ _ q => q)
    · cases h
  | .bin op a b, W, C, x, T, Γ, X, RR, k, h, o, f => by
    unfold chkE at h
    split at h
    · obtain ⟨h1, h2⟩ := bk h
      obtain ⟨h2, h3⟩ := bk h2
      have e := of_decide_eq_true h1
      subst e
      exact pt_plain rfl (le_bin o.hK (chkE_ok a h2 o f).1 (chkE_ok b h3 o f).1)
    · cases h
  | .neg a, W, C, x, T, Γ, X, RR, k, h, o, f => by
    unfold chkE at h
    split at h
    · exact pt_plain rfl (le_neg (chkE_ok a h o f).1)
    · cases h
  | .not a, W, C, x, T, Γ, X, RR, k, h, o, f => by
    unfold chkE at h
    split at h
    · obtain ⟨h1, h2⟩ := bk h
      have q := chkE_ok a h2 o f
      exact ⟨le_not q.1, fun _ => lt_not (q.2 h1)⟩
    · cases h
  | .ands es, W, C, x, T, Γ, X, RR, k, h, o, f => by
    unfold chkE at h
    split at h
    · obtain ⟨h1, h2⟩ := bk h
      have q := (chkEs_ok es h2 o f).2.2.1 (of_decide_eq_true h1)
      exact ⟨q.1 _, fun _ => (q.2 _).pt⟩
    · cases h
  | .ors es, W, C, x, T, Γ, X, RR, k, h, o, f => by
    unfold chkE at h
    split at h
    · obtain ⟨h1, h2⟩ := bk h
      have q := (chkEs_ok es h2 o f).2.2.2 (of_decide_eq_true h1)
      exact ⟨q.1 _, fun _ => (q.2 _).pt⟩
    · cases h
  | .cmp op a b, W, C, x, T, Γ, X, RR, k, h, o, f => by
    unfold chkE at h
    split at h
    · obtain ⟨h1, h2⟩ := bk h
      obtain ⟨h1, h3⟩ := bk h1
      obtain ⟨h4, h5⟩ := bk h2
      have e := of_decide_eq_true h1
      subst e
      have n := nomark_ok (op := op) (set_no h3)
      exact ⟨le_cmp o.hK o.room.units n (chkE_ok a h4 o f).1 (chkE_ok b h5 o f).1, fun _ => lt_cmp o.hK o.room.units n (chkE_ok a h4 o f).1 (chkE_ok b h5 o f).1⟩
    · cases h
  | .chain o1 o2 a b c, W, C, x, T, Γ, X, RR, k, h, o, f => by
    unfold chkE at h
    split at h
    · obtain ⟨h1, h2⟩ := bk h
      obtain ⟨h1, h3⟩ := bk h1
      obtain ⟨h1, h6⟩ := bk h1
      obtain ⟨h4, h5⟩ := bk h2
      obtain ⟨h5, h7⟩ := bk h5
      have e := of_decide_eq_true h1
      have e2 := of_decide_eq_true h6
      subst e e2
      have n := nomark_ok (op := o2) (set_no h3)
      exact ⟨le_chain o.hK o.room.units n (chkE_ok a h4 o f).1 (chkE_ok b h5 o f).1 (chkE_ok c h7 o f).1, fun _ => lt_chain o.hK o.room.units n (chkE_ok a h4 o f).1 (chkE_ok b h5 o f).1 (chkE_ok c h7 o f).1⟩
    · cases h
  | .ite c a b, W, C, x, T, Γ, X, RR, k, h, o, f => by
    unfold chkE at h
    split at h
    · obtain ⟨h1, h2⟩ := bk h
      obtain ⟨h2, h3⟩ := bk h2
      obtain ⟨h3, h4⟩ := bk h3
      exact ⟨le_ite ((chkE_ok c h2 o f).2 h1) (chkE_ok a h3 o f).1 (chkE_ok b h4 o f).1, fun z => by cases z⟩
    · cases h
  | .tup es, W, C, x, T, Γ, X, RR, k, h, o, f => by
    unfold chkE at h
    split at h
    · exact pt_plain rfl (le_tup (chkEs_ok es h o f).1)
    · cases h
  | .lst es, W, C, x, T, Γ, X, RR, k, h, o, f => by
    unfold chkE at h
    split at h
    · exact pt_plain rfl (le_lst (chkEs_ok es h o f).1)
    · cases h
  | .refl es, W, C, x, T, Γ, X, RR, k, h, o, f => by
    unfold chkE at h
    split at h
    · exact pt_plain rfl (le_refl (chkEs_ok es h o f).1)
    · cases h
  | .call n es dv, W, C, x, T, Γ, X, RR, k, h, o, f => by
    unfold chkE at h
    split at h
    · rename_i y p l pos
      obtain ⟨h1, h2⟩ := bk h
      obtain ⟨h1, h4⟩ := bk h1
      obtain ⟨g1, g2⟩ := f.gl h4
      have r := chkEs_ok es h2 o f
      rcases Bool.or_eq_true_iff.mp h1 with h1 | h1
      · obtain ⟨h1, h3⟩ := bk h1
        obtain ⟨q1, q2⟩ := o.fns _ (of_decide_eq_true h1)
        have hd : dv = [] := List.isEmpty_iff.mp h3
        subst hd
        cases l with
        | nil =>
          cases es with
          | nil => exact pt_plain rfl (le_call0 o.hK q1 o.room g1 q2 o.tk g2)
          | cons e r => unfold chkEs at h2; cases h2
        | cons e l => exact pt_plain rfl (le_call o.hK q1 o.room g1 q2 o.tk r.2.1 g2 r.1)
      · obtain ⟨h1, h3⟩ := bk h1
        obtain ⟨⟨n', y', d'⟩, hq, hb⟩ := List.any_eq_true.mp h1
        obtain ⟨hb, b3⟩ := bk hb
        obtain ⟨b1, b2⟩ := bk hb
        have c1 : n' = n := of_decide_eq_true b1
        have c2 : y' = y := of_decide_eq_true b2
        have c3 : d' = dv := sameL_ok b3
        subst c1 c2 c3
        obtain ⟨q1, q2⟩ := o.fnD _ hq
        cases l with
        | nil => cases h3
        | cons e l => exact pt_plain rfl (le_callD o.hK q1 o.room g1 q2 o.tk r.2.1 g2 r.1)
    · cases h
  | .callk n es ks p, W, C, x, T, Γ, X, RR, k, h, o, f => by
    unfold chkE at h
    split at h
    · rename_i y p0 l kws pos
      obtain ⟨h1, h2⟩ := bk h
      obtain ⟨h1, h4⟩ := bk h1
      obtain ⟨h2, h3⟩ := bk h2
      obtain ⟨g1, g2⟩ := f.gl h4
      obtain ⟨⟨n', y', m', ks', p'⟩, hq, hb⟩ := List.any_eq_true.mp h1
      obtain ⟨hb, b5⟩ := bk hb
      obtain ⟨hb, b4⟩ := bk hb
      obtain ⟨hb, b3⟩ := bk hb
      obtain ⟨b1, b2⟩ := bk hb
      have c1 : n' = n := of_decide_eq_true b1
      have c2 : y' = y := of_decide_eq_true b2
      have c3 : m' = es.len := of_decide_eq_true b3
      have c4 : kws.map (·.arg) = ks'.map some := of_decide_eq_true b4
      have c5 : p' = p := of_decide_eq_true b5
      subst c1 c2 c3 c5
      obtain ⟨q1, q2⟩ := o.fnK _ hq
      have r := chkEs_ok es h2 o f
      have rk := chkKs_ok ks h3 o f
      have lk : ks.len = ks'.length := by
        have := congrArg List.length c4
        rw [List.length_map, List.length_map] at this
        rw [← rk.2, this]
      have rk1 := rk.1
      rw [lk] at rk1
      cases l with
      | nil =>
        cases es with
        | nil => exact pt_plain rfl (le_callK0 o.hK q1 o.room g1 q2 o.tk g2 c4 rk1)
        | cons e r => unfold chkEs at h2; cases h2
      | cons e l => exact pt_plain rfl (le_callK o.hK q1 o.room g1 q2 o.tk r.2.1 g2 c4 r.1 rk1)
    · cases h
  | .callv i es, W, C, x, T, Γ, X, RR, k, h, o, f => by
    unfold chkE at h
    split at h
    · obtain ⟨h1, h2⟩ := bk h
      obtain ⟨h1, h3⟩ := bk h1
      obtain ⟨a1, a2, a3, a4⟩ := f.see h3
      obtain ⟨c1, c2, c3⟩ := o.cv h1
      have r := chkEs_ok es h2 o f
      exact pt_plain rfl (le_callv o.hK c1 o.room a1 a2 a3 a4 c2 o.tk r.2.1 r.1 c3)
    · cases h
  | .meth _ _ _ _ _, W, C, x, T, Γ, X, RR, k, h, o, f => by
    unfold chkE at h
    cases h
  | .make _ _ _ _, W, C, x, T, Γ, X, RR, k, h, o, f => by
    unfold chkE at h
    cases h
  | .bi b es, W, C, x, T, Γ, X, RR, k, h, o, f => by
    unfold chkE at h
    split at h
    · obtain ⟨h1, h2⟩ := bk h
      obtain ⟨h1, h3⟩ := bk h1
      obtain ⟨h0, h4⟩ := bk h1
      have e := of_decide_eq_true h4
      subst e
      have r := chkEs_ok es h2 o f
      exact pt_plain rfl (bi_go o h0 (f.gl h3).1 r.2.1 r.1)
    · cases h
  | .isin e t, W, C, x, T, Γ, X, RR, k, h, o, f => by
    unfold chkE at h
    split at h
    · obtain ⟨h, h7⟩ := bk h
      obtain ⟨h, h6⟩ := bk h
      obtain ⟨h, h5⟩ := bk h
      obtain ⟨h, h4⟩ := bk h
      obtain ⟨h, h3⟩ := bk h
      obtain ⟨h1, h2⟩ := bk h
      have e1 := of_decide_eq_true h2
      have e2 := of_decide_eq_true h3
      subst e1 e2
      obtain ⟨s1, s2⟩ := std_ty h1
      exact pt_plain rfl (le_isin o.hK (f.gl h4).1 (o.fr _ (by unfold stdNames; simp)) (f.gl h5).1 (o.fr _ s1) s2 (by cases t <;> first | decide | exact nomatch h1) (f.gl h5).2 h6 (chkE_ok e h7 o f).1)
    · cases h
  | .bits e, W, C, x, T, Γ, X, RR, k, h, o, f => by
    unfold chkE at h
    split at h
    · obtain ⟨h, h4⟩ := bk h
      obtain ⟨h, h3⟩ := bk h
      obtain ⟨h1, h2⟩ := bk h
      have e1 := of_decide_eq_true h1
      subst e1
      exact pt_plain rfl (le_bits h2 h3 (chkE_ok e h4 o f).1)
    · cases h
  | .count _ _, W, C, x, T, Γ, X, RR, k, h, o, f => by
    unfold chkE at h
    cases h
  | .fld e n, W, C, x, T, Γ, X, RR, k, h, o, f => by
    unfold chkE at h
    split at h
    · obtain ⟨h, h3⟩ := bk h
      obtain ⟨h1, h2⟩ := bk h
      exact pt_plain rfl (le_fld o.hK (o.tbl ▸ of_decide_eq_true h1) h2 (chkE_ok e h3 o f).1)
    · cases h
  | .xfld _, W, C, x, T, Γ, X, RR, k, h, o, f => by
    unfold chkE at h
    cases h
  | .idx a b, W, C, x, T, Γ, X, RR, k, h, o, f => by
    unfold chkE at h
    split at h
    · obtain ⟨h1, h2⟩ := bk h
      obtain ⟨h2, h3⟩ := bk h2
      exact pt_plain rfl (le_idx o.hK h1 (chkE_ok a h2 o f).1 (chkE_ok b h3 o f).1)
    · cases h
  | .slTo a b, W, C, x, T, Γ, X, RR, k, h, o, f => by
    unfold chkE at h
    split at h
    · obtain ⟨h2, h3⟩ := bk h
      exact pt_plain rfl (le_slTo o.hK (chkE_ok a h2 o f).1 (chkE_ok b h3 o f).1)
    · cases h
  | .slFrom a b, W, C, x, T, Γ, X, RR, k, h, o, f => by
    unfold chkE at h
    split at h
    · obtain ⟨h2, h3⟩ := bk h
      exact pt_plain rfl (le_slFrom o.hK (chkE_ok a h2 o f).1 (chkE_ok b h3 o f).1)
    · cases h
  | .slOf a b c, W, C, x, T, Γ, X, RR, k, h, o, f => by
    unfold chkE at h
    split at h
    · obtain ⟨h2, h3⟩ := bk h
      obtain ⟨h3, h4⟩ := bk h3
      exact pt_plain rfl (le_slOf o.hK (chkE_ok a h2 o f).1 (chkE_ok b h3 o f).1 (chkE_ok c h4 o f).1)
    · cases h
  | .slRev a, W, C, x, T, Γ, X, RR, k, h, o, f => by
    unfold chkE at h
    split at h
    · exact pt_plain rfl (le_slRev o.hK (chkE_ok a h o f).1)
    · cases h
  | .comp t it c e own, W, C, x, T, Γ, X, RR, k, h, o, f => by
    unfold chkE at h
    split at h
    · rename_i elt tg iter ifs scope pos
      obtain ⟨h1, h2⟩ := bk h
      obtain ⟨h1, h3⟩ := bk h1
      obtain ⟨h2, h4⟩ := bk h2
      obtain ⟨h4, h5⟩ := bk h4
      obtain ⟨h5, h6⟩ := bk h5
      have ok := blk_ok f h1
      have ob := fun s H (A : Addr) (cl : List (Str × Addr)) fp F0 G0 => o.blk s H scope (compEnvC scope cl A X.env) fp F0 G0
      have fb := fun s H (A : Addr) (cl : List (Str × Addr)) fp => f.blk s H scope ok.kind A cl fp
      have q := le_comp (RR := RR) (Γ := Γ) (T := T) (t := t) (it := it) (c := c) (e := e) (elt := elt) (pos := pos) o.calm (f.N ▸ f.nd) (chkI_ok it h2 o f) ok
        (fun s H A cl fp => by rw [ownP_snd]; exact chkT_ok t h4 o.hK o.calm (fb s H A cl fp))
        (fun s H A cl fp => chkC_ok c h5 (fun F0 G0 => ob s H A cl fp F0 G0) (fb s H A cl fp))
        (fun s H A cl fp => PE.ex (α := Hp × Hp) fun a => (chkE_ok e h6 (ob s H A cl fp a.1 a.2) (fb s H A cl fp)).1) (fold_ok h3)
      rw [ownP_snd] at q
      exact pt_plain rfl q
    · cases h
theorem chkC_ok : ∀ (c : Es) {W : Wd} {C : CK} {x : List Expr} {T : Tb} {Γ : Gam} {X : Cx} {k : Nat}, chkC W C c x = true → (∀ F0 G0, Ok W T Γ X ⟨F0, G0, fun _ _ _ => False⟩ k) → Fits C X → PTs X x (LTs T X.pn (wpT Γ c))
  | .nil, W, C, x, T, Γ, X, k, h, o, f => by
    unfold chkC at h
    cases x with
    | nil => exact lts_nil
    | cons _ _ => cases h
  | .cons e r, W, C, x, T, Γ, X, k, h, o, f => by
    unfold chkC at h
    split at h
    · obtain ⟨h1, h2⟩ := bk h
      obtain ⟨h4, h3⟩ := bk h2
      cases r with
      | nil => exact lts_one fun F0 G0 => (chkE_ok e h4 (o F0 G0) f).2 h1
      | cons _ _ => cases h3
    · cases h
theorem chkEs_ok : ∀ (es : Es) {W : Wd} {C : CK} {x : List Expr} {T : Tb} {Γ : Gam} {X : Cx} {RR : RRt} {k : Nat}, chkEs W C es x = true → Ok W T Γ X RR k → Fits C X → PA X x (LA T X RR es.len (wpEs Γ es)) ∧ x.all noStar = true ∧
    (0 < es.len → (∀ pos, PE X (.BoolOp .And x pos) (LE T X RR (wpAnd Γ es))) ∧ (∀ pos, PW X (.BoolOp .And x pos) (LT T X RR (wpAnd Γ es)))) ∧
    (0 < es.len → (∀ pos, PE X (.BoolOp .Or x pos) (LE T X RR (wpOr Γ es))) ∧ (∀ pos, PW X (.BoolOp .Or x pos) (LT T X RR (wpOr Γ es))))
  | .nil, W, C, x, T, Γ, X, RR, k, h, o, f => by
    unfold chkEs at h
    cases x with
    | nil => exact ⟨la_nil, rfl, fun z => absurd z (Nat.lt_irrefl _), fun z => absurd z (Nat.lt_irrefl _)⟩
    | cons _ _ => cases h
  | .cons e r, W, C, x, T, Γ, X, RR, k, h, o, f => by
    unfold chkEs at h
    split at h
    · rename_i y ys
      obtain ⟨h1, h2⟩ := bk h
      obtain ⟨h1, h0⟩ := bk h1
      obtain ⟨h2, h3⟩ := bk h2
      have qe := chkE_ok e h2 o f
      have qr := chkEs_ok r h3 o f
      refine ⟨la_cons h1 qe.1 qr.1, by rw [List.all_cons, h1, qr.2.1]; rfl, fun _ => ?_, fun _ => ?_⟩
      · cases r with
        | nil =>
          cases ys with
          | nil => exact ⟨fun pos => le_and1 qe.1, fun pos => lw_and1 (qe.2 h0)⟩
          | cons _ _ => unfold chkEs at h3; cases h3
        | cons e2 r2 =>
          cases ys with
          | nil => unfold chkEs at h3; cases h3
          | cons y2 ys2 =>
            have q := qr.2.2.1 (Nat.succ_pos _)
            exact ⟨fun pos => le_and qe.1 (q.1 pos), fun pos => lw_and (qe.2 h0) (q.2 pos)⟩
      · cases r with
        | nil =>
          cases ys with
          | nil => exact ⟨fun pos => le_or1 qe.1, fun pos => lw_or1 (qe.2 h0)⟩
          | cons _ _ => unfold chkEs at h3; cases h3
        | cons e2 r2 =>
          cases ys with
          | nil => unfold chkEs at h3; cases h3
          | cons y2 ys2 =>
            have q := qr.2.2.2 (Nat.succ_pos _)
            exact ⟨fun pos => le_or qe.1 (q.1 pos), fun pos => lw_or (qe.2 h0) (q.2 pos)⟩
    · cases h
theorem chkKs_ok : ∀ (es : Es) {W : Wd} {C : CK} {x : List Keyword} {T : Tb} {Γ : Gam} {X : Cx} {RR : RRt} {k : Nat}, chkKs W C es x = true → Ok W T Γ X RR k → Fits C X → PK X x (LA T X RR es.len (wpEs Γ es)) ∧ x.length = es.len
  | .nil, W, C, x, T, Γ, X, RR, k, h, o, f => by
    unfold chkKs at h
    cases x with
    | nil => exact ⟨lk_nil, rfl⟩
    | cons _ _ => cases h
  | .cons e r, W, C, x, T, Γ, X, RR, k, h, o, f => by
    unfold chkKs at h
    split at h
    · obtain ⟨h1, h2⟩ := bk h
      have q := chkKs_ok r h2 o f
      exact ⟨lk_cons (chkE_ok e h1 o f).1 q.1, congrArg (· + 1) q.2⟩
    · cases h
theorem chkI_ok : ∀ (it : FF.It) {W : Wd} {C : CK} {x tg : Expr} {T : Tb} {Γ : Gam} {X : Cx} {RR : RRt} {k : Nat}, chkI W C it x tg = true → Ok W T Γ X RR k → Fits C X → PI X tg x (LI T X RR (wpI Γ it))
  | .seq e, W, C, x, tg, T, Γ, X, RR, k, h, o, f => by
    unfold chkI at h
    exact li_seq o.hK (chkE_ok e h o f).1
  | .rng1 a, W, C, x, tg, T, Γ, X, RR, k, h, o, f => by
    unfold chkI at h
    split at h
    · obtain ⟨h, h4⟩ := bk h
      obtain ⟨h, h3⟩ := bk h
      obtain ⟨h1, h2⟩ := bk h
      have e := of_decide_eq_true h1
      subst e
      exact li_rng1 (f.gl h2).1 (o.fr _ (by unfold stdNames; simp)) h3 (chkE_ok a h4 o f).1
    · cases h
  | .rng2 a b, W, C, x, tg, T, Γ, X, RR, k, h, o, f => by
    unfold chkI at h
    split at h
    · obtain ⟨h, h4⟩ := bk h
      obtain ⟨h4, h6⟩ := bk h4
      obtain ⟨h, h5⟩ := bk h
      obtain ⟨h, h3⟩ := bk h
      obtain ⟨h1, h2⟩ := bk h
      have e := of_decide_eq_true h1
      subst e
      exact li_rng2 (f.gl h2).1 (o.fr _ (by unfold stdNames; simp)) h3 h5 (chkE_ok a h4 o f).1 (chkE_ok b h6 o f).1
    · cases h
  | .rng3 _ _ _, W, C, x, tg, T, Γ, X, RR, k, h, o, f => by
    unfold chkI at h
    cases h
  | .zip a b, W, C, x, tg, T, Γ, X, RR, k, h, o, f => by
    unfold chkI at h
    split at h
    · split at h
      · obtain ⟨h, h4⟩ := bk h
        obtain ⟨h4, h6⟩ := bk h4
        obtain ⟨h, h5⟩ := bk h
        obtain ⟨h, h3⟩ := bk h
        obtain ⟨h1, h2⟩ := bk h
        have e := of_decide_eq_true h1
        subst e
        exact li_zip o.hK (f.gl h2).1 (o.fr _ (by unfold stdNames; simp)) h3 h5 (chkE_ok a h4 o f).1 (chkE_ok b h6 o f).1
      · cases h
    · cases h
  | .enum a, W, C, x, tg, T, Γ, X, RR, k, h, o, f => by
    unfold chkI at h
    split at h
    · split at h
      · obtain ⟨h, h4⟩ := bk h
        obtain ⟨h, h3⟩ := bk h
        obtain ⟨h1, h2⟩ := bk h
        have e := of_decide_eq_true h1
        subst e
        exact li_enum o.hK (f.gl h2).1 (o.fr _ (by unfold stdNames; simp)) h3 (chkE_ok a h4 o f).1
      · cases h
    · cases h
end
end FF

namespace FF
open PySem PySem.Spec PyProof.Rows L2

/-- is the new list handed to the name at once -/
def handed (names : List (Str × NameKind)) (x : Str) (p lp : Pos) (s : Scope) : Bool := decide (names.lookup x = some .local) && (p.line == lp.line) && !(s.names.any fun (n, k) => n == x && (k == .local || k == .cell))
def swc (C : CK) (x : Str) (p : Pos) : Expr → Bool
  | .ListComp _ _ s lp => !handed C.names x p lp s
  | .SetComp _ _ _ _ => false
  | .DictComp _ _ _ _ _ => false
  | _ => true
def notLoc (C : CK) : Expr → Bool
  | .Name n _ => !decide (C.names.lookup n = some .local)
  | _ => true
def swpN (C : CK) (es : List Expr) : Expr → Bool
  | .Tuple vs _ _ => !(es.length == 2 || es.length == 3) || vs.length != es.length || vs.all (foldedForSure 8) || es.any (notLoc C)
  | _ => true
theorem fm_lt {α β : Type} {f : α → Option β} : ∀ {l : List α}, (∃ x ∈ l, f x = none) → (l.filterMap f).length < l.length
  | [], h => by obtain ⟨x, hx, _⟩ := h; cases hx
  | a :: r, h => by
    have le : (r.filterMap f).length ≤ r.length := List.length_filterMap_le ..
    rw [List.filterMap_cons]
    cases e : f a with
    | none =>
      show (r.filterMap f).length < r.length + 1
      omega
    | some b =>
      obtain ⟨x, hx, h2⟩ := h
      rcases List.mem_cons.mp hx with q | q
      · subst q; rw [e] at h2; cases h2
      · have := fm_lt (f := f) ⟨x, q, h2⟩
        show (r.filterMap f).length + 1 < r.length + 1
        omega
theorem swc_ok {C : CK} {X : Cx} {x : Str} {p : Pos} {e : Expr} {l : Nat} (f : Fits C X) (h : swc C x p e = true) : swapsWith e (some (.Name x p)) l X.env = pure false := by
  cases e with
  | ListComp elt gs s lp =>
    have h : (!handed C.names x p lp s) = true := h
    have h := nb h
    have hb : X.env.blockKind = .function := by unfold Env.blockKind; rw [f.kd]; rfl
    unfold swapsWith
    simp only [hb, Expr.pos]
    unfold handed at h
    rw [← f.nm] at h
    show (pure (_ && X.env.kindOf x == some .local && _ && _) : Sem Bool) = _
    congr 1
    unfold Env.kindOf
    have e1 : (X.env.scope.names.lookup x == some NameKind.local) = decide (X.env.scope.names.lookup x = some .local) := by
      cases X.env.scope.names.lookup x with
      | none => rfl
      | some k => cases k <;> rfl
    rw [e1]
    simpa using h
  | SetComp _ _ _ _ => cases h
  | DictComp _ _ _ _ _ => cases h
  | _ => rfl
theorem swc_yes {C : CK} {X : Cx} {x : Str} {p lp : Pos} {elt : Expr} {gs : List Comprehension} {s : Scope} {l : Nat} (f : Fits C X) (h : handed C.names x p lp s = true) : swapsWith (.ListComp elt gs s lp) (some (.Name x p)) l X.env = pure true := by
  have hb : X.env.blockKind = .function := by unfold Env.blockKind; rw [f.kd]; rfl
  unfold swapsWith
  simp only [hb, Expr.pos]
  unfold handed at h
  rw [← f.nm] at h
  show (pure (_ && X.env.kindOf x == some .local && _ && _) : Sem Bool) = _
  congr 1
  unfold Env.kindOf
  have e1 : (X.env.scope.names.lookup x == some NameKind.local) = decide (X.env.scope.names.lookup x = some .local) := by
    cases X.env.scope.names.lookup x with
    | none => rfl
    | some k => cases k <;> rfl
  rw [e1]
  simpa using h
theorem swp_no {C : CK} {X : Cx} {es : List Expr} {kk : Nat} {p : Pos} {e : Expr} (fi : Fits C X) (h : swpN C es e = true) : swappedStores [.Tuple es kk p] e X.env = pure none := by
  cases e with
  | Tuple vs k2 p2 =>
    have h : (!(es.length == 2 || es.length == 3) || vs.length != es.length || vs.all (foldedForSure 8) || es.any (notLoc C)) = true := h
    unfold swappedStores
    simp only []
    by_cases h1 : (!(es.length == 2 || es.length == 3) || vs.length != es.length || X.env.blockKind != .function) = true
    · rw [if_pos h1]
    · rw [if_neg h1]
      have h1 := Bool.eq_false_iff.mpr h1
      have h2 : (vs.all (foldedForSure 8) || es.any (notLoc C)) = true := by
        rw [Bool.or_eq_false_iff] at h1
        rw [h1.1, Bool.false_or] at h
        exact h
      split
      · rfl
      · split
        · rfl
        · rename_i h3 h4
          rcases Bool.or_eq_true_iff.mp h2 with h2 | h2
          · first | rfl | rw [if_pos h2]
          · exfalso
            refine h4 ?_
            rw [Bool.or_eq_true_iff]
            left
            obtain ⟨x, hx, hn⟩ := List.any_eq_true.mp h2
            refine bne_iff_ne.mpr (Nat.ne_of_lt (fm_lt ⟨x, hx, ?_⟩))
            cases x with
            | Name n q =>
              have hn : (!decide (C.names.lookup n = some .local)) = true := hn
              have : X.env.kindOf n ≠ some .local := by
                unfold Env.kindOf
                rw [fi.nm]
                exact of_decide_eq_false (nb hn)
              have e2 : (X.env.kindOf n == some NameKind.local) = false := by simpa using this
              simp only [e2, Bool.false_and, Bool.false_eq_true, if_false]
            | _ => rfl
  | _ => rfl
theorem swp_yes {C : CK} {X : Cx} {x y : Str} {px py pt pt2 : Pos} {kt k2 : Nat} {ea eb : Expr} (f : Fits C X) (hx : X.env.scope.names.lookup x = some .local) (hy : X.env.scope.names.lookup y = some .local) (ne : x ≠ y) (hl : (py.line == px.line) = true) (hsa : noStar ea = true) (hsb : noStar eb = true)
    (h1 : ([ea, eb].all (foldedForSure 8)) = false) (h2 : ([ea, eb].all (constantsAlone 8)) = false) : swappedStores [.Tuple [.Name x px, .Name y py] kt pt] (.Tuple [ea, eb] k2 pt2) X.env = pure (some [x, y]) := by
  have hb : X.env.blockKind = .function := by unfold Env.blockKind; rw [f.kd]; rfl
  have kx : X.env.kindOf x = some .local := hx
  have ky : X.env.kindOf y = some .local := hy
  unfold swappedStores
  simp only []
  rw [if_neg (by rw [hb]; simp)]
  split
  · rename_i z
    exfalso
    obtain ⟨e, he, z⟩ := List.any_eq_true.mp z
    have key : noStar e = true := by
      rcases List.mem_cons.mp he with q | q
      · rw [q]; exact hsa
      · rcases List.mem_cons.mp q with q | q
        · rw [q]; exact hsb
        · cases q
    cases e <;> first | (cases key; done) | (cases z; done)
  · have ne' : (y == x) = false := by simpa using fun e => ne e.symm
    have ne2 : (x == y) = false := by simpa using ne
    simp only [List.filterMap_cons, List.filterMap_nil, kx, ky, hl, h1, h2, Expr.pos, List.head?_cons, Option.map_some, Option.getD_some]
    simp [List.eraseDups, List.eraseDupsBy, List.eraseDupsBy.loop, ne', ne2]
def rngN0 (C : CK) : List Nat := List.range C.N.length
mutual
def chkS (W : Wd) (C : CK) : S → Stmt → Bool
  | .set i e, st => match st with
    | .Assign [.Name n p] v _ => C.own i n && swc C n p v && chkE W C e v
    | _ => false
  | .setC i e, st => match st with
    | .Assign [.Name n p] (.ListComp elt [⟨tg, iter, ifs, 0⟩] scope lp) _ => match e with
      | .comp t it c e own => C.loc i n && handed C.names n p lp scope && (blkC C.N C.sc scope (ownP C own) && noSet iter && (chkI W C it iter tg && (chkT (C.blk scope) own t tg && (chkC W (C.blk scope) c ifs && chkE W (C.blk scope) e elt))))
      | _ => false
    | _ => false
  | .setOwn i e, st => match st with
    | .Assign [.Name n p] v _ => C.own i n && (match e with
      | .lst es => match v with
        | .List l _ => chkEs W C es l
        | _ => false
      | .bin .add a b => match v with
        | .BinOp l .Add r _ => chkE W C a l && chkE W C b r
        | _ => false
      | _ => false)
    | _ => false
  | .setT ts e, st => match st with
    | .Assign [.Tuple es kk p] v _ => chkT C (rngN0 C) (.tup ts) (.Tuple es kk p) && swpN C es v && chkE W C e v
    | _ => false
  | .setP i j a b, st => match st with
    | .Assign [.Tuple [.Name x px, .Name y py] _ _] (.Tuple [u, v] _ _) _ => C.loc i x && C.loc j y && decide (i ≠ j) && decide (x ≠ y) && (py.line == px.line) && noStar u && noStar v && !([u, v].all (foldedForSure 8)) && !([u, v].all (constantsAlone 8)) && (chkE W C a u && chkE W C b v)
    | _ => false
  | .setFld _ _ _ _, _ => false
  | .setIdx o i e, st => match st with
    | .Assign [.Subscript x y _] v _ => noSlice y && (chkE W C o x && (chkE W C i y && chkE W C e v))
    | _ => false
  | .expr e, st => match st with
    | .Expr v _ => noComp v && chkE W C e v
    | _ => false
  | .app i e, st => match st with
    | .Expr (.Call (.Attribute (.Name x _) m ap) [v] [] cp) _ => decide (m = ("append" : Str)) && C.see i x && (ap.endLine == cp.line) && noStar v && chkE W C e v
    | _ => false
  | .ext _ _, _ => false
  | .ret e, st => match st with
    | .Return (some v) _ => chkE W C e v
    | _ => false
  | .retN, st => match st with
    | .Return none _ => true
    | _ => false
  | .ite c a b, st => match st with
    | .If t x y _ => tst t && (chkE W C c t && (chkSs W C a x && chkSs W C b y))
    | _ => false
  | .whl c b, st => match st with
    | .While t x [] _ => tst t && (chkE W C c t && chkSs W C b x)
    | _ => false
  | .for_ t it b, st => match st with
    | .For tg iter x [] _ => noSet iter && (chkI W C it iter tg && (chkT C (rngN0 C) t tg && chkSs W C b x))
    | _ => false
  | .try_ _ _, _ => false
  | .raise _ _, _ => false
  | .never, _ => false
  | .pass, st => match st with
    | .Pass _ => true
    | _ => false
  | .cont, st => match st with
    | .Continue _ => true
    | _ => false
  | .frz _, _ => false
def chkSs (W : Wd) (C : CK) : Ss → List Stmt → Bool
  | .nil, l => l.isEmpty
  | .cons s r, l => match s with
    | .frz _ => chkSs W C r l
    | .never => true
    | s => match l with
      | st :: rest => chkS W C s st && chkSs W C r rest
      | [] => false
end

theorem sole_sub {x y e : Expr} {p : Pos} {l : Nat} {env : PySem.Env} : swapsWithSole [.Subscript x y p] e l env = pure false := by cases e <;> rfl
theorem sole_tup {es : List Expr} {kk : Nat} {e : Expr} {p : Pos} {l : Nat} {env : PySem.Env} : swapsWithSole [.Tuple es kk p] e l env = pure false := by cases e <;> rfl
theorem swp_sub {x y e : Expr} {p : Pos} {env : PySem.Env} : swappedStores [.Subscript x y p] e env = pure none := by cases e <;> rfl
theorem le_setIdx0 {eo ei : Expr} {p : Pos} {env : PySem.Env} (h : noSlice ei = true) : ∀ v, assign (.Subscript eo ei p) env v = (do
      let ov ← holding [v] (eval eo env)
      let iv ← holding [v, ov] (eval ei env)
      standAt p
      holding [v, ov, iv] (setItem ov iv v)
      release [v, ov, iv] []) := by
  intro _
  cases ei <;> first | rfl | cases h
mutual
theorem chkS_ok : ∀ (s : S) {W : Wd} {C : CK} {x : Stmt} {T : Tb} {Γ : Gam} {X : Cx} {RR : RRt} {k : Nat}, chkS W C s x = true → Ok W T Γ X RR k → Fits C X → PassesOwn (model X.prog X.w) X.A X.env X.xe → PS X x (LS T X RR (wpS Γ s))
  | .set i e, W, C, x, T, Γ, X, RR, k, h, o, f, hp => by
    unfold chkS at h
    split at h
    · obtain ⟨h, h3⟩ := bk h
      obtain ⟨h1, h2⟩ := bk h
      obtain ⟨a1, a2, a3⟩ := f.own h1
      exact ls_set (f.N ▸ f.nd) a1 a2 a3 (swc_ok f h2) (chkE_ok e h3 o f).1
    · cases h
  | .setC i e, W, C, x, T, Γ, X, RR, k, h, o, f, hp => by
    unfold chkS at h
    split at h
    · rename_i n p elt tg iter ifs scope lp pos
      split at h
      · rename_i t it c e own
        obtain ⟨h, h7⟩ := bk h
        obtain ⟨h8, h9⟩ := bk h
        obtain ⟨h1, h2⟩ := bk h7
        obtain ⟨h1, h3⟩ := bk h1
        obtain ⟨h2, h4⟩ := bk h2
        obtain ⟨h4, h5⟩ := bk h4
        obtain ⟨h5, h6⟩ := bk h5
        have ok := blk_ok f h1
        obtain ⟨a1, a2⟩ := f.loc h8
        have ob := fun s H (A : Addr) (cl : List (Str × Addr)) fp F0 G0 => o.blk s H scope (compEnvC scope cl A X.env) fp F0 G0
        have fb := fun s H (A : Addr) (cl : List (Str × Addr)) fp => f.blk s H scope ok.kind A cl fp
        have q := ls_setC (RR := RR) (Γ := Γ) (T := T) (t := t) (it := it) (c := c) (e := e) (elt := elt) (pos := pos) (i := i) (y := n) (py := p) (lp := lp) o.calm (f.N ▸ f.nd) a1 a2 (swc_yes f h9) (chkI_ok it h2 o f) ok
          (fun s H A cl fp => by rw [ownP_snd]; exact chkT_ok t h4 o.hK o.calm (fb s H A cl fp))
          (fun s H A cl fp => chkC_ok c h5 (fun F0 G0 => ob s H A cl fp F0 G0) (fb s H A cl fp))
          (fun s H A cl fp => PE.ex (α := Hp × Hp) fun a => (chkE_ok e h6 (ob s H A cl fp a.1 a.2) (fb s H A cl fp)).1) (fold_ok h3)
        rw [ownP_snd] at q
        exact q
      · cases h
    · cases h
  | .setOwn i e, W, C, x, T, Γ, X, RR, k, h, o, f, hp => by
    unfold chkS at h
    split at h
    · obtain ⟨h1, h2⟩ := bk h
      obtain ⟨a1, a2, a3⟩ := f.own h1
      split at h2
      · split at h2
        · exact ls_setOwn (f.N ▸ f.nd) a1 a2 a3 rfl (lf_lst (chkEs_ok _ h2 o f).1)
        · cases h2
      · split at h2
        · obtain ⟨h2, h3⟩ := bk h2
          exact ls_setOwn (f.N ▸ f.nd) a1 a2 a3 rfl (lf_add o.hK (chkE_ok _ h2 o f).1 (chkE_ok _ h3 o f).1)
        · cases h2
      · cases h2
    · cases h
  | .setT ts e, W, C, x, T, Γ, X, RR, k, h, o, f, hp => by
    unfold chkS at h
    split at h
    · obtain ⟨h, h3⟩ := bk h
      obtain ⟨h1, h2⟩ := bk h
      exact ls_setT (chkT_ok _ h1 o.hK o.calm f) sole_tup (swp_no f h2) (chkE_ok e h3 o f).1
    · cases h
  | .setP i j a b, W, C, x, T, Γ, X, RR, k, h, o, f, hp => by
    unfold chkS at h
    split at h
    · obtain ⟨h, h10⟩ := bk h
      obtain ⟨h10, h11⟩ := bk h10
      obtain ⟨h, h9⟩ := bk h
      obtain ⟨h, h8⟩ := bk h
      obtain ⟨h, h7⟩ := bk h
      obtain ⟨h, h6⟩ := bk h
      obtain ⟨h, h5⟩ := bk h
      obtain ⟨h, h4⟩ := bk h
      obtain ⟨h, h3⟩ := bk h
      obtain ⟨h1, h2⟩ := bk h
      obtain ⟨a1, a2⟩ := f.loc h1
      obtain ⟨b1, b2⟩ := f.loc h2
      exact ls_setP o.calm (f.N ▸ f.nd) a1 b1 (of_decide_eq_true h3) a2 b2 h6 h7 (swp_yes f a2 b2 (of_decide_eq_true h4) h5 h6 h7 (nb h8) (nb h9)) rfl (chkE_ok a h10 o f).1 (chkE_ok b h11 o f).1
    · cases h
  | .setFld _ _ _ _, W, C, x, T, Γ, X, RR, k, h, o, f, hp => by
    unfold chkS at h
    cases h
  | .setIdx a b e, W, C, x, T, Γ, X, RR, k, h, o, f, hp => by
    unfold chkS at h
    split at h
    · obtain ⟨h0, h1⟩ := bk h
      obtain ⟨h1, h2⟩ := bk h1
      obtain ⟨h2, h3⟩ := bk h2
      exact ls_setIdx (le_setIdx0 h0) sole_sub swp_sub (chkE_ok a h1 o f).1 (chkE_ok b h2 o f).1 (chkE_ok e h3 o f).1
    · cases h
  | .expr e, W, C, x, T, Γ, X, RR, k, h, o, f, hp => by
    unfold chkS at h
    split at h
    · obtain ⟨h1, h2⟩ := bk h
      exact ls_expr (by rename_i v _; cases v <;> first | rfl | cases h1) (chkE_ok e h2 o f).1
    · cases h
  | .app i e, W, C, x, T, Γ, X, RR, k, h, o, f, hp => by
    unfold chkS at h
    split at h
    · obtain ⟨h, h5⟩ := bk h
      obtain ⟨h, h4⟩ := bk h
      obtain ⟨h, h3⟩ := bk h
      obtain ⟨h1, h2⟩ := bk h
      have e1 := of_decide_eq_true h1
      subst e1
      obtain ⟨a1, a2, a3, a4⟩ := f.see h2
      exact ls_app o.hK a1 a2 a3 a4 h3 h4 rfl (chkE_ok e h5 o f).1
    · cases h
  | .ext _ _, W, C, x, T, Γ, X, RR, k, h, o, f, hp => by
    unfold chkS at h
    cases h
  | .ret e, W, C, x, T, Γ, X, RR, k, h, o, f, hp => by
    unfold chkS at h
    split at h
    · exact ls_ret (chkE_ok e h o f).1
    · cases h
  | .retN, W, C, x, T, Γ, X, RR, k, h, o, f, hp => by
    unfold chkS at h
    split at h
    · exact ls_retN
    · cases h
  | .ite c a b, W, C, x, T, Γ, X, RR, k, h, o, f, hp => by
    unfold chkS at h
    split at h
    · obtain ⟨h1, h2⟩ := bk h
      obtain ⟨h2, h3⟩ := bk h2
      obtain ⟨h3, h4⟩ := bk h3
      exact ls_ite ((chkE_ok c h2 o f).2 h1) (chkSs_ok a h3 o f hp) (chkSs_ok b h4 o f hp)
    · cases h
  | .whl c b, W, C, x, T, Γ, X, RR, k, h, o, f, hp => by
    unfold chkS at h
    split at h
    · obtain ⟨h1, h2⟩ := bk h
      obtain ⟨h2, h3⟩ := bk h2
      exact ls_whl hp ((chkE_ok c h2 o f).2 h1) (chkSs_ok b h3 o f hp)
    · cases h
  | .for_ t it b, W, C, x, T, Γ, X, RR, k, h, o, f, hp => by
    unfold chkS at h
    split at h
    · obtain ⟨h1, h2⟩ := bk h
      obtain ⟨h2, h3⟩ := bk h2
      obtain ⟨h3, h4⟩ := bk h3
      exact ls_for hp o.calm (chkI_ok it h2 o f) (chkT_ok t h3 o.hK o.calm f) (chkSs_ok b h4 o f hp) (fold_ok h1)
    · cases h
  | .try_ _ _, W, C, x, T, Γ, X, RR, k, h, o, f, hp => by
    unfold chkS at h
    cases h
  | .raise _ _, W, C, x, T, Γ, X, RR, k, h, o, f, hp => by
    unfold chkS at h
    cases h
  | .never, W, C, x, T, Γ, X, RR, k, h, o, f, hp => by
    unfold chkS at h
    cases h
  | .pass, W, C, x, T, Γ, X, RR, k, h, o, f, hp => by
    unfold chkS at h
    split at h
    · exact ls_pass
    · cases h
  | .cont, W, C, x, T, Γ, X, RR, k, h, o, f, hp => by
    unfold chkS at h
    split at h
    · exact ls_cont
    · cases h
  | .frz _, W, C, x, T, Γ, X, RR, k, h, o, f, hp => by
    unfold chkS at h
    cases h
theorem chkSs_ok : ∀ (s : Ss) {W : Wd} {C : CK} {x : List Stmt} {T : Tb} {Γ : Gam} {X : Cx} {RR : RRt} {k : Nat}, chkSs W C s x = true → Ok W T Γ X RR k → Fits C X → PassesOwn (model X.prog X.w) X.A X.env X.xe → PSs X x (LS T X RR (wpSs Γ s))
  | .nil, W, C, x, T, Γ, X, RR, k, h, o, f, hp => by
    unfold chkSs at h
    cases x with
    | nil => exact lss_nil
    | cons _ _ => cases h
  | .cons s r, W, C, x, T, Γ, X, RR, k, h, o, f, hp => by
    unfold chkSs at h
    split at h
    · exact lss_frz (chkSs_ok r h o f hp)
    · exact lss_never
    · split at h
      · obtain ⟨h1, h2⟩ := bk h
        exact lss_cons (chkS_ok s h1 o f hp) (chkSs_ok r h2 o f hp)
      · cases h
end
/-- a def's body, checked, keeps what its reading says -/
theorem start_at : ∀ {vs : List D} {n : Nat} {i : Nat}, (start n vs).at i = match vs[i]? with | some d => .val d | none => .un := by
  intro vs n i
  unfold start
  induction vs generalizing i n with
  | nil =>
    show Env.at (List.replicate (n - 0) Slot.un) i = .un
    generalize n - 0 = m
    induction m generalizing i with
    | zero => rfl
    | succ m ih =>
      cases i with
      | zero => rfl
      | succ i => exact ih
  | cons d ds ih =>
    cases i with
    | zero => rfl
    | succ i =>
      have e : n - (d :: ds).length = (n - 1) - ds.length := by rw [List.length_cons]; omega
      show Env.at (ds.map .val ++ List.replicate (n - (d :: ds).length) .un) i = _
      rw [e]
      exact ih
theorem sr_start {T : Tb} {F G : Hp} {h : AH} {H : Hp} {N : List Str} {ds : List D} {vs : List V} (sh : SH T F G h H) (r : Reps T F ds vs) (hl : ds.length ≤ N.length) : SR T ⟨[], F, G⟩ F G (FF.start N.length ds) h (L2.start N vs) H := by
  have e := r.length
  refine ⟨⟨sh, ?_, fun i => ?_, fun i j l m a _ e1 _ _ => ?_⟩, Same.refl _, rfl⟩
  · unfold FF.start L2.start
    rw [List.length_append, List.length_map, List.length_replicate, List.length_append, List.length_map, List.length_replicate, e]
  · rw [start_at]
    cases q : ds[i]? with
    | none => trivial
    | some d =>
      obtain ⟨v, hv, rv⟩ := r.get q
      refine ⟨v, ?_, rv⟩
      unfold L2.start
      obtain ⟨hi, _⟩ := List.getElem?_eq_some_iff.mp hv
      rw [List.getElem?_append_left (by rw [List.length_map]; exact hi), List.getElem?_map, hv]
      rfl
  · rw [start_at] at e1
    split at e1 <;> cases e1
structure OkG (W : Wd) (T : Tb) (Γ : Gam) (P : Program) (w : World) (mg : Str → Option Value) (base : Heap) (k : Nat) : Prop where
  fr : ∀ x ∈ stdNames, mg x = none
  fns : ∀ p ∈ W.fns, Good P w T mg base k p.1 (Γ.fn p.1) ∧ mg p.2 = some (.ref (T.fA p.1))
  fnK : ∀ p ∈ W.fnK, GoodK P w T mg base k p.1 p.2.2.1 p.2.2.2.1 p.2.2.2.2 (Γ.fn p.1) ∧ mg p.2.1 = some (.ref (T.fA p.1))
  fnD : ∀ p ∈ W.fnD, GoodD P w T mg base k p.1 p.2.2 (Γ.fn p.1) ∧ mg p.2.1 = some (.ref (T.fA p.1))
  cons : ∀ p ∈ W.cons, ∃ v u, mg p.2.1 = some u ∧ RelV v u ∧ ∀ F, Rep T F p.2.2 v
  tbl : W.tbl = T.tbl
  cv : W.cv = true → (∀ n, n < 1000 → (∃ ds h Q R, Γ.fn n ds h Q R) → Good P w T mg base k n (Γ.fn n)) ∧ (∀ n vs ds h Q R, ¬ Γ.clo n vs ds h Q R) ∧ (∀ n, n < 1000 → PySem.W.keepIn T.K (.ref (T.fA n)) = true)
def ckOf (N : List Str) (sc : Scope) : CK := ⟨N, sc.names, fun _ => true⟩
theorem good_of {W : Wd} {T : Tb} {Γ : Gam} {P : Program} {w : World} {mg : Str → Option Value} {base : Heap} {k n : Nat} {x qual : Str} {params : Arguments} {body : List Stmt} {scope : Scope} {dvs : List V} {kws : List (Str × V)} {fd : FuncData} {N ps : List Str} {f : Fd}
    (F : FunD T.K x qual params body scope dvs kws (T.fA n) fd) (S : FnScope N ps scope) (og : OkG W T Γ P w mg base k) (hnp : f.np = ps.length) (hns : f.ns = N.length) (hc : chkSs W (ckOf N scope) f.body body = true) (hb : BodyOkD Γ f (Γ.fn n)) :
    FnOk P w T.K mg base (L2.CX P w) (k + 1) (T.fA n) fd ps (prom T (Γ.fn n)) := by
  refine F.ok S (fun vs H Q E h => ?_) fun cdv A outer s H vs Q E hr h => ?_
  · obtain ⟨F0, G0, h0, ds, Qd, Rd, r, sh, sp, _⟩ := h
    rw [← r.length, ← hnp]
    exact (hb ds h0 Qd Rd sp).1
  · obtain ⟨F0, G0, h0, ds, Qd, Rd, r, sh, sp, kq, kr⟩ := h
    obtain ⟨l, wp⟩ := hb ds h0 Qd Rd sp
    have hpl : ps.length ≤ N.length := by
      have := congrArg List.length S.pre
      rw [List.length_take] at this
      omega
    let X := cxOf (L2.CX P w) P w T.K mg base N qual scope (T.fA n) cdv A outer s H E
    have tk : Takes X (WR T X ⟨F0, G0, fun x _ h => ∃ h', AH.Sub h' h ∧ Rd x h'⟩) := by
      refine Takes.imp (takes_of (X := X) (E := E) rfl rfl rfl rfl) fun cls d τ H' q => ?_
      obtain ⟨F1, G1, σ1, h1, e, dd, v, rfl, rfl, sr, e1, rv, h2, sub, q⟩ := q
      have eG : G1 = G0 := sr.lG
      subst eG
      exact kr e h2 F1 H' dd v sr.lF (sr.sh.less sub) e1 rv q
    have ok : Ok W T Γ X ⟨F0, G0, fun x _ h => ∃ h', AH.Sub h' h ∧ Rd x h'⟩ k := ⟨rfl, og.fr, hr, tk, rfl, og.fns, og.fnK, og.fnD, og.cons, og.tbl, og.cv⟩
    have fits : Fits (ckOf N scope) X := ⟨rfl, S.nd, rfl, S.kind, fun _ _ => rfl⟩
    refine ⟨_, chkSs_ok f.body hc ok fits (passes_of (X := X) rfl), ?_⟩
    refine ⟨F0, G0, FF.start N.length ds, h0, (fun _ h => ∃ h', AH.Sub h' h ∧ Qd .non h'), (fun d h => ∃ h', AH.Sub h' h ∧ Qd d h'), (fun _ _ => False), sr_start sh r (by rw [l, hnp]; exact hpl), ?_, ?_, ?_, ?_⟩
    · rw [hns] at wp; exact wp
    · rintro σ' h' τ' F' H' s' sr' ⟨h2, sub, q⟩
      exact kq .non h2 _ F' H' s' (sr'.sh.less sub) .non q
    · rintro d h' v σ' τ' F' H' s' sr' rv ⟨h2, sub, q⟩
      exact kq d h2 v F' H' s' (sr'.sh.less sub) rv q
    · intro σ' h' τ' F' H' s' sr' q
      exact q.elim
end FF

namespace FF
open PySem PySem.Spec PyProof.Rows L2

/-! ### a law's defs, one above another -/
/-- the specifications by number -/
def gamOf (tab : List (Nat × Spec)) : Gam := ⟨fun n ds h Q R => match tab.lookup n with | some sp => sp ds h Q R | none => False, fun _ _ _ _ _ _ => False, fun _ _ => false⟩
theorem gam_at {tab : List (Nat × Spec)} {n : Nat} {sp : Spec} (h : tab.lookup n = some sp) : (gamOf tab).fn n = sp := by
  unfold gamOf
  funext ds h0 Q R
  simp only [h]
theorem gam_in {tab : List (Nat × Spec)} {n : Nat} (h : ∃ ds h Q R, (gamOf tab).fn n ds h Q R) : n ∈ tab.map (·.1) := by
  obtain ⟨ds, h0, Q, R, q⟩ := h
  unfold gamOf at q
  cases e : tab.lookup n with
  | none => simp only [e] at q
  | some sp =>
    clear q
    induction tab with
    | nil => cases e
    | cons p r ih =>
      obtain ⟨m, s⟩ := p
      by_cases c : n = m
      · subst c; simp
      · have : (n == m) = false := by simpa using c
        rw [List.lookup_cons, this] at e
        exact List.mem_cons_of_mem _ (ih e)
theorem mem_lk {β : Type} {n : Nat} {b : β} : ∀ {l : List (Nat × β)}, l.lookup n = some b → (n, b) ∈ l
  | [], e => by cases e
  | (m, c) :: r, e => by
    by_cases h : n = m
    · subst h
      rw [List.lookup_cons, beq_self_eq_true] at e
      cases e
      exact List.mem_cons_self
    · have : (n == m) = false := by simpa using h
      rw [List.lookup_cons, this] at e
      exact List.mem_cons_of_mem _ (mem_lk e)
/-- the machine's names, by the defs' places -/
def tbOf (K : PySem.W.Frag) (ats : List (Nat × Str × Option Str)) (at0 : Str × Option Str) (cls : Nat → Str) (tbl : List Str) (nd : tbl.Nodup) (xf : Nat → Str) : Tb :=
  ⟨K, fun c => He.ga K (cls c), fun n => He.fAd K ((ats.lookup n).getD at0), tbl, nd, xf⟩
section
variable {P : Program} {w : World} {T : Tb} {Γ : Gam} {mg : Str → Option Value} {base : Heap}
def Lv (P : Program) (w : World) (T : Tb) (Γ : Gam) (mg : Str → Option Value) (base : Heap) (k : Nat) (L : List (Nat × Str)) : Prop := ∀ p ∈ L, Good P w T mg base k p.1 (Γ.fn p.1) ∧ mg p.2 = some (.ref (T.fA p.1))
theorem Lv.nil {k : Nat} : Lv P w T Γ mg base k [] := fun _ h => by cases h
theorem Lv.cons {k n : Nat} {x : Str} {L : List (Nat × Str)} (l : Lv P w T Γ mg base k L) (g : Good P w T mg base (k + 1) n (Γ.fn n)) (e : mg x = some (.ref (T.fA n))) : Lv P w T Γ mg base (k + 1) ((n, x) :: L) := fun p h => by
  rcases List.mem_cons.mp h with q | q
  · subst q; exact ⟨g, e⟩
  · exact ⟨(l p q).1.mono (Nat.le_succ k), (l p q).2⟩
theorem Lv.up {k : Nat} {L : List (Nat × Str)} (l : Lv P w T Γ mg base k L) : Lv P w T Γ mg base (k + 1) L := fun p h => ⟨(l p h).1.mono (Nat.le_succ k), (l p h).2⟩
theorem GoodK.mono {j k n m : Nat} {ks : List Str} {perm : List Nat} {sp : Spec} (g : GoodK P w T mg base j n m ks perm sp) (h : j ≤ k) : GoodK P w T mg base k n m ks perm sp := by
  obtain ⟨⟨fd, ps, F, b⟩, kp⟩ := g
  exact ⟨⟨fd, ps, F.mono h, b⟩, kp⟩
/-- a def of no defaults -/
theorem good_mk {W : Wd} {k n : Nat} {x qual : Str} {params : Arguments} {body : List Stmt} {scope : Scope} {kws : List (Str × V)} {fd : FuncData} {N ps : List Str} {f : Fd}
    (F : FunD T.K x qual params body scope [] kws (T.fA n) fd) (S : FnScope N ps scope) (og : OkG W T Γ P w mg base k) (hnp : f.np = ps.length) (hns : f.ns = N.length) (hc : chkSs W (ckOf N scope) f.body body = true) (hb : BodyOkD Γ f (Γ.fn n))
    (bd : ∀ (kV doc pm : Value) (an : Option Addr) (cdv ct : Value) (us : List Value), us.length = ps.length → bindArgs (PySem.W.fnOf x qual params body scope .none kV doc pm an cdv ct) ⟨us, []⟩ = pure (ps.zip us)) : Good P w T mg base (k + 1) n (Γ.fn n) :=
  ⟨⟨fd, ps, good_of F S og hnp hns hc hb, F.bindsN bd⟩, F.kp⟩
theorem goodK_mk {W : Wd} {k n m : Nat} {ks : List Str} {perm : List Nat} {x qual : Str} {params : Arguments} {body : List Stmt} {scope : Scope} {kws : List (Str × V)} {fd : FuncData} {N ps : List Str} {f : Fd}
    (F : FunD T.K x qual params body scope [] kws (T.fA n) fd) (S : FnScope N ps scope) (og : OkG W T Γ P w mg base k) (hnp : f.np = ps.length) (hns : f.ns = N.length) (hc : chkSs W (ckOf N scope) f.body body = true) (hb : BodyOkD Γ f (Γ.fn n))
    (bd : ∀ (kV doc pm : Value) (an : Option Addr) (cdv ct : Value) (us ws : List Value), us.length = m → ws.length = ks.length → bindArgs (PySem.W.fnOf x qual params body scope .none kV doc pm an cdv ct) ⟨us, ks.zip ws⟩ = pure (ps.zip (perm.filterMap ((us ++ ws)[·]?)))) : GoodK P w T mg base (k + 1) n m ks perm (Γ.fn n) := by
  refine ⟨⟨fd, ps, good_of F S og hnp hns hc hb, fun s us ws _ h1 h2 => ?_⟩, F.kp⟩
  obtain ⟨oc, od, dV, kV, doc, pm, an, cdv, ct, osl, rfl, lk, hcd, hD, hK⟩ := F.ex
  rcases hD with ⟨_, rfl⟩ | ⟨e, _⟩
  · exact .of_eq (bd kV doc pm an cdv ct us ws h1 h2)
  · exact absurd rfl e
theorem GoodD.mono {j k n : Nat} {dv : List D} {sp : Spec} (g : GoodD P w T mg base j n dv sp) (h : j ≤ k) : GoodD P w T mg base k n dv sp := by
  obtain ⟨⟨fd, ps, dvs, us, F, b, r, d⟩, kp⟩ := g
  exact ⟨⟨fd, ps, dvs, us, F.mono h, b, r, d⟩, kp⟩
/-- a def whose keyword-only parameters have defaults, called by its others alone -/
theorem goodD_mk {W : Wd} {k n j : Nat} {dv : List D} {x qual : Str} {params : Arguments} {body : List Stmt} {scope : Scope} {kws : List (Str × V)} {fd : FuncData} {N ps : List Str} {f : Fd}
    (F : FunD T.K x qual params body scope [] kws (T.fA n) fd) (S : FnScope N ps scope) (og : OkG W T Γ P w mg base k) (hnp : f.np = ps.length) (hns : f.ns = N.length) (hc : chkSs W (ckOf N scope) f.body body = true) (hb : BodyOkD Γ f (Γ.fn n))
    (hk : kws ≠ []) (hn : j + kws.length = ps.length) (hd : ∀ F, Reps T F dv (kws.map (·.2)))
    (bd : ∀ (D : Addr) (doc pm : Value) (an : Option Addr) (cdv ct : Value) (us ks : List Value), us.length = j → ks.length = kws.length →
      KwChain D ((kws.map (·.1)).zip ks) (bindArgs (PySem.W.fnOf x qual params body scope .none (.ref D) doc pm an cdv ct) ⟨us, []⟩) (ps.zip (us ++ ks))) : GoodD P w T mg base (k + 1) n dv (Γ.fn n) := by
  obtain ⟨ds, r, b⟩ := F.binds0 j hk hn bd
  exact ⟨⟨fd, ps, kws.map (·.2), ds, good_of F S og hnp hns hc hb, b, r, hd⟩, F.kp⟩
theorem FnScope.by {N ps : List Str} {sc : Scope} (h : ((match sc.kind with | .function => true | _ => false) && !sc.isCoroutine && !sc.isGenerator && decide N.Nodup && decide (N.take ps.length = ps) && (ps.all fun x => (match sc.names.lookup x with | some .local => true | some .cell => true | _ => false)) && (sc.names.all fun y => match y.2 with | .free => false | _ => true)) = true) : FnScope N ps sc := by
  obtain ⟨h, h7⟩ := bk h
  obtain ⟨h, h6⟩ := bk h
  obtain ⟨h, h5⟩ := bk h
  obtain ⟨h, h4⟩ := bk h
  obtain ⟨h, h3⟩ := bk h
  obtain ⟨h1, h2⟩ := bk h
  refine ⟨?_, nb h2, nb h3, of_decide_eq_true h4, of_decide_eq_true h5, fun x hx => ?_, fun y hy e => ?_⟩
  · split at h1
    · assumption
    · cases h1
  · have := List.all_eq_true.mp h6 x hx
    split at this
    · exact .inl (by assumption)
    · exact .inr (by assumption)
    · cases this
  · have := List.all_eq_true.mp h7 y hy
    rw [e] at this
    cases this
end
/-! ### the law's argument -/
theorem reps_ints {T : Tb} {F : Hp} {l : List Int} : Reps T F (l.map .int) (l.map V.int) := by
  induction l with
  | nil => exact .nil
  | cons i r ih => exact .cons .int ih
theorem law_prom {T : Tb} {sp : Spec} {H : Hp} {a : Addr} {ns : List Int} (hs : SqL T.K H a (ns.map V.int)) (h : ∀ Q R, (∀ h', Q (.bl true) h') → sp [.lst (ns.map .int)] (fun _ => none) Q R) : prom T sp [.ref a] H (fun v _ => v = .bl true) (fun _ _ _ => False) := by
  refine ⟨H, fun _ => none, fun _ => none, [.lst (ns.map .int)], fun d _ => d = .bl true, fun _ _ => False, .cons (.lst hs reps_ints) .nil, ⟨Same.refl _, fun b o e => (by cases e), fun b => .inr rfl, fun a c e => (by cases e)⟩, h _ _ fun _ => rfl, fun d h' v F' H' _ _ r q => ?_, fun x h' F' H' dd v _ _ _ _ q => q⟩
  subst q
  cases r
  rfl
/-- the law's end: what is left of it when its def keeps its specification at every list of integers -/
theorem law_end {l : PySem.W.OpenLaw} {k : Nat} {q : Program} {loose : List Str} {XP : (Str → Option Value) → Heap → Prop} {YP : World → Heap → Prop} {d : DefRec} {x : Str} (hn : l.most = some 63) (hdf : d.params.defaults = []) (hr : Room k callerA)
    (F : ∀ (w : World) (mg : Str → Option Value) (fa : Addr) (h : Heap), YP w h → h.Ns mainGlobals mg → mg d.name = some (.ref fa) → ∃ (T : Tb) (fd : FuncData) (sp : Spec), T.K.In h ∧ (∀ (s : Shared) (u : Value), BindsTo s fd ⟨[u], []⟩ [(x, u)]) ∧
      (∀ (ns : List Int) Q R, ns.length ≤ 63 → (∀ h', Q (.bl true) h') → sp [.lst (ns.map .int)] (fun _ => none) Q R) ∧ ∀ base : Heap, T.K.In base → base.Ns mainGlobals mg → FnOk l.prog w T.K mg base (L2.CX l.prog w) k fa fd [x] (prom T sp)) :
    PySem.W.WalkO q loose XP YP l.row.toRowW d [] (fun f vs => PySem.call f vs) := by
  refine Att.attach_call hn hdf ?_
  intro w s0 s1 mg mb fa o pm cd doc a vs ns G Y ho hd hcd hmg hobj hints hlen hg
  obtain ⟨T, fd, sp, hK, hb, hsp, hF⟩ := F w mg fa _ Y G.T.g hmg
  have sz : ns.length ≤ sizeLine := Nat.le_trans hlen (by decide)
  refine law_call hK G.T.g G.T.b G.T.builtins G.T.nolimit hg hobj hints sz hr hF hb (fun H _ hS => law_prom hS fun Q R => hsp ns Q R hlen) ?_
  intro H e s' z
  obtain ⟨_, _, _, _, _, _, _, _, _, _, _, _, z⟩ := z
  exact z
end FF

namespace FF
theorem ixL0 {x : D} {l : List D} : ixP (x :: l).length 0 = some 0 := by
  unfold ixP
  rw [if_pos (by decide), if_pos (by rw [List.length_cons]; omega)]; rfl
theorem ixL1 {x y : D} {l : List D} : ixP (x :: y :: l).length 1 = some 1 := by
  unfold ixP
  rw [if_pos (by decide), if_pos (by rw [List.length_cons, List.length_cons]; omega)]; rfl
theorem ixL2 {x y z : D} {l : List D} : ixP (x :: y :: z :: l).length 2 = some 2 := by
  unfold ixP
  rw [if_pos (by decide), if_pos (by rw [List.length_cons, List.length_cons, List.length_cons]; omega)]; rfl
/-! ### sizes -/
def Sz (p : Nat) (i : Int) : Prop := i.natAbs < 2 ^ p
theorem bitsI_le {i : Int} {p : Nat} (h : Sz p i) : bitsI i ≤ p := by
  unfold bitsI
  by_cases e : i = 0
  · rw [if_pos e]; exact Nat.zero_le _
  · rw [if_neg e]
    have := (Nat.log2_lt (n := i.natAbs) (k := p) (by omega)).mpr h
    omega
theorem mul_ok {i j : Int} {p q : Nat} (hi : Sz p i) (hj : Sz q j) (h : p + q ≤ 134217728) : mulOk i j := .inl (by
  have := bitsI_le hi
  have := bitsI_le hj
  omega)
theorem Sz.mono {p q : Nat} {i : Int} (h : Sz p i) (l : p ≤ q) : Sz q i := Nat.lt_of_lt_of_le h (Nat.pow_le_pow_right (by decide) l)
theorem Sz.add {p : Nat} {i j : Int} (hi : Sz p i) (hj : Sz p j) : Sz (p + 1) (i + j) := by
  unfold Sz at *
  have := Int.natAbs_add_le i j
  have : 2 ^ (p + 1) = 2 * 2 ^ p := by rw [Nat.pow_succ, Nat.mul_comm]
  omega
theorem Sz.sub {p : Nat} {i j : Int} (hi : Sz p i) (hj : Sz p j) : Sz (p + 1) (i - j) := by
  have : i - j = i + -j := Int.sub_eq_add_neg
  rw [this]
  exact hi.add (by unfold Sz at *; rw [Int.natAbs_neg]; exact hj)
theorem Sz.mul {p q : Nat} {i j : Int} (hi : Sz p i) (hj : Sz q j) : Sz (p + q) (i * j) := by
  unfold Sz at *
  rw [Int.natAbs_mul, Nat.pow_add]
  exact Nat.mul_lt_mul'' hi hj
theorem abs_div {i j : Int} (hj : 0 < j) : (i / j).natAbs ≤ i.natAbs := by
  have h1 := Int.ediv_mul_add_emod i j
  have h2 := Int.emod_nonneg i (show j ≠ 0 by omega)
  have h3 := Int.emod_lt_of_pos i hj
  by_cases hi : 0 ≤ i
  · have a := Int.ediv_nonneg hi (Int.le_of_lt hj)
    have b := Int.ediv_le_self j hi
    omega
  · have a : i / j < 0 := Int.ediv_neg_of_neg_of_pos (by omega) hj
    have b : i ≤ i / j := by
      apply Int.le_of_not_gt
      intro z
      have e : i / j + 1 ≤ i := by omega
      have h4 : (-(i / j + 1)) * 1 ≤ (-(i / j + 1)) * j := Int.mul_le_mul_of_nonneg_left (by omega) (by omega)
      have h5 : (-(i / j + 1)) * j = -(i / j * j) - j := by rw [Int.neg_mul, Int.add_mul, Int.one_mul]; omega
      omega
    omega
theorem Sz.div {p : Nat} {i j : Int} (hi : Sz p i) (hj : 0 < j) : Sz p (i / j) := Nat.lt_of_le_of_lt (abs_div hj) hi
theorem Sz.mod {p : Nat} {i j : Int} (hj : Sz p j) (h0 : 0 < j) : Sz p (i % j) := by
  unfold Sz at *
  have h2 := Int.emod_nonneg i (show j ≠ 0 by omega)
  have h3 := Int.emod_lt_of_pos i h0
  omega
theorem fdiv_pos {i j : Int} (h : 0 < j) : i.fdiv j = i / j := Int.fdiv_eq_ediv_of_nonneg i (Int.le_of_lt h)
theorem fmod_pos {i j : Int} (h : 0 < j) : i.fmod j = i % j := Int.fmod_eq_emod_of_nonneg i (Int.le_of_lt h)
/-! ### sums -/
def sumI : Nat → (Nat → Int) → Int
  | 0, _ => 0
  | n + 1, f => sumI n f + f n
theorem sumI_congr {f g : Nat → Int} : ∀ {n : Nat}, (∀ i, i < n → f i = g i) → sumI n f = sumI n g
  | 0, _ => rfl
  | n + 1, h => by
    show sumI n f + f n = sumI n g + g n
    rw [sumI_congr (n := n) fun i hi => h i (by omega), h n (by omega)]
theorem sumI_add {f g : Nat → Int} : ∀ {n : Nat}, sumI n (fun i => f i + g i) = sumI n f + sumI n g
  | 0 => rfl
  | n + 1 => by
    show sumI n (fun i => f i + g i) + (f n + g n) = (sumI n f + f n) + (sumI n g + g n)
    rw [sumI_add (n := n)]; omega
theorem sumI_mul {c : Int} {f : Nat → Int} : ∀ {n : Nat}, sumI n (fun i => c * f i) = c * sumI n f
  | 0 => (Int.mul_zero c).symm
  | n + 1 => by
    show sumI n (fun i => c * f i) + c * f n = c * (sumI n f + f n)
    rw [sumI_mul (n := n), Int.mul_add]
theorem sumI_const {c : Int} : ∀ {n : Nat}, sumI n (fun _ => c) = n * c
  | 0 => (Int.zero_mul c).symm
  | n + 1 => by
    show sumI n (fun _ => c) + c = ((n + 1 : Nat) : Int) * c
    rw [sumI_const (n := n), Int.natCast_add, Int.add_mul]; simp
theorem sumI_zero {f : Nat → Int} {n : Nat} (h : ∀ i, i < n → f i = 0) : sumI n f = 0 := by
  rw [sumI_congr h, sumI_const]; simp
theorem sumI_append {f : Nat → Int} {m : Nat} : ∀ {n : Nat}, sumI (m + n) f = sumI m f + sumI n (fun i => f (m + i))
  | 0 => by simp [sumI]
  | n + 1 => by
    show sumI (m + n) f + f (m + n) = sumI m f + (sumI n (fun i => f (m + i)) + f (m + n))
    rw [sumI_append (n := n)]; omega
theorem sumI_front {f : Nat → Int} {n : Nat} : sumI (n + 1) f = f 0 + sumI n (fun i => f (i + 1)) := by
  rw [Nat.add_comm n 1, sumI_append]
  have : ∀ i, f (1 + i) = f (i + 1) := fun i => by rw [Nat.add_comm]
  simp only [this]
  show (0 + f 0) + _ = _
  omega
theorem sumI_rev {f : Nat → Int} : ∀ {n : Nat}, sumI n f = sumI n (fun i => f (n - 1 - i))
  | 0 => rfl
  | n + 1 => by
    rw [sumI_front (f := fun i => f (n + 1 - 1 - i))]
    show sumI n f + f n = f (n + 1 - 1 - 0) + sumI n (fun i => f (n + 1 - 1 - (i + 1)))
    have e : sumI n (fun i => f (n + 1 - 1 - (i + 1))) = sumI n (fun i => f (n - 1 - i)) := sumI_congr fun i hi => by rw [show n + 1 - 1 - (i + 1) = n - 1 - i by omega]
    rw [e, ← sumI_rev (n := n)]
    simp only [Nat.add_sub_cancel, Nat.sub_zero]
    omega
theorem sumI_swap {f : Nat → Nat → Int} {m : Nat} : ∀ {n : Nat}, sumI n (fun i => sumI m (fun j => f i j)) = sumI m (fun j => sumI n (fun i => f i j))
  | 0 => (sumI_zero (n := m) fun _ _ => rfl).symm
  | n + 1 => by
    show sumI n (fun i => sumI m (fun j => f i j)) + sumI m (fun j => f n j) = sumI m (fun j => sumI n (fun i => f i j) + f n j)
    rw [sumI_swap (n := n), sumI_add]
/-- twice the sum of 0 .. n-1 -/
theorem sumI_id : ∀ {n : Nat}, 2 * sumI n (fun i => (i : Int)) = n * (n - 1)
  | 0 => rfl
  | n + 1 => by
    show 2 * (sumI n (fun i => (i : Int)) + n) = ((n + 1 : Nat) : Int) * (((n + 1 : Nat) : Int) - 1)
    have := sumI_id (n := n)
    have e : ((n + 1 : Nat) : Int) * (((n + 1 : Nat) : Int) - 1) = (n : Int) * (n - 1) + 2 * n := by
      have e1 : ((n + 1 : Nat) : Int) = (n : Int) + 1 := by omega
      rw [e1]
      have e2 : (n : Int) + 1 - 1 = n := by omega
      rw [e2, Int.add_mul, Int.mul_sub, Int.mul_one, Int.one_mul]; omega
    rw [e, Int.mul_add, this]
def ind (p : Prop) [Decidable p] : Int := if p then 1 else 0
theorem cnt1 {x m : Int} (hm : 0 < m) : ∀ {N : Nat}, 0 ≤ x → x / m ≤ N → sumI N (fun j => ind (((j : Int) + 1) * m ≤ x)) = x / m := by
  have key : ∀ {N : Nat}, 0 ≤ x → sumI N (fun j => ind (((j : Int) + 1) * m ≤ x)) = min (N : Int) (x / m) := by
    intro N hx
    have h0 := Int.ediv_nonneg hx (Int.le_of_lt hm)
    induction N with
    | zero => show (0 : Int) = min ((0 : Nat) : Int) (x / m); omega
    | succ N ih =>
      show sumI N (fun j => ind (((j : Int) + 1) * m ≤ x)) + ind (((N : Int) + 1) * m ≤ x) = _
      rw [ih]
      by_cases c : ((N : Int) + 1) * m ≤ x
      · have := (Int.le_ediv_iff_mul_le hm).mpr c
        unfold ind
        rw [if_pos c]; omega
      · have : ¬ ((N : Int) + 1) ≤ x / m := fun z => c ((Int.le_ediv_iff_mul_le hm).mp z)
        unfold ind
        rw [if_neg c]; omega
  intro N hx hN
  rw [key hx]; omega
/-! ### sums of floors -/
def FL (n : Nat) (a b m : Int) : Int := sumI n fun i => (a * i + b) / m
theorem FL_red {n : Nat} {a b m : Int} (hm : 0 < m) : FL n a b m = (n : Int) * (n - 1) / 2 * (a / m) + n * (b / m) + FL n (a % m) (b % m) m := by
  have e : ∀ i : Nat, (a * i + b) / m = (a / m) * i + b / m + ((a % m) * i + b % m) / m := fun i => by
    have h1 := Int.ediv_mul_add_emod a m
    have h2 := Int.ediv_mul_add_emod b m
    have : a * i + b = ((a % m) * i + b % m) + m * ((a / m) * i + b / m) := by
      conv => lhs; rw [← h1, ← h2]
      rw [Int.add_mul, Int.mul_add]
      have : a / m * m * i = m * (a / m * i) := by rw [Int.mul_comm (a / m) m, Int.mul_assoc]
      rw [this, Int.mul_comm (b / m) m]; omega
    rw [this, Int.add_mul_ediv_left _ _ (by omega)]; omega
  unfold FL
  rw [sumI_congr fun i _ => e i, sumI_add, sumI_add, sumI_mul, sumI_const]
  have s := sumI_id (n := n)
  have : (n : Int) * (n - 1) / 2 = sumI n (fun i => (i : Int)) := by rw [← s]; exact Int.mul_ediv_cancel_left _ (by decide)
  rw [this, Int.mul_comm (a / m)]
theorem FL_turn {n : Nat} {a b m : Int} (hm : 0 < m) (ha : 0 ≤ a) (ha' : a < m) (hb : 0 ≤ b) (hb' : b < m) : FL n a b m = FL ((a * n + b) / m).toNat m ((a * n + b) % m) a := by
  have ht : 0 ≤ a * n + b := Int.add_nonneg (Int.mul_nonneg ha (Int.natCast_nonneg _)) hb
  have hN := Int.ediv_nonneg ht (Int.le_of_lt hm)
  have hd := Int.ediv_mul_add_emod (a * n + b) m
  generalize ht' : a * n + b = top at *
  obtain ⟨N, eN⟩ := Int.eq_ofNat_of_zero_le hN
  rw [eN, Int.toNat_natCast]
  have e1 : FL n a b m = sumI n fun i => sumI N fun j => ind (((j : Int) + 1) * m ≤ a * i + b) := by
    unfold FL
    refine sumI_congr fun i hi => ?_
    have h1 : 0 ≤ a * i + b := Int.add_nonneg (Int.mul_nonneg ha (Int.natCast_nonneg _)) hb
    refine (cnt1 hm h1 ?_).symm
    rw [← eN]
    refine Int.ediv_le_ediv hm ?_
    rw [← ht']
    have : a * (i : Int) ≤ a * n := Int.mul_le_mul_of_nonneg_left (by omega) ha
    omega
  rw [e1, sumI_swap, sumI_rev]
  unfold FL
  refine sumI_congr fun j hj => ?_
  have em := Int.emod_nonneg top (show m ≠ 0 by omega)
  have em2 := Int.emod_lt_of_pos top hm
  have cj : (((N - 1 - j : Nat) : Int) + 1) = N - j := by omega
  rw [cj]
  rw [eN] at hd
  by_cases a0 : a = 0
  · subst a0
    -- then the top is b < m, so N = 0
    exfalso
    have : top < m := by rw [← ht']; simp; exact hb'
    have hh : top / m = 0 := Int.ediv_eq_zero_of_lt ht this
    omega
  · have ap : 0 < a := by omega
    rw [sumI_rev]
    have x0 : m * (j : Int) + top % m = top - ((N : Int) - j) * m := by
      rw [Int.sub_mul, Int.mul_comm m]; omega
    have xx : 0 ≤ m * (j : Int) + top % m := Int.add_nonneg (Int.mul_nonneg (Int.le_of_lt hm) (Int.natCast_nonneg _)) em
    rw [← cnt1 (N := n) ap xx ?_]
    · refine sumI_congr fun i hi => ?_
      have ci : ((n - 1 - i : Nat) : Int) = n - 1 - i := by omega
      rw [ci]
      have q : (((N : Int) - j) * m ≤ a * (n - 1 - i) + b) ↔ (((i : Int) + 1) * a ≤ m * (j : Int) + top % m) := by
        rw [x0, ← ht']
        have : a * ((n : Int) - 1 - i) = a * n - (i + 1) * a := by
          rw [Int.mul_sub, Int.mul_sub, Int.add_mul, Int.mul_one, Int.one_mul, Int.mul_comm a i]; omega
        rw [this]; omega
      unfold ind
      by_cases c : ((N : Int) - j) * m ≤ a * (n - 1 - i) + b
      · rw [if_pos c, if_pos (q.mp c)]
      · rw [if_neg c, if_neg (fun z => c (q.mpr z))]
    · have hc : m * (j : Int) + top % m < a * n := by
        have : m ≤ ((N : Int) - j) * m := by
          have := Int.mul_le_mul_of_nonneg_right (show (1 : Int) ≤ (N : Int) - j by omega) (Int.le_of_lt hm)
          omega
        rw [x0, ← ht']; omega
      have := Int.ediv_lt_of_lt_mul ap (show m * (j : Int) + top % m < (n : Int) * a by rw [Int.mul_comm (n : Int) a]; exact hc)
      omega
/-! ### a whole round -/
theorem sumI_mod_shift {f : Int → Int} {m : Int} {a b : Int} {n : Nat} (hn : (n : Int) * a % m = 0) (hm : m ≠ 0) : sumI n (fun i => f ((a * i + (b + a)) % m)) = sumI n (fun i => f ((a * i + b) % m)) := by
  have h1 : sumI (n + 1) (fun i => f ((a * i + b) % m)) = sumI n (fun i => f ((a * i + b) % m)) + f ((a * n + b) % m) := rfl
  have h2 := sumI_front (f := fun i => f ((a * i + b) % m)) (n := n)
  have e : (a * (n : Int) + b) % m = (a * ((0 : Nat) : Int) + b) % m := by
    have : a * (n : Int) % m = 0 := by rw [Int.mul_comm]; exact hn
    rw [Int.add_emod, this]; simp
  have e2 : sumI n (fun i => f ((a * ((i + 1 : Nat) : Int) + b) % m)) = sumI n (fun i => f ((a * i + (b + a)) % m)) := sumI_congr fun i _ => by
    have : a * ((i + 1 : Nat) : Int) + b = a * i + (b + a) := by
      have : ((i + 1 : Nat) : Int) = i + 1 := by omega
      rw [this, Int.mul_add]; omega
    rw [this]
  rw [h1, e] at h2
  rw [e2] at h2
  omega
/-- along a whole round each residue comes once: what is added up over them is the same -/
theorem round_sum {f : Int → Int} {m : Nat} {a b a' : Int} (hm : 0 < m) (hg : a * a' % m = 1 % m) : sumI m (fun i => f ((a * i + b) % m)) = sumI m (fun r => f r) := by
  have m0 : (m : Int) ≠ 0 := by omega
  have U : ∀ b, sumI m (fun i => f ((a * i + (b + a)) % m)) = sumI m (fun i => f ((a * i + b) % m)) := fun b => sumI_mod_shift (by rw [Int.mul_comm]; exact Int.mul_emod_left _ _) m0
  have Un : ∀ (k : Nat) b, sumI m (fun i => f ((a * i + (b + a * k)) % m)) = sumI m (fun i => f ((a * i + b) % m)) := by
    intro k
    induction k with
    | zero => intro b; simp
    | succ k ih =>
      intro b
      have : b + a * ((k + 1 : Nat) : Int) = (b + a * k) + a := by
        have : ((k + 1 : Nat) : Int) = k + 1 := by omega
        rw [this, Int.mul_add]; omega
      rw [this, U, ih]
  -- one step of b
  have V : ∀ b, sumI m (fun i => f ((a * i + (b + 1)) % m)) = sumI m (fun i => f ((a * i + b) % m)) := by
    intro b
    rw [← Un (a' % m).toNat b]
    refine sumI_congr fun i _ => ?_
    have nn : 0 ≤ a' % m := Int.emod_nonneg _ m0
    rw [Int.toNat_of_nonneg nn]
    have : (a * ↑i + (b + 1)) % ↑m = (a * ↑i + (b + a * (a' % ↑m))) % ↑m := by
      have h1 : a * (a' % m) % m = 1 % m := by rw [Int.mul_emod, Int.emod_emod_of_dvd _ (Int.dvd_refl _), ← Int.mul_emod]; exact hg
      rw [← Int.add_assoc, ← Int.add_assoc, Int.add_emod, ← h1, ← Int.add_emod]
    rw [this]
  have W : ∀ (k : Nat) b, sumI m (fun i => f ((a * i + (b + k)) % m)) = sumI m (fun i => f ((a * i + b) % m)) := by
    intro k
    induction k with
    | zero => intro b; simp
    | succ k ih =>
      intro b
      have : b + ((k + 1 : Nat) : Int) = (b + k) + 1 := by omega
      rw [this, V, ih]
  -- added up over m values of b
  have T1 : sumI m (fun k => sumI m (fun i => f ((a * i + (b + k)) % m))) = m * sumI m (fun i => f ((a * i + b) % m)) := by
    rw [sumI_congr fun k _ => W k b, sumI_const]
  have R : ∀ c : Int, sumI m (fun k => f (((1 : Int) * k + c) % m)) = sumI m (fun k => f (((1 : Int) * k + 0) % m)) := by
    intro c
    have S : ∀ c : Int, sumI m (fun k => f (((1 : Int) * k + (c + 1)) % m)) = sumI m (fun k => f (((1 : Int) * k + c) % m)) := fun c => sumI_mod_shift (by rw [Int.mul_one]; exact Int.emod_self) m0
    have S2 : ∀ (k : Nat) (c : Int), sumI m (fun i => f (((1 : Int) * i + (c + k)) % m)) = sumI m (fun i => f (((1 : Int) * i + c) % m)) := by
      intro k
      induction k with
      | zero => intro c; simp
      | succ k ih =>
        intro c
        have : c + ((k + 1 : Nat) : Int) = (c + k) + 1 := by omega
        rw [this, S, ih]
    have := S2 (c % m).toNat 0
    rw [Int.toNat_of_nonneg (Int.emod_nonneg _ m0)] at this
    rw [← this]
    refine sumI_congr fun i _ => ?_
    congr 1
    rw [Int.zero_add, Int.add_emod, Int.add_emod ((1 : Int) * i) (c % m), Int.emod_emod_of_dvd _ (Int.dvd_refl _)]
  have T2 : sumI m (fun k => sumI m (fun i => f ((a * i + (b + k)) % m))) = m * sumI m (fun r => f r) := by
    rw [sumI_swap]
    have : ∀ i : Nat, i < m → sumI m (fun j => f ((a * i + (b + j)) % m)) = sumI m (fun r => f r) := by
      intro i _
      have h1 : sumI m (fun j => f ((a * i + (b + j)) % m)) = sumI m (fun k => f (((1 : Int) * k + (a * i + b)) % m)) := sumI_congr fun j _ => by
        congr 2
        omega
      rw [h1, R]
      refine sumI_congr fun r hr => ?_
      congr 1
      rw [Int.one_mul, Int.add_zero]
      exact Int.emod_eq_of_lt (by omega) (by omega)
    rw [sumI_congr this, sumI_const]
  have := T1.symm.trans T2
  exact Int.eq_of_mul_eq_mul_left m0 this
/-! ### a for loop by its invariant -/
theorem forL_inv {Γ : Gam} {b : Ss} {bind : D → Env → (Env → Prop) → Prop} {I : Nat → Env → AH → Prop} {P : Post} : ∀ (ds : List D) {j : Nat} {σ : Env} {h : AH},
    (∀ d ∈ ds, ∀ j σ h, I j σ h → ∀ P' : Post, (∀ σ' h', I (j + 1) σ' h' → P'.nx σ' h') → (∀ σ' h', I (j + 1) σ' h' → P'.ct σ' h') → P'.rt = P.rt → P'.R = P.R → bind d σ fun σ' => wpSs Γ b σ' h P') →
    I j σ h → (∀ σ h, I (j + ds.length) σ h → P.nx σ h) → forL (fun σ h P => wpSs Γ b σ h P) bind ds σ h P
  | [], _, σ, h, _, i, k => k σ h i
  | d :: r, j, σ, h, hs, i, k => by
    have e : j + (r.length + 1) = j + 1 + r.length := by omega
    have rest : ∀ σ' h', I (j + 1) σ' h' → forL (fun σ h P => wpSs Γ b σ h P) bind r σ' h' P := fun σ' h' i' => forL_inv r (fun d hd => hs d (List.mem_cons_of_mem _ hd)) i' fun σ h i => k σ h (by rw [List.length_cons, e]; exact i)
    exact hs d List.mem_cons_self j σ h i _ rest rest rfl rfl
/-- the same, by what has been walked -/
theorem forL_pre {Γ : Gam} {b : Ss} {bind : D → Env → (Env → Prop) → Prop} {I : List D → Env → AH → Prop} {P : Post} : ∀ (ds : List D) {pre : List D} {σ : Env} {h : AH},
    (∀ d ∈ ds, ∀ pre σ h, I pre σ h → ∀ P' : Post, (∀ σ' h', I (pre ++ [d]) σ' h' → P'.nx σ' h') → (∀ σ' h', I (pre ++ [d]) σ' h' → P'.ct σ' h') → P'.rt = P.rt → P'.R = P.R → bind d σ fun σ' => wpSs Γ b σ' h P') →
    I pre σ h → (∀ σ h, I (pre ++ ds) σ h → P.nx σ h) → forL (fun σ h P => wpSs Γ b σ h P) bind ds σ h P
  | [], pre, σ, h, _, i, k => k σ h (by rw [List.append_nil]; exact i)
  | d :: r, pre, σ, h, hs, i, k => by
    have rest : ∀ σ' h', I (pre ++ [d]) σ' h' → forL (fun σ h P => wpSs Γ b σ h P) bind r σ' h' P := fun σ' h' i' => forL_pre r (fun d hd => hs d (List.mem_cons_of_mem _ hd)) i' fun σ h i => k σ h (by rw [List.append_assoc] at i; exact i)
    exact hs d List.mem_cons_self pre σ h i _ rest rest rfl rfl
end FF

namespace FF
def ir_is_integer : Fd := ⟨1, 1, (.cons (.ret (.ands (.cons (.isin (.var 0) .int) (.cons (.not (.isin (.var 0) .bool)) .nil)))) .nil)⟩
def ir_floors : Fd := ⟨4, 6, (.cons (.set 4 (.int 0)) (.cons (.whl (.cmp .gt (.var 0) (.int 0)) (.cons (.set 4 (.bin .add (.bin .add (.var 4) (.bin .mul (.bin .fdiv (.bin .mul (.var 0) (.bin .sub (.var 0) (.int 1))) (.int 2)) (.bin .fdiv (.var 1) (.var 3)))) (.bin .mul (.var 0) (.bin .fdiv (.var 2) (.var 3))))) (.cons (.setP 1 2 (.bin .mod (.var 1) (.var 3)) (.bin .mod (.var 2) (.var 3))) (.cons (.set 5 (.bin .add (.bin .mul (.var 1) (.var 0)) (.var 2))) (.cons (.setT (.cons (.name 0) (.cons (.name 2) (.cons (.name 3) (.cons (.name 1) .nil)))) (.tup (.cons (.bin .fdiv (.var 5) (.var 3)) (.cons (.bin .mod (.var 5) (.var 3)) (.cons (.var 1) (.cons (.var 3) .nil)))))) .nil))))) (.cons (.ret (.var 4)) .nil)))⟩
def ir_floors_of : Fd := ⟨5, 5, (.cons (.ret (.call 0 (.cons (.bin .add (.bin .sub (.var 1) (.var 0)) (.int 1)) (.cons (.var 2) (.cons (.bin .add (.bin .mul (.var 2) (.var 0)) (.var 3)) (.cons (.var 4) .nil)))) [])) .nil)⟩
def ir_check_range : Fd := ⟨3, 4, (.cons (.ite (.ors (.cons (.not (.isin (.var 0) .tup)) (.cons (.cmp .ne (.bi .len (.cons (.var 0) .nil)) (.int 3)) (.cons (.not (.bi .all (.cons (.comp (.name 3) (.seq (.var 0)) .nil (.call 1 (.cons (.var 3) .nil) []) [3]) .nil))) (.cons (.cmp .lt (.idx (.var 0) (.int 2)) (.int 1)) .nil))))) (.cons .never .nil) .nil) (.cons (.ite (.not (.call 1 (.cons (.var 1) .nil) [])) (.cons .never .nil) .nil) (.cons (.ite (.not (.call 1 (.cons (.var 2) .nil) [])) (.cons .never .nil) .nil) .nil)))⟩
def ir_floor_sum : Fd := ⟨3, 3, (.cons (.expr (.call 2 (.cons (.var 0) (.cons (.var 1) (.cons (.var 2) .nil))) [])) (.cons (.ret (.call 3 (.cons (.var 1) (.cons (.var 2) (.cons (.idx (.var 0) (.int 0)) (.cons (.idx (.var 0) (.int 1)) (.cons (.idx (.var 0) (.int 2)) .nil))))) [])) .nil))⟩
def ir_residue_sum : Fd := ⟨3, 7, (.cons (.expr (.call 2 (.cons (.var 0) (.cons (.var 1) (.cons (.var 2) .nil))) [])) (.cons (.setT (.cons (.name 3) (.cons (.name 4) (.cons (.name 5) .nil))) (.var 0)) (.cons (.set 6 (.bi .max (.cons (.int 0) (.cons (.bin .add (.bin .sub (.var 2) (.var 1)) (.int 1)) .nil)))) (.cons (.ret (.bin .sub (.bin .add (.bin .mul (.var 6) (.var 4)) (.bin .mul (.var 3) (.bin .fdiv (.bin .mul (.var 6) (.bin .add (.var 1) (.var 2))) (.int 2)))) (.bin .mul (.var 5) (.call 3 (.cons (.var 1) (.cons (.var 2) (.cons (.var 3) (.cons (.var 4) (.cons (.var 5) .nil))))) [])))) .nil))))⟩
end FF

namespace FF
theorem BodyOk.d {Γ : Gam} {f : Fd} {sp : Spec} (h : BodyOk Γ f sp) (mono : ∀ ds h Q Q' R R', (∀ d h, Q d h → Q' d h) → (∀ x h, R x h → R' x h) → sp ds h Q R → sp ds h Q' R') : BodyOkD Γ f sp := fun ds h0 Q R s => by
  have := h ds h0 (fun d h => ∃ h', AH.Sub h' h ∧ Q d h') (fun x h => ∃ h', AH.Sub h' h ∧ R x h') (mono _ _ _ _ _ _ (fun d h q => ⟨h, AH.Sub.refl _, q⟩) (fun x h q => ⟨h, AH.Sub.refl _, q⟩) s)
  exact this
/-! ### integers -/
def isInt : D → Option Bool
  | .int _ => some true
  | .bl _ => some false
  | .non => some false
  | .str _ => some false
  | .tup _ => some false
  | .lst _ => some false
  | _ => none
def sp_is_integer : Spec := fun ds h Q _ => ∃ d b, ds = [d] ∧ isInt d = some b ∧ Q (.bl b) h
theorem b_is_integer {Γ : Gam} : BodyOk Γ ir_is_integer sp_is_integer := by
  rintro ds h Q R ⟨d, b, rfl, e, q⟩
  refine ⟨rfl, ?_⟩
  show wpSs Γ ir_is_integer.body [.val d] h _
  dsimp only [ir_is_integer, wpSs, wpS, wpE, wpEs, wpAnd, wpOr, wpI, wpF, wpT, wpH, Env.at, Env.put, Env.wipe, Env.nox, Slot.nox, wBin, binI, wCmp, cmpI, wBi, isTy, asL, asLT, bindT, bindTs, intsOf, boolsOf]
  cases d <;> first
    | (exfalso; cases e; done)
    | (have e' := Option.some.inj e; subst e'; exact q)
/-! ### sums of floors -/
def sp_floors : Spec := fun ds h Q _ => ∃ n a b m, ds = [.int n, .int a, .int b, .int m] ∧ 0 < m ∧ Sz 4000 n ∧ Sz 4000 a ∧ Sz 4000 b ∧ Sz 4000 m ∧ Q (.int (FL n.toNat a b m)) h
theorem sz1 : Sz 1 1 := by unfold Sz; decide
theorem bits2 : bitsI 2 ≤ 9000 := by decide
theorem b_floors {Γ : Gam} : BodyOk Γ ir_floors sp_floors := by
  rintro ds h Q R ⟨n, a, b, m, rfl, hm, sn, sa, sb, sm, q⟩
  refine ⟨rfl, ?_⟩
  show wpSs Γ ir_floors.body [.val (.int n), .val (.int a), .val (.int b), .val (.int m), .un, .un] h _
  dsimp only [ir_floors, wpSs, wpS, wpE, wpEs, wpAnd, wpOr, wpI, wpF, wpT, wpH, Env.at, Env.put, Env.wipe, Env.nox, Slot.nox, wBin, binI, wCmp, cmpI, wBi, isTy, asL, asLT, bindT, bindTs, intsOf, boolsOf]
  generalize hT : FL n.toNat a b m = T at q
  refine ⟨fun k σ h' => ∃ n a b m f x, σ = [.val (.int n), .val (.int a), .val (.int b), .val (.int m), .val (.int f), x] ∧ h' = h ∧ k = m.toNat ∧ (0 < n → 0 < m) ∧ 0 ≤ m ∧ Sz 4000 n ∧ Sz 4000 a ∧ Sz 4000 b ∧ Sz 4000 m ∧ f + FL n.toNat a b m = T,
    ⟨m.toNat, n, a, b, m, 0, .un, rfl, rfl, rfl, fun _ => hm, Int.le_of_lt hm, sn, sa, sb, sm, by rw [hT]; omega⟩, ?_⟩
  clear hT hm sn sa sb sm a b m n
  rintro k σ h' ⟨n, a, b, m, f, x, rfl, rfl, rfl, hm, hm0, sn, sa, sb, sm, tot⟩
  dsimp only [wpSs, wpS, wpE, wpEs, wpAnd, wpOr, wpI, wpF, wpT, wpH, Env.at, Env.put, Env.wipe, Env.nox, Slot.nox, wBin, binI, wCmp, cmpI, wBi, isTy, asL, asLT, bindT, bindTs, intsOf, boolsOf]
  by_cases c : 0 < n
  · rw [if_pos (decide_eq_true c)]
    have hm1 := hm c
    clear hm
    have hm := hm1
    have m0 : m ≠ 0 := by omega
    have bm : bitsI m ≤ 9000 := Nat.le_trans (bitsI_le sm) (by decide)
    rw [fdiv_pos hm, fdiv_pos (show (0 : Int) < 2 by decide), fmod_pos hm, fmod_pos hm, fdiv_pos hm, fdiv_pos hm, fmod_pos hm]
    have s1 : Sz 4001 (n - 1) := sn.sub (sz1.mono (by decide))
    have s2 : Sz 8001 (n * (n - 1) / 2) := (sn.mul s1).div (by decide)
    refine ⟨mul_ok sn s1 (by decide), ⟨by decide, bits2⟩, ⟨m0, bm⟩, mul_ok s2 (sa.div hm) (by decide), ⟨m0, bm⟩, mul_ok sn (sb.div hm) (by decide), m0, m0, mul_ok (sm.mod hm) sn (by decide), ⟨m0, bm⟩, m0, (show 4 ≤ SL by decide), ?_⟩
    have ha := Int.emod_nonneg a m0
    have ha' := Int.emod_lt_of_pos a hm
    have hb := Int.emod_nonneg b m0
    have hb' := Int.emod_lt_of_pos b hm
    have ht : 0 ≤ a % m * n + b % m := Int.add_nonneg (Int.mul_nonneg ha (Int.le_of_lt c)) hb
    have hq : (a % m * n + b % m) / m ≤ n := by
      have : a % m * n ≤ (m - 1) * n := Int.mul_le_mul_of_nonneg_right (by omega) (by omega)
      have e2 : (m - 1) * n = m * n - n := by rw [Int.sub_mul, Int.one_mul]
      have : a % m * n + b % m < (n + 1) * m := by rw [Int.add_mul, Int.one_mul, Int.mul_comm n m]; omega
      have := Int.ediv_lt_of_lt_mul hm this
      omega
    have hq0 := Int.ediv_nonneg ht (Int.le_of_lt hm)
    refine ⟨(a % m).toNat, by omega, _, _, _, _, _, _, rfl, rfl, rfl, fun z => ?_, ha, ?_, sm, sm.mod hm, sm.mod hm, ?_⟩
    · have ne : a % m ≠ 0 := fun e => by
        rw [e] at z
        have : (0 * n + b % m) / m = 0 := Int.ediv_eq_zero_of_lt (by omega) (by omega)
        omega
      omega
    · unfold Sz at *; omega
    · obtain ⟨N, rfl⟩ := Int.eq_ofNat_of_zero_le (Int.le_of_lt c)
      rw [Int.toNat_natCast] at tot
      rw [FL_red hm, FL_turn hm ha ha' hb hb'] at tot
      omega
  · rw [if_neg (by simpa using c)]
    have : n.toNat = 0 := by omega
    rw [this] at tot
    have : f = T := by
      have z : FL 0 a b m = 0 := rfl
      omega
    rw [this]
    exact q

def FR (first last a b m : Int) : Int := FL (last - first + 1).toNat a (a * first + b) m
def sp_floors_of : Spec := fun ds h Q _ => ∃ u v a b m, ds = [.int u, .int v, .int a, .int b, .int m] ∧ 0 < m ∧ Sz 1900 u ∧ Sz 1900 v ∧ Sz 1900 a ∧ Sz 1900 b ∧ Sz 1900 m ∧ Q (.int (FR u v a b m)) h
theorem b_floors_of {Γ : Gam} (h0 : Γ.fn 0 = sp_floors) : BodyOk Γ ir_floors_of sp_floors_of := by
  rintro ds h Q R ⟨u, v, a, b, m, rfl, hm, su, sv, sa, sb, sm, q⟩
  refine ⟨rfl, ?_⟩
  show wpSs Γ ir_floors_of.body [.val (.int u), .val (.int v), .val (.int a), .val (.int b), .val (.int m)] h _
  dsimp only [ir_floors_of, wpSs, wpS, wpE, wpEs, wpAnd, wpOr, wpI, wpF, wpT, wpH, Env.at, Env.put, Env.wipe, Env.nox, Slot.nox, wBin, binI, wCmp, cmpI, wBi, isTy, asL, asLT, bindT, bindTs, intsOf, boolsOf]
  rw [h0]
  refine ⟨mul_ok sa su (by decide), _, _, _, _, rfl, hm, ((sv.sub su).add (sz1.mono (by decide))).mono (by decide), sa.mono (by decide), ((sa.mul su).add (sb.mono (by decide))).mono (by decide), sm.mono (by decide), q⟩
/-! ### ranges -/
theorem loopC_map {step : D → AH → (Option D → AH → Prop) → Prop} {g : D → D} {h : AH} : ∀ {ds acc : List D} {K : List D → AH → Prop}, (∀ d ∈ ds, ∀ K : Option D → AH → Prop, K (some (g d)) h → step d h K) → acc.length + ds.length ≤ SL → K (acc ++ ds.map g) h → loopC step ds acc h K
  | [], acc, K, _, _, q => by
    show K acc h
    simpa using q
  | d :: r, acc, K, hs, hl, q => by
    refine hs d List.mem_cons_self _ ⟨?_, ?_⟩
    · rw [List.length_cons] at hl; omega
    · refine loopC_map (g := g) (fun d hd => hs d (List.mem_cons_of_mem _ hd)) ?_ ?_
      · rw [List.length_append, List.length_cons] at *; simp at *; omega
      · simpa using q
theorem boolsOf_map {l : List Bool} : boolsOf (l.map .bl) = some l := by
  induction l with
  | nil => rfl
  | cons b r ih =>
    show (match boolsOf (r.map .bl) with | some l => some (b :: l) | none => none) = _
    rw [ih]
theorem intsOf_map {l : List Int} : intsOf (l.map .int) = some l := by
  induction l with
  | nil => rfl
  | cons b r ih =>
    show (match intsOf (r.map .int) with | some l => some (b :: l) | none => none) = _
    rw [ih]
/-- a right line and right integers: nothing is raised -/
def sp_check_range : Spec := fun ds h Q _ => ∃ a b m u v, ds = [.tup [.int a, .int b, .int m], .int u, .int v] ∧ 0 < m ∧ Q .non h
theorem b_check_range {Γ : Gam} (h1 : Γ.fn 1 = sp_is_integer) : BodyOk Γ ir_check_range sp_check_range := by
  rintro ds h Q R ⟨a, b, m, u, v, rfl, hm, q⟩
  refine ⟨rfl, ?_⟩
  show wpSs Γ ir_check_range.body [.val (.tup [.int a, .int b, .int m]), .val (.int u), .val (.int v), .un] h _
  dsimp only [ir_check_range, wpSs, wpS, wpE, wpEs, wpAnd, wpOr, wpI, wpF, wpT, wpH, Env.at, Env.put, Env.wipe, Env.nox, Slot.nox, wBin, binI, wCmp, cmpI, wBi, isTy, asL, asLT, bindT, bindTs, intsOf, boolsOf]
  rw [h1]
  have e1 : ∀ (l : List D) , D.pln 60 (.int (l.length : Nat)) = true := fun _ => rfl
  have e3 : D.eqb (.int ((([D.int a, D.int b, D.int m] : List D).length : Nat) : Int)) (.int 3) = true := rfl
  refine ⟨⟨rfl, rfl⟩, ?_⟩
  have e4 : (!D.eqb (.int ((([D.int a, D.int b, D.int m] : List D).length : Nat) : Int)) (.int 3)) = false := rfl
  refine loopC_map (g := fun _ => .bl true) (fun d hd K k => ?_) (show 0 + 3 ≤ SL by decide) ?_
  · have hi : isInt d = some true := by
      rcases List.mem_cons.mp hd with e | hd
      · subst e; rfl
      · rcases List.mem_cons.mp hd with e | hd
        · subst e; rfl
        · rcases List.mem_cons.mp hd with e | hd
          · subst e; rfl
          · cases hd
    exact ⟨d, true, rfl, hi, k⟩
  · have lt : decide (m < 1) = false := by simp; omega
    show (if decide (m < 1) = true then False else _)
    rw [lt]
    refine ⟨_, true, rfl, rfl, ?_⟩
    exact ⟨_, true, rfl, rfl, q⟩
def sp_floor_sum : Spec := fun ds h Q _ => ∃ a b m u v, ds = [.tup [.int a, .int b, .int m], .int u, .int v] ∧ 0 < m ∧ Sz 1900 u ∧ Sz 1900 v ∧ Sz 1900 a ∧ Sz 1900 b ∧ Sz 1900 m ∧ Q (.int (FR u v a b m)) h
theorem b_floor_sum {Γ : Gam} (h2 : Γ.fn 2 = sp_check_range) (h3 : Γ.fn 3 = sp_floors_of) : BodyOk Γ ir_floor_sum sp_floor_sum := by
  rintro ds h Q R ⟨a, b, m, u, v, rfl, hm, su, sv, sa, sb, sm, q⟩
  refine ⟨rfl, ?_⟩
  show wpSs Γ ir_floor_sum.body [.val (.tup [.int a, .int b, .int m]), .val (.int u), .val (.int v)] h _
  dsimp only [ir_floor_sum, wpSs, wpS, wpE, wpEs, wpAnd, wpOr, wpI, wpF, wpT, wpH, Env.at, Env.put, Env.wipe, Env.nox, Slot.nox, wBin, binI, wCmp, cmpI, wBi, isTy, asL, asLT, bindT, bindTs, intsOf, boolsOf]
  rw [h2, h3]
  refine ⟨a, b, m, u, v, rfl, hm, ?_⟩
  exact ⟨u, v, a, b, m, rfl, hm, su, sv, sa, sb, sm, q⟩
def RR0 (first last a b m : Int) : Int := sumI (last - first + 1).toNat fun i => (a * (first + i) + b) % m
theorem RR0_eq {u v a b m : Int} (hm : 0 < m) : max 0 (v - u + 1) * b + a * (max 0 (v - u + 1) * (u + v) / 2) - m * FR u v a b m = RR0 u v a b m := by
  unfold RR0 FR FL
  have e : ∀ i : Nat, (a * (u + i) + b) % m = (a * (i : Int) + (a * u + b)) - m * ((a * i + (a * u + b)) / m) := fun i => by
    have h1 := Int.ediv_mul_add_emod (a * i + (a * u + b)) m
    have : a * (u + i) + b = a * i + (a * u + b) := by rw [Int.mul_add]; omega
    rw [this, Int.mul_comm m]; omega
  generalize hk : (v - u + 1).toNat = k
  have e2 : max 0 (v - u + 1) = (k : Int) := by omega
  rw [e2, sumI_congr fun i _ => e i]
  have e3 : ∀ i : Nat, (a * (i : Int) + (a * u + b)) - m * ((a * i + (a * u + b)) / m) = (a * (i : Int) + (a * u + b)) + (-m) * ((a * i + (a * u + b)) / m) := fun i => by rw [Int.neg_mul]; omega
  rw [sumI_congr fun i _ => e3 i, sumI_add, sumI_mul, sumI_add, sumI_mul, sumI_const, Int.neg_mul]
  have s := sumI_id (n := k)
  have key : (k : Int) * (u + v) / 2 = sumI k (fun i => (i : Int)) + k * u := by
    have : (k : Int) * (u + v) = 2 * (sumI k (fun i => (i : Int)) + k * u) := by
      rw [Int.mul_add 2, s]
      by_cases c : 0 ≤ v - u + 1
      · have : v = u + (k : Int) - 1 := by omega
        rw [this]
        rw [Int.mul_add, Int.mul_sub, Int.mul_sub, Int.mul_add, ← Int.mul_assoc, Int.mul_comm 2 (k : Int)]
        have : (k : Int) * 2 * u = k * u + k * u := by rw [Int.mul_comm (k : Int) 2, Int.mul_assoc]; omega
        rw [this]; omega
      · have : k = 0 := by omega
        subst this
        simp
    rw [this]
    exact Int.mul_ediv_cancel_left _ (by decide)
  rw [key, Int.mul_add]
  have ee : sumI k Nat.cast = sumI k (fun i => (i : Int)) := rfl
  try rw [ee]
  have : (k : Int) * (a * u + b) = k * b + a * (k * u) := by
    rw [Int.mul_add, ← Int.mul_assoc, Int.mul_comm (k : Int) a, Int.mul_assoc]; omega
  rw [this]; omega
def sp_residue_sum : Spec := fun ds h Q _ => ∃ a b m u v, ds = [.tup [.int a, .int b, .int m], .int u, .int v] ∧ 0 < m ∧ Sz 1900 u ∧ Sz 1900 v ∧ Sz 1900 a ∧ Sz 1900 b ∧ Sz 1900 m ∧ (∀ h', h' = h → Q (.int (RR0 u v a b m)) h')
theorem sz_FR {u v a b m : Int} (hm : 0 < m) (su : Sz 1900 u) (sv : Sz 1900 v) (sa : Sz 1900 a) (sb : Sz 1900 b) (sm : Sz 1900 m) : Sz 9000 (FR u v a b m) := by
  have e := RR0_eq (u := u) (v := v) (a := a) (b := b) hm
  have hr : (RR0 u v a b m).natAbs < 2 ^ 3900 := by
    have key : ∀ k : Nat, 0 ≤ sumI k (fun i => (a * (u + i) + b) % m) ∧ sumI k (fun i => (a * (u + i) + b) % m) ≤ k * m := by
      intro k
      induction k with
      | zero => exact ⟨Int.le_refl _, by show (0 : Int) ≤ _; simp⟩
      | succ k ih =>
        have h1 := Int.emod_nonneg (a * (u + k) + b) (show m ≠ 0 by omega)
        have h2 := Int.emod_lt_of_pos (a * (u + k) + b) hm
        have : ((k + 1 : Nat) : Int) * m = k * m + m := by
          have : ((k + 1 : Nat) : Int) = k + 1 := by omega
          rw [this, Int.add_mul, Int.one_mul]
        refine ⟨?_, ?_⟩
        · show 0 ≤ sumI k (fun i => (a * (u + i) + b) % m) + (a * (u + k) + b) % m
          omega
        · show sumI k (fun i => (a * (u + i) + b) % m) + (a * (u + k) + b) % m ≤ _
          rw [this]; omega
    obtain ⟨k1, k2⟩ := key (v - u + 1).toNat
    have s1 : Sz 1902 (((v - u + 1).toNat : Int)) := by
      have := (sv.sub su).add (sz1.mono (show 1 ≤ 1901 by decide))
      unfold Sz at *; omega
    have s2 := s1.mul sm
    have s3 := s2.mono (show 1902 + 1900 ≤ 3900 by decide)
    unfold Sz at s3
    unfold RR0
    have : (((v - u + 1).toNat : Int) * m).natAbs = ((v - u + 1).toNat : Int) * m := by
      have : 0 ≤ ((v - u + 1).toNat : Int) * m := Int.mul_nonneg (Int.natCast_nonneg _) (Int.le_of_lt hm)
      omega
    omega
  have sk : Sz 1902 (max 0 (v - u + 1)) := by
    have := (sv.sub su).add (sz1.mono (show 1 ≤ 1901 by decide))
    unfold Sz at *; omega
  have s1 : Sz 8000 (max 0 (v - u + 1) * b + a * (max 0 (v - u + 1) * (u + v) / 2)) :=
    (((sk.mul sb).mono (show _ ≤ 7000 by decide)).add ((sa.mul ((sk.mul (su.add sv)).div (by decide))).mono (show _ ≤ 7000 by decide))).mono (by decide)
  have s2 : Sz 8001 (m * FR u v a b m) := by
    have : m * FR u v a b m = (max 0 (v - u + 1) * b + a * (max 0 (v - u + 1) * (u + v) / 2)) - RR0 u v a b m := by omega
    rw [this]
    exact s1.sub (Sz.mono hr (by decide))
  have : (FR u v a b m).natAbs ≤ (m * FR u v a b m).natAbs := by
    rw [Int.natAbs_mul]
    exact Nat.le_mul_of_pos_left _ (by omega)
  exact Sz.mono (Nat.lt_of_le_of_lt this s2) (by decide)
theorem b_residue_sum {Γ : Gam} (h2 : Γ.fn 2 = sp_check_range) (h3 : Γ.fn 3 = sp_floors_of) : BodyOk Γ ir_residue_sum sp_residue_sum := by
  rintro ds h Q R ⟨a, b, m, u, v, rfl, hm, su, sv, sa, sb, sm, q⟩
  refine ⟨rfl, ?_⟩
  show wpSs Γ ir_residue_sum.body [.val (.tup [.int a, .int b, .int m]), .val (.int u), .val (.int v), .un, .un, .un, .un] h _
  dsimp only [ir_residue_sum, wpSs, wpS, wpE, wpEs, wpAnd, wpOr, wpI, wpF, wpT, wpH, Env.at, Env.put, Env.wipe, Env.nox, Slot.nox, wBin, binI, wCmp, cmpI, wBi, isTy, asL, asLT, bindT, bindTs, intsOf, boolsOf]
  rw [h2, h3]
  refine ⟨a, b, m, u, v, rfl, hm, ?_⟩
  have sk : Sz 1902 (max 0 (v - u + 1)) := by
    have := (sv.sub su).add (sz1.mono (show 1 ≤ 1901 by decide))
    unfold Sz at *; omega
  have s5 := (sk.mul (su.add sv)).div (show (0 : Int) < 2 by decide)
  rw [fdiv_pos (show (0 : Int) < 2 by decide)]
  refine ⟨mul_ok sk sb (by decide), mul_ok sk (su.add sv) (by decide), ⟨by decide, bits2⟩, mul_ok sa s5 (by decide), u, v, a, b, m, rfl, hm, su, sv, sa, sb, sm, mul_ok sm (sz_FR hm su sv sa sb sm) (by decide), ?_⟩
  rw [RR0_eq hm]
  exact q h rfl
theorem m_is_integer : ∀ ds h Q Q' R R', (∀ d h, Q d h → Q' d h) → (∀ x h, R x h → R' x h) → sp_is_integer ds h Q R → sp_is_integer ds h Q' R' := by
  rintro ds h Q Q' R R' k _ ⟨a1, a2, a3, a4, q⟩
  exact ⟨a1, a2, a3, a4, k _ _ q⟩
theorem m_floors : ∀ ds h Q Q' R R', (∀ d h, Q d h → Q' d h) → (∀ x h, R x h → R' x h) → sp_floors ds h Q R → sp_floors ds h Q' R' := by
  rintro ds h Q Q' R R' k _ ⟨a1, a2, a3, a4, a5, a6, a7, a8, a9, a10, q⟩
  exact ⟨a1, a2, a3, a4, a5, a6, a7, a8, a9, a10, k _ _ q⟩
theorem m_floors_of : ∀ ds h Q Q' R R', (∀ d h, Q d h → Q' d h) → (∀ x h, R x h → R' x h) → sp_floors_of ds h Q R → sp_floors_of ds h Q' R' := by
  rintro ds h Q Q' R R' k _ ⟨a1, a2, a3, a4, a5, a6, a7, a8, a9, a10, a11, a12, q⟩
  exact ⟨a1, a2, a3, a4, a5, a6, a7, a8, a9, a10, a11, a12, k _ _ q⟩
theorem m_check_range : ∀ ds h Q Q' R R', (∀ d h, Q d h → Q' d h) → (∀ x h, R x h → R' x h) → sp_check_range ds h Q R → sp_check_range ds h Q' R' := by
  rintro ds h Q Q' R R' k _ ⟨a1, a2, a3, a4, a5, a6, a7, q⟩
  exact ⟨a1, a2, a3, a4, a5, a6, a7, k _ _ q⟩
theorem m_floor_sum : ∀ ds h Q Q' R R', (∀ d h, Q d h → Q' d h) → (∀ x h, R x h → R' x h) → sp_floor_sum ds h Q R → sp_floor_sum ds h Q' R' := by
  rintro ds h Q Q' R R' k _ ⟨a1, a2, a3, a4, a5, a6, a7, a8, a9, a10, a11, a12, q⟩
  exact ⟨a1, a2, a3, a4, a5, a6, a7, a8, a9, a10, a11, a12, k _ _ q⟩
theorem m_residue_sum : ∀ ds h Q Q' R R', (∀ d h, Q d h → Q' d h) → (∀ x h, R x h → R' x h) → sp_residue_sum ds h Q R → sp_residue_sum ds h Q' R' := by
  rintro ds h Q Q' R R' k _ ⟨a1, a2, a3, a4, a5, a6, a7, a8, a9, a10, a11, a12, q⟩
  exact ⟨a1, a2, a3, a4, a5, a6, a7, a8, a9, a10, a11, a12, fun h' e => k _ _ (q h' e)⟩
end FF

namespace FF
def ir_l_well : Fd := ⟨1, 1, (.cons (.ret (.refl (.cons (.bin .mul (.var 0) (.bi .int (.cons (.cmp .ge (.var 0) (.bin .pow (.int 10) (.int 18))) .nil))) (.cons (.bin .mod (.bi .int (.cons (.var 0) .nil)) (.int 2147483629)) (.cons (.int 0) .nil))))) .nil)⟩
def ir_l_draw : Fd := ⟨2, 4, (.cons (.ite (.cmp .gt (.idx (.var 0) (.int 0)) (.int 0)) (.cons (.set 2 (.bin .mod (.bi .int (.cons (.idx (.var 0) (.int 0)) .nil)) (.var 1))) (.cons (.setIdx (.var 0) (.int 0) (.bin .fdiv (.idx (.var 0) (.int 0)) (.var 1))) (.cons (.ret (.var 2)) .nil))) .nil) (.cons (.setIdx (.var 0) (.int 2) (.bin .add (.idx (.var 0) (.int 2)) (.int 1))) (.cons (.set 3 (.bin .mod (.bi .int (.cons (.bin .pow (.bin .add (.bin .add (.idx (.var 0) (.int 1)) (.bin .mul (.int 61001) (.idx (.var 0) (.int 2)))) (.int 19)) (.int 3)) .nil)) (.int 2147483647))) (.cons (.set 3 (.bin .mod (.bi .int (.cons (.bin .mul (.bin .add (.var 3) (.idx (.var 0) (.int 2))) (.bin .add (.bin .fdiv (.var 3) (.int 1013)) (.int 70001))) .nil)) (.int 2147483587))) (.cons (.ret (.bin .mod (.bi .int (.cons (.bin .fdiv (.bin .mod (.bi .int (.cons (.bin .mul (.var 3) (.bin .add (.bin .fdiv (.var 3) (.int 2011)) (.int 40093))) .nil)) (.int 2147483563)) (.int 5)) .nil)) (.var 1))) .nil)))))⟩
def ir_l_pick : Fd := ⟨2, 2, (.cons (.ret (.idx (.var 1) (.call 1000 (.cons (.var 0) (.cons (.bi .len (.cons (.var 1) .nil)) .nil)) []))) .nil)⟩
def ir_l_script : Fd := ⟨2, 2, (.cons (.ret (.bin .add (.slTo (.var 0) (.var 1)) (.lst (.cons (.int 0) .nil)))) .nil)⟩
end FF

namespace FF
/-- a source of digits at a, drawn from at most k times -/
def Wel (k : Nat) (h : AH) (a : Nat) : Prop := ∃ w0 w1 w2, h a = some (.lst [.int w0, .int w1, .int w2]) ∧ 0 ≤ w1 ∧ w1 < 2147483648 ∧ 0 ≤ w2 ∧ w2 ≤ (k : Int)
theorem Wel.mono {j k : Nat} {h : AH} {a : Nat} (w : Wel j h a) (l : j ≤ k) : Wel k h a := by
  obtain ⟨w0, w1, w2, e, h1, h2, h3, h4⟩ := w
  exact ⟨w0, w1, w2, e, h1, h2, h3, by omega⟩
def Fr (a : Nat) (h h' : AH) : Prop := ∀ b, b ≠ a → h' b = h b
theorem Fr.refl {a : Nat} {h : AH} : Fr a h h := fun _ _ => rfl
theorem Fr.trans {a : Nat} {h h1 h2 : AH} (x : Fr a h h1) (y : Fr a h1 h2) : Fr a h h2 := fun b n => (y b n).trans (x b n)
def sp_draw : Spec := fun ds h Q _ => ∃ a many k, ds = [.ref a, .int many] ∧ 0 < many ∧ bitsI many ≤ 9000 ∧ Wel k h a ∧ k < 1073741824 ∧ ∀ d h', 0 ≤ d → d < many → Wel (k + 1) h' a → Fr a h h' → Q (.int d) h'
theorem mul_small {i j : Int} (h : Sz 64 i) : mulOk i j := .inr (.inl (bitsI_le h))
theorem mul_small2 {i j : Int} (h : Sz 64 j) : mulOk i j := .inr (.inr (bitsI_le h))
theorem b_draw {Γ : Gam} : BodyOk Γ ir_l_draw sp_draw := by
  rintro ds h Q R ⟨a, many, k, rfl, hm, bm, ⟨w0, w1, w2, e, h1, h2, h3, h4⟩, hk, q⟩
  refine ⟨rfl, ?_⟩
  show wpSs Γ ir_l_draw.body [.val (.ref a), .val (.int many), .un, .un] h _
  dsimp only [ir_l_draw, wpSs, wpS, wpE, wpEs, wpAnd, wpOr, wpI, wpF, wpT, wpH, Env.at, Env.put, Env.wipe, Env.nox, Slot.nox, wBin, binI, wCmp, cmpI, wBi, isTy, asL, asLT, bindT, bindTs, intsOf, boolsOf]
  have m0 : many ≠ 0 := by omega
  simp only [e, wpSs, wpS, wpE, wpEs, wpAnd, wpOr, wpI, wpF, wpT, wpH, Env.at, Env.put, Env.wipe, Env.nox, Slot.nox, wBin, binI, wCmp, cmpI, wBi, isTy, asL, asLT, bindT, bindTs, intsOf, boolsOf, ixL0, ixL1, ixL2, List.getElem?_cons_zero, List.getElem?_cons_succ, List.nil_append, List.cons_append, List.append_nil, if_true, ite_true, AH.put_same, List.set_cons_zero, List.set_cons_succ]
  by_cases c : 0 < w0
  · rw [if_pos (decide_eq_true c)]
    rw [fmod_pos hm, fdiv_pos hm]
    exact ⟨m0, ⟨m0, bm⟩, q _ _ (Int.emod_nonneg _ m0) (Int.emod_lt_of_pos _ hm) ⟨_, _, _, AH.put_same, h1, h2, h3, by omega⟩ fun b n => AH.put_ne n⟩
  · rw [if_neg (by simpa using c)]
    have p1 : (0 : Int) < 2147483647 := by decide
    have p2 : (0 : Int) < 2147483587 := by decide
    have p3 : (0 : Int) < 2147483563 := by decide
    rw [fmod_pos p1, fmod_pos p2, fmod_pos p3, fmod_pos hm, fdiv_pos (show (0 : Int) < 1013 by decide), fdiv_pos (show (0 : Int) < 2011 by decide), fdiv_pos (show (0 : Int) < 5 by decide)]
    have t1 := Int.emod_nonneg ((w1 + 61001 * (w2 + 1) + 19) ^ (3 : Int).toNat) (show (2147483647 : Int) ≠ 0 by decide)
    have t2 := Int.emod_lt_of_pos ((w1 + 61001 * (w2 + 1) + 19) ^ (3 : Int).toNat) p1
    generalize (w1 + 61001 * (w2 + 1) + 19) ^ (3 : Int).toNat % 2147483647 = x at *
    have t3 := Int.emod_nonneg ((x + (w2 + 1)) * (x / 1013 + 70001)) (show (2147483587 : Int) ≠ 0 by decide)
    have t4 := Int.emod_lt_of_pos ((x + (w2 + 1)) * (x / 1013 + 70001)) p2
    generalize (x + (w2 + 1)) * (x / 1013 + 70001) % 2147483587 = y at *
    refine ⟨mul_small (by unfold Sz; decide), ⟨by decide, by decide, by omega⟩, by decide, ⟨by decide, by decide⟩, mul_small (by unfold Sz; omega), by decide, ⟨by decide, by decide⟩, mul_small (by unfold Sz; omega), by decide, ⟨by decide, by decide⟩, m0, ?_⟩
    exact q _ _ (Int.emod_nonneg _ m0) (Int.emod_lt_of_pos _ hm) ⟨_, _, _, AH.put_same, h1, h2, by omega, by omega⟩ fun b n => AH.put_ne n
def sp_well : Spec := fun ds h Q _ => ∃ c, ds = [.int c] ∧ ∀ a h', h a = none → Wel 0 h' a → Fr a h h' → Q (.ref a) h'
theorem b_well {Γ : Gam} : BodyOk Γ ir_l_well sp_well := by
  rintro ds h Q R ⟨c, rfl, q⟩
  refine ⟨rfl, ?_⟩
  show wpSs Γ ir_l_well.body [.val (.int c)] h _
  dsimp only [ir_l_well, wpSs, wpS, wpE, wpEs, wpAnd, wpOr, wpI, wpF, wpT, wpH, Env.at, Env.put, Env.wipe, Env.nox, Slot.nox, wBin, binI, wCmp, cmpI, wBi, isTy, asL, asLT, bindT, bindTs, intsOf, boolsOf]
  have p1 : (0 : Int) < 2147483629 := by decide
  rw [fmod_pos p1]
  refine ⟨⟨by decide, by decide, by decide⟩, mul_small2 ?_, by decide, (show 3 ≤ SL by decide), fun a ha => q a _ ha ⟨_, _, _, AH.put_same, Int.emod_nonneg _ (by decide), ?_, Int.le_refl _, Int.le_refl _⟩ fun b n => AH.put_ne n⟩
  · unfold Sz
    split <;> decide
  · have := Int.emod_lt_of_pos c p1
    omega
/-- some: a list of integers -/
def sp_pick : Spec := fun ds h Q _ => ∃ (a : Nat) (l : List Int) (k : Nat), ds = [.ref a, .lst (l.map .int)] ∧ 0 < l.length ∧ l.length < 1000 ∧ Wel k h a ∧ k < 1073741824 ∧ ∀ d h', d ∈ l → Wel (k + 1) h' a → Fr a h h' → Q (.int d) h'
theorem ixP_ok {n : Nat} {i : Int} (h0 : 0 ≤ i) (h1 : i < n) : ixP n i = some i.toNat := by
  unfold ixP
  rw [if_pos h0, if_pos h1]
theorem b_pick {Γ : Gam} (hd : Γ.fn 1000 = sp_draw) : BodyOk Γ ir_l_pick sp_pick := by
  rintro ds h Q R ⟨a, l, k, rfl, hl, hl2, hw, hk, q⟩
  refine ⟨rfl, ?_⟩
  show wpSs Γ ir_l_pick.body [.val (.ref a), .val (.lst (l.map .int))] h _
  dsimp only [ir_l_pick, wpSs, wpS, wpE, wpEs, wpAnd, wpOr, wpI, wpF, wpT, wpH, Env.at, Env.put, Env.wipe, Env.nox, Slot.nox, wBin, binI, wCmp, cmpI, wBi, isTy, asL, asLT, bindT, bindTs, intsOf, boolsOf]
  rw [hd]
  have hlen : (l.map D.int).length = l.length := List.length_map ..
  refine ⟨a, _, k, rfl, by rw [hlen]; omega, ?_, hw, hk, fun d h' d0 d1 w' fr => ?_⟩
  · rw [hlen]
    exact Nat.le_trans (bitsI_le (show Sz 10 (l.length : Int) by unfold Sz; omega)) (by decide)
  · dsimp only
    rw [ixP_ok d0 d1]
    have hi : d.toNat < l.length := by rw [hlen] at d1; omega
    have : (l.map D.int)[d.toNat]? = some (.int l[d.toNat]) := by
      rw [List.getElem?_map, List.getElem?_eq_getElem hi]; rfl
    show (match (l.map D.int)[d.toNat]? with | some d => Q d h' | none => False)
    rw [this]
    exact q _ h' (List.getElem_mem hi) w' fr
def sp_script : Spec := fun ds h Q _ => ∃ (l : List Int) (n : Int), ds = [.lst (l.map .int), .int n] ∧ l.length < 1000 ∧ 0 ≤ n ∧ n < 1000 ∧ ∀ r : List Int, r.length ≤ n + 1 → Q (.lst (r.map .int)) h
theorem b_script {Γ : Gam} : BodyOk Γ ir_l_script sp_script := by
  rintro ds h Q R ⟨l, n, rfl, hl, h0, h1, q⟩
  refine ⟨rfl, ?_⟩
  show wpSs Γ ir_l_script.body [.val (.lst (l.map .int)), .val (.int n)] h _
  dsimp only [ir_l_script, wpSs, wpS, wpE, wpEs, wpAnd, wpOr, wpI, wpF, wpT, wpH, Env.at, Env.put, Env.wipe, Env.nox, Slot.nox, wBin, binI, wCmp, cmpI, wBi, isTy, asL, asLT, bindT, bindTs, intsOf, boolsOf]
  have e : slP (l.map D.int).length n = min n.toNat l.length := by
    unfold slP
    rw [if_pos h0, List.length_map]
  rw [e]
  refine ⟨by decide, ?_, ?_⟩
  · rw [List.length_take, List.length_map]
    show _ + 1 ≤ SL
    have : SL = 16777216 := rfl
    omega
  · have e2 : (l.map D.int).take (min n.toNat l.length) ++ [.int 0] = ((l.take (min n.toNat l.length)) ++ [0]).map D.int := by
      rw [List.map_append, List.map_take]; rfl
    rw [e2]
    refine q _ ?_
    rw [List.length_append, List.length_take]
    show ((_ + 1 : Nat) : Int) ≤ _
    omega
theorem loopC_ints {step : D → AH → (Option D → AH → Prop) → Prop} {g : Int → Int} {h : AH} {l : List Int} {K : List D → AH → Prop} (hs : ∀ i ∈ l, ∀ K : Option D → AH → Prop, K (some (.int (g i))) h → step (.int i) h K) (hl : l.length ≤ SL) (q : K ((l.map g).map .int) h) : loopC step (l.map .int) [] h K := by
  refine loopC_map (g := fun d => match d with | .int i => .int (g i) | d => d) (fun d hd K k => ?_) (by rw [List.length_map]; show 0 + _ ≤ SL; omega) ?_
  · obtain ⟨i, hi, rfl⟩ := List.mem_map.mp hd
    exact hs i hi K k
  · rw [List.nil_append, List.map_map]
    rw [List.map_map] at q
    exact q
theorem rangeL_eq {a : Int} {n : Nat} : rangeL a n = ((List.range n).map fun i : Nat => a + (i : Int)).map D.int := by
  unfold rangeL
  rw [List.map_map]; rfl
theorem eqb_int {i j : Int} : D.eqb (.int i) (.int j) = (i == j) := rfl
theorem sum_map_range {f : Nat → Int} : ∀ {n : Nat}, ((List.range n).map f).sum = sumI n f
  | 0 => rfl
  | n + 1 => by
    rw [List.range_succ, List.map_append, List.sum_append, sum_map_range (n := n)]
    show sumI n f + (f n + 0) = sumI n f + f n
    omega
theorem eq_int {i j : Int} (e : i = j) : D.eqb (.int i) (.int j) = true := by subst e; exact beq_self_eq_true i
theorem pln_int {i : Int} : D.pln 60 (.int i) = true := rfl
theorem ok_int {i j : Int} : eqOk (.int i) (.int j) := ⟨rfl, rfl⟩
theorem ne_go {i j : Int} {A B : Prop} (e : i = j) (h : B) : eqOk (.int i) (.int j) ∧ if (!D.eqb (.int i) (.int j)) = true then A else B := by
  refine ⟨ok_int, ?_⟩
  rw [eq_int e]
  exact h
theorem loopC_none {n : Nat} {step : D → AH → (Option D → AH → Prop) → Prop} {I : Nat → AH → Prop} (hs : ∀ j d h K, j < n → I j h → (∀ h', I (j + 1) h' → K none h') → step d h K) : ∀ (ds : List D) {j : Nat} {h : AH} {K : List D → AH → Prop}, j + ds.length ≤ n → I j h → (∀ h', I (j + ds.length) h' → K [] h') → loopC step ds [] h K
  | [], j, h, K, _, i, k => k h i
  | d :: r, j, h, K, l, i, k => hs j d h _ (by rw [List.length_cons] at l; omega) i fun h' i' => loopC_none hs r (by rw [List.length_cons] at l; omega) i' fun h'' i'' => k h'' (by rw [List.length_cons, show j + (r.length + 1) = j + 1 + r.length by omega]; exact i'')
theorem m_draw : ∀ ds h Q Q' R R', (∀ d h, Q d h → Q' d h) → (∀ x h, R x h → R' x h) → sp_draw ds h Q R → sp_draw ds h Q' R' := by
  rintro ds h Q Q' R R' k _ ⟨a1, a2, a3, a4, a5, a6, a7, a8, q⟩
  exact ⟨a1, a2, a3, a4, a5, a6, a7, a8, fun d h' b1 b2 b3 b4 => k _ _ (q d h' b1 b2 b3 b4)⟩
theorem m_pick : ∀ ds h Q Q' R R', (∀ d h, Q d h → Q' d h) → (∀ x h, R x h → R' x h) → sp_pick ds h Q R → sp_pick ds h Q' R' := by
  rintro ds h Q Q' R R' k _ ⟨a1, a2, a3, a4, a5, a6, a7, a8, q⟩
  exact ⟨a1, a2, a3, a4, a5, a6, a7, a8, fun d h' b1 b2 b3 => k _ _ (q d h' b1 b2 b3)⟩
theorem m_script : ∀ ds h Q Q' R R', (∀ d h, Q d h → Q' d h) → (∀ x h, R x h → R' x h) → sp_script ds h Q R → sp_script ds h Q' R' := by
  rintro ds h Q Q' R R' k _ ⟨a1, a2, a3, a4, a5, a6, q⟩
  exact ⟨a1, a2, a3, a4, a5, a6, fun r b => k _ _ (q r b)⟩
theorem m_well : ∀ ds h Q Q' R R', (∀ d h, Q d h → Q' d h) → (∀ x h, R x h → R' x h) → sp_well ds h Q R → sp_well ds h Q' R' := by
  rintro ds h Q Q' R R' k _ ⟨a1, a2, q⟩
  exact ⟨a1, a2, fun a h' b1 b2 b3 => k _ _ (q a h' b1 b2 b3)⟩
end FF

namespace FF
def ir_is_between : Fd := ⟨3, 3, (.cons (.ret (.ands (.cons (.call 1 (.cons (.var 0) .nil) []) (.cons (.chain .le .le (.var 1) (.var 0) (.var 2)) .nil)))) .nil)⟩
def ir_check_between : Fd := ⟨4, 4, (.cons (.ite (.not (.call 6 (.cons (.var 1) (.cons (.var 2) (.cons (.var 3) .nil))) [])) (.cons .never .nil) .nil) .nil)⟩
def ir_count_of : Fd := ⟨7, 7, (.cons (.ite (.ors (.cons (.cmp .lt (.var 1) (.var 0)) (.cons (.cmp .lt (.var 6) (.var 5)) .nil))) (.cons (.ret (.int 0)) .nil) .nil) (.cons (.ret (.bin .sub (.call 3 (.cons (.var 0) (.cons (.var 1) (.cons (.var 2) (.cons (.bin .sub (.var 3) (.var 5)) (.cons (.var 4) .nil))))) []) (.call 3 (.cons (.var 0) (.cons (.var 1) (.cons (.var 2) (.cons (.bin .sub (.bin .sub (.var 3) (.var 6)) (.int 1)) (.cons (.var 4) .nil))))) []))) .nil))⟩
def ir_around : Fd := ⟨5, 5, (.cons (.ret (.tup (.cons (.tup (.cons (.var 0) (.cons (.bin .sub (.var 1) (.var 3)) (.cons (.var 2) .nil)))) (.cons (.bin .mod (.bin .sub (.var 4) (.var 3)) (.var 2)) .nil)))) .nil)⟩
def ir_hits_of : Fd := ⟨7, 9, (.cons (.setT (.cons (.name 7) (.cons (.name 8) .nil)) (.call 7 (.cons (.var 2) (.cons (.var 3) (.cons (.var 4) (.cons (.var 5) (.cons (.var 6) .nil))))) [])) (.cons (.ret (.call 8 (.cons (.var 0) (.cons (.var 1) (.cons (.idx (.var 7) (.int 0)) (.cons (.idx (.var 7) (.int 1)) (.cons (.var 4) (.cons (.int 0) (.cons (.var 8) .nil))))))) [])) .nil))⟩
def ir_nth_of : Fd := ⟨8, 12, (.cons (.setT (.cons (.name 8) (.cons (.name 9) .nil)) (.call 7 (.cons (.var 2) (.cons (.var 3) (.cons (.var 4) (.cons (.var 5) (.cons (.var 6) .nil))))) [])) (.cons (.set 10 (.var 0)) (.cons (.whl (.cmp .lt (.var 0) (.var 1)) (.cons (.set 11 (.bin .fdiv (.bin .add (.var 0) (.var 1)) (.int 2))) (.cons (.ite (.cmp .gt (.call 8 (.cons (.var 10) (.cons (.var 11) (.cons (.idx (.var 8) (.int 0)) (.cons (.idx (.var 8) (.int 1)) (.cons (.var 4) (.cons (.int 0) (.cons (.var 9) .nil))))))) []) (.var 7)) (.cons (.set 1 (.var 11)) .nil) (.cons (.set 0 (.bin .add (.var 11) (.int 1))) .nil)) .nil))) (.cons (.ret (.var 0)) .nil))))⟩
def ir_first_of : Fd := ⟨7, 7, (.cons (.ite (.cmp .eq (.call 9 (.cons (.var 0) (.cons (.var 1) (.cons (.var 2) (.cons (.var 3) (.cons (.var 4) (.cons (.var 5) (.cons (.var 6) .nil))))))) []) (.int 0)) (.cons (.ret .non) .nil) .nil) (.cons (.ret (.call 10 (.cons (.var 0) (.cons (.var 1) (.cons (.var 2) (.cons (.var 3) (.cons (.var 4) (.cons (.var 5) (.cons (.var 6) (.cons (.int 0) .nil)))))))) [])) .nil))⟩
def ir_check_residues : Fd := ⟨5, 5, (.cons (.expr (.call 2 (.cons (.var 0) (.cons (.var 1) (.cons (.var 2) .nil))) [])) (.cons (.expr (.call 11 (.cons (.str [108, 111, 119]) (.cons (.var 3) (.cons (.int 0) (.cons (.bin .sub (.idx (.var 0) (.int 2)) (.int 1)) .nil)))) [])) (.cons (.expr (.call 11 (.cons (.str [104, 105, 103, 104]) (.cons (.var 4) (.cons (.int 0) (.cons (.bin .sub (.idx (.var 0) (.int 2)) (.int 1)) .nil)))) [])) .nil)))⟩
def ir_hits : Fd := ⟨5, 5, (.cons (.expr (.call 12 (.cons (.var 0) (.cons (.var 1) (.cons (.var 2) (.cons (.var 3) (.cons (.var 4) .nil))))) [])) (.cons (.ret (.call 9 (.cons (.var 1) (.cons (.var 2) (.cons (.idx (.var 0) (.int 0)) (.cons (.idx (.var 0) (.int 1)) (.cons (.idx (.var 0) (.int 2)) (.cons (.var 3) (.cons (.var 4) .nil))))))) [])) .nil))⟩
def ir_first_hit : Fd := ⟨5, 5, (.cons (.expr (.call 12 (.cons (.var 0) (.cons (.var 1) (.cons (.var 2) (.cons (.var 3) (.cons (.var 4) .nil))))) [])) (.cons (.ret (.call 13 (.cons (.var 1) (.cons (.var 2) (.cons (.idx (.var 0) (.int 0)) (.cons (.idx (.var 0) (.int 1)) (.cons (.idx (.var 0) (.int 2)) (.cons (.var 3) (.cons (.var 4) .nil))))))) [])) .nil))⟩
def ir_last_hit : Fd := ⟨5, 6, (.cons (.set 5 (.call 14 (.cons (.var 0) (.cons (.var 1) (.cons (.var 2) (.cons (.var 3) (.cons (.var 4) .nil))))) [])) (.cons (.ite (.cmp .eq (.var 5) (.int 0)) (.cons (.ret .non) .nil) .nil) (.cons (.ret (.call 10 (.cons (.var 1) (.cons (.var 2) (.cons (.idx (.var 0) (.int 0)) (.cons (.idx (.var 0) (.int 1)) (.cons (.idx (.var 0) (.int 2)) (.cons (.var 3) (.cons (.var 4) (.cons (.bin .sub (.var 5) (.int 1)) .nil)))))))) [])) .nil)))⟩
def ir_hit_at : Fd := ⟨6, 6, (.cons (.expr (.call 11 (.cons (.str [106]) (.cons (.var 5) (.cons (.int 0) (.cons (.bin .sub (.call 14 (.cons (.var 0) (.cons (.var 1) (.cons (.var 2) (.cons (.var 3) (.cons (.var 4) .nil))))) []) (.int 1)) .nil)))) [])) (.cons (.ret (.call 10 (.cons (.var 1) (.cons (.var 2) (.cons (.idx (.var 0) (.int 0)) (.cons (.idx (.var 0) (.int 1)) (.cons (.idx (.var 0) (.int 2)) (.cons (.var 3) (.cons (.var 4) (.cons (.var 5) .nil)))))))) [])) .nil))⟩
end FF

namespace FF
/-- of the integers from u to v: those whose residue is k at the most -/
def CN (u v a b m k : Int) : Int := sumI (v - u + 1).toNat fun i => ind ((a * (u + i) + b) % m ≤ k)
theorem CN_none {u v a b m k : Int} (h : v < u) : CN u v a b m k = 0 := by
  unfold CN
  rw [show (v - u + 1).toNat = 0 by omega]; rfl
theorem ind01 (p : Prop) [Decidable p] : 0 ≤ ind p ∧ ind p ≤ 1 := by
  unfold ind
  split <;> omega
theorem CN_range {u v a b m k : Int} : 0 ≤ CN u v a b m k ∧ CN u v a b m k ≤ ((v - u + 1).toNat : Int) := by
  unfold CN
  generalize (v - u + 1).toNat = n
  induction n with
  | zero => exact ⟨Int.le_refl _, Int.le_refl _⟩
  | succ n ih =>
    have := ind01 ((a * (u + (n : Int)) + b) % m ≤ k)
    have e : sumI (n + 1) (fun i => ind ((a * (u + (i : Int)) + b) % m ≤ k)) = sumI n (fun i => ind ((a * (u + (i : Int)) + b) % m ≤ k)) + ind ((a * (u + (n : Int)) + b) % m ≤ k) := rfl
    rw [e]
    omega
theorem CN_last {u v a b m k : Int} (h : u ≤ v) : CN u v a b m k = CN u (v - 1) a b m k + ind ((a * v + b) % m ≤ k) := by
  unfold CN
  have e : (v - u + 1).toNat = (v - 1 - u + 1).toNat + 1 := by omega
  rw [e]
  have e2 : u + ((v - 1 - u + 1).toNat : Int) = v := by omega
  show _ + ind ((a * (u + ((v - 1 - u + 1).toNat : Int)) + b) % m ≤ k) = _
  rw [e2]
theorem floor_step {x m k : Int} (hm : 0 < m) (h0 : 0 ≤ k) (h1 : k < m) : x / m - (x - k - 1) / m = ind (x % m ≤ k) := by
  have d := Int.ediv_mul_add_emod x m
  have e0 := Int.emod_nonneg x (show m ≠ 0 by omega)
  have e1 := Int.emod_lt_of_pos x hm
  have : x - k - 1 = (x % m - k - 1) + m * (x / m) := by rw [Int.mul_comm]; omega
  rw [this, Int.add_mul_ediv_left _ _ (show m ≠ 0 by omega)]
  unfold ind
  by_cases c : x % m ≤ k
  · rw [if_pos c]
    have : (x % m - k - 1) / m = -1 := by
      have h2 : (x % m - k - 1) = (x % m - k - 1 + m) + m * (-1) := by omega
      rw [h2, Int.add_mul_ediv_left _ _ (show m ≠ 0 by omega), Int.ediv_eq_zero_of_lt (by omega) (by omega)]; rfl
    omega
  · have z : (x % m - k - 1) / m = 0 := Int.ediv_eq_zero_of_lt (by omega) (by omega)
    rw [if_neg c, z]; omega
theorem FR_cnt {u v a b m k : Int} (hm : 0 < m) (h0 : 0 ≤ k) (h1 : k < m) : FR u v a b m - FR u v a (b - k - 1) m = CN u v a b m k := by
  unfold FR FL CN
  generalize (v - u + 1).toNat = n
  induction n with
  | zero => rfl
  | succ n ih =>
    show (sumI n (fun i => (a * i + (a * u + b)) / m) + (a * n + (a * u + b)) / m) - (sumI n (fun i => (a * i + (a * u + (b - k - 1))) / m) + (a * n + (a * u + (b - k - 1))) / m) = sumI n (fun i => ind ((a * (u + (i : Int)) + b) % m ≤ k)) + ind ((a * (u + (n : Int)) + b) % m ≤ k)
    have s := floor_step (x := a * n + (a * u + b)) hm h0 h1
    have e1 : a * (n : Int) + (a * u + (b - k - 1)) = a * n + (a * u + b) - k - 1 := by omega
    have e2 : a * (u + (n : Int)) + b = a * n + (a * u + b) := by rw [Int.mul_add]; omega
    rw [e1, e2]
    omega
/-! ### readings -/
def sp_is_between : Spec := fun ds h Q _ => ∃ x l g, ds = [.int x, .int l, .int g] ∧ Q (.bl (decide (l ≤ x ∧ x ≤ g))) h
theorem b_is_between {Γ : Gam} (h1 : Γ.fn 1 = sp_is_integer) : BodyOk Γ ir_is_between sp_is_between := by
  rintro ds h Q R ⟨x, l, g, rfl, q⟩
  refine ⟨rfl, ?_⟩
  show wpSs Γ ir_is_between.body [.val (.int x), .val (.int l), .val (.int g)] h _
  simp only [ir_is_between, wpSs, wpS, wpE, wpEs, wpAnd, wpOr, wpI, wpF, wpT, wpH, Env.at, Env.put, Env.wipe, Env.nox, Slot.nox, wBin, binI, wCmp, cmpI, wBi, isTy, asL, asLT, bindT, bindTs, intsOf, boolsOf, ixL0, ixL1, ixL2, List.getElem?_cons_zero, List.getElem?_cons_succ, List.nil_append, List.cons_append, List.append_nil, if_true, ite_true, h1]
  refine ⟨_, true, rfl, rfl, ?_⟩
  simp only [wpSs, wpS, wpE, wpEs, wpAnd, wpOr, wpI, wpF, wpT, wpH, Env.at, Env.put, Env.wipe, Env.nox, Slot.nox, wBin, binI, wCmp, cmpI, wBi, isTy, asL, asLT, bindT, bindTs, intsOf, boolsOf, ixL0, ixL1, ixL2, List.getElem?_cons_zero, List.getElem?_cons_succ, List.nil_append, List.cons_append, List.append_nil, if_true, ite_true]
  by_cases c : l ≤ x
  · rw [if_pos (decide_eq_true c)]
    have : decide (x ≤ g) = decide (l ≤ x ∧ x ≤ g) := by simp [c]
    rw [this]; exact q
  · rw [if_neg (by simpa using c)]
    have : false = decide (l ≤ x ∧ x ≤ g) := by simp [c]
    rw [this]; exact q
def sp_check_between : Spec := fun ds h Q _ => ∃ n x l g, ds = [n, .int x, .int l, .int g] ∧ l ≤ x ∧ x ≤ g ∧ Q .non h
theorem b_check_between {Γ : Gam} (h6 : Γ.fn 6 = sp_is_between) : BodyOk Γ ir_check_between sp_check_between := by
  rintro ds h Q R ⟨n, x, l, g, rfl, h1, h2, q⟩
  refine ⟨rfl, ?_⟩
  show wpSs Γ ir_check_between.body [.val n, .val (.int x), .val (.int l), .val (.int g)] h _
  simp only [ir_check_between, wpSs, wpS, wpE, wpEs, wpAnd, wpOr, wpI, wpF, wpT, wpH, Env.at, Env.put, Env.wipe, Env.nox, Slot.nox, wBin, binI, wCmp, cmpI, wBi, isTy, asL, asLT, bindT, bindTs, intsOf, boolsOf, ixL0, ixL1, ixL2, List.getElem?_cons_zero, List.getElem?_cons_succ, List.nil_append, List.cons_append, List.append_nil, if_true, ite_true, h6]
  refine ⟨_, _, _, rfl, ?_⟩
  rw [decide_eq_true (And.intro h1 h2)]
  exact q
def sp_count_of : Spec := fun ds h Q _ => ∃ u v a b m l g, ds = [.int u, .int v, .int a, .int b, .int m, .int l, .int g] ∧ 0 < m ∧ 0 ≤ g - l ∧ g - l < m ∧ Sz 1800 u ∧ Sz 1800 v ∧ Sz 1800 a ∧ Sz 1800 b ∧ Sz 1800 m ∧ Sz 1800 l ∧ Sz 1800 g ∧ Q (.int (CN u v a (b - l) m (g - l))) h
theorem b_count_of {Γ : Gam} (h3 : Γ.fn 3 = sp_floors_of) : BodyOk Γ ir_count_of sp_count_of := by
  rintro ds h Q R ⟨u, v, a, b, m, l, g, rfl, hm, h0, h1, su, sv, sa, sb, sm, sl, sg, q⟩
  refine ⟨rfl, ?_⟩
  show wpSs Γ ir_count_of.body [.val (.int u), .val (.int v), .val (.int a), .val (.int b), .val (.int m), .val (.int l), .val (.int g)] h _
  simp only [ir_count_of, wpSs, wpS, wpE, wpEs, wpAnd, wpOr, wpI, wpF, wpT, wpH, Env.at, Env.put, Env.wipe, Env.nox, Slot.nox, wBin, binI, wCmp, cmpI, wBi, isTy, asL, asLT, bindT, bindTs, intsOf, boolsOf, ixL0, ixL1, ixL2, List.getElem?_cons_zero, List.getElem?_cons_succ, List.nil_append, List.cons_append, List.append_nil, if_true, ite_true, h3]
  by_cases c : v < u
  · rw [if_pos (decide_eq_true c)]
    rw [CN_none c] at q
    exact q
  · rw [if_neg (by simpa using c)]
    have : decide (g < l) = false := by simp; omega
    rw [this]
    have s1 : Sz 1900 (b - l) := (sb.sub sl).mono (by decide)
    have s2 : Sz 1900 (b - g - 1) := ((sb.sub sg).sub (sz1.mono (by decide))).mono (by decide)
    refine ⟨_, _, _, _, _, rfl, hm, su.mono (by decide), sv.mono (by decide), sa.mono (by decide), s1, sm.mono (by decide), ?_⟩
    refine ⟨_, _, _, _, _, rfl, hm, su.mono (by decide), sv.mono (by decide), sa.mono (by decide), s2, sm.mono (by decide), ?_⟩
    have e := FR_cnt (u := u) (v := v) (a := a) (b := b - l) (k := g - l) hm h0 h1
    rw [show b - l - (g - l) - 1 = b - g - 1 by omega] at e
    simp only [wpSs, wpS, wpE, wpEs, wpAnd, wpOr, wpI, wpF, wpT, wpH, Env.at, Env.put, Env.wipe, Env.nox, Slot.nox, wBin, binI, wCmp, cmpI, wBi, isTy, asL, asLT, bindT, bindTs, intsOf, boolsOf, ixL0, ixL1, ixL2, List.getElem?_cons_zero, List.getElem?_cons_succ, List.nil_append, List.cons_append, List.append_nil, if_true, ite_true]
    rw [e]
    exact q
def sp_around : Spec := fun ds h Q _ => ∃ a b m l g, ds = [.int a, .int b, .int m, .int l, .int g] ∧ 0 < m ∧ Q (.tup [.tup [.int a, .int (b - l), .int m], .int ((g - l) % m)]) h
theorem b_around {Γ : Gam} : BodyOk Γ ir_around sp_around := by
  rintro ds h Q R ⟨a, b, m, l, g, rfl, hm, q⟩
  refine ⟨rfl, ?_⟩
  show wpSs Γ ir_around.body [.val (.int a), .val (.int b), .val (.int m), .val (.int l), .val (.int g)] h _
  simp only [ir_around, wpSs, wpS, wpE, wpEs, wpAnd, wpOr, wpI, wpF, wpT, wpH, Env.at, Env.put, Env.wipe, Env.nox, Slot.nox, wBin, binI, wCmp, cmpI, wBi, isTy, asL, asLT, bindT, bindTs, intsOf, boolsOf, ixL0, ixL1, ixL2, List.getElem?_cons_zero, List.getElem?_cons_succ, List.nil_append, List.cons_append, List.append_nil, if_true, ite_true]
  rw [fmod_pos hm]
  exact ⟨(show 3 ≤ SL by decide), by omega, (show 2 ≤ SL by decide), q⟩
/-- sizes and bounds of a question about a band of residues -/
structure Band (u v a b m l g : Int) : Prop where
  m0 : 0 < m
  su : Sz 1700 u
  sv : Sz 1700 v
  sa : Sz 1700 a
  sb : Sz 1700 b
  sm : Sz 1700 m
  sl : Sz 1700 l
  sg : Sz 1700 g
def sp_hits_of : Spec := fun ds h Q _ => ∃ u v a b m l g, ds = [.int u, .int v, .int a, .int b, .int m, .int l, .int g] ∧ Band u v a b m l g ∧ Q (.int (CN u v a (b - l) m ((g - l) % m))) h
theorem Band.go {Γ : Gam} {u v a b m l g : Int} {h : AH} {Q : QE} {R : RE} (B : Band u v a b m l g) (q : Q (.int (CN u v a (b - l) m ((g - l) % m))) h) : sp_count_of [.int u, .int v, .int a, .int (b - l), .int m, .int 0, .int ((g - l) % m)] h Q R := by
  have e0 := Int.emod_nonneg (g - l) (show m ≠ 0 by have := B.m0; omega)
  have e1 := Int.emod_lt_of_pos (g - l) B.m0
  have s0 : Sz 1800 0 := by unfold Sz; exact Nat.pow_pos (by decide)
  refine ⟨_, _, _, _, _, _, _, rfl, B.m0, by omega, by omega, B.su.mono (by decide), B.sv.mono (by decide), B.sa.mono (by decide), (B.sb.sub B.sl).mono (by decide), B.sm.mono (by decide), s0, (B.sm.mod B.m0).mono (by decide), ?_⟩
  rw [Int.sub_zero, Int.sub_zero]
  exact q
theorem b_hits_of {Γ : Gam} (h7 : Γ.fn 7 = sp_around) (h8 : Γ.fn 8 = sp_count_of) : BodyOk Γ ir_hits_of sp_hits_of := by
  rintro ds h Q R ⟨u, v, a, b, m, l, g, rfl, B, q⟩
  refine ⟨rfl, ?_⟩
  show wpSs Γ ir_hits_of.body [.val (.int u), .val (.int v), .val (.int a), .val (.int b), .val (.int m), .val (.int l), .val (.int g), .un, .un] h _
  simp only [ir_hits_of, wpSs, wpS, wpE, wpEs, wpAnd, wpOr, wpI, wpF, wpT, wpH, Env.at, Env.put, Env.wipe, Env.nox, Slot.nox, wBin, binI, wCmp, cmpI, wBi, isTy, asL, asLT, bindT, bindTs, intsOf, boolsOf, ixL0, ixL1, ixL2, List.getElem?_cons_zero, List.getElem?_cons_succ, List.nil_append, List.cons_append, List.append_nil, if_true, ite_true, h7, h8]
  refine ⟨_, _, _, _, _, rfl, B.m0, ?_⟩
  simp only [wpSs, wpS, wpE, wpEs, wpAnd, wpOr, wpI, wpF, wpT, wpH, Env.at, Env.put, Env.wipe, Env.nox, Slot.nox, wBin, binI, wCmp, cmpI, wBi, isTy, asL, asLT, bindT, bindTs, intsOf, boolsOf, ixL0, ixL1, ixL2, List.getElem?_cons_zero, List.getElem?_cons_succ, List.nil_append, List.cons_append, List.append_nil, if_true, ite_true]
  exact B.go (Γ := Γ) q
/-- number j of those from u to v -/
def Nth (u v a b m k j n : Int) : Prop := u ≤ n ∧ n ≤ v ∧ (a * n + b) % m ≤ k ∧ CN u (n - 1) a b m k = j
def sp_nth_of : Spec := fun ds h Q _ => ∃ u v a b m l g j, ds = [.int u, .int v, .int a, .int b, .int m, .int l, .int g, .int j] ∧ Band u v a b m l g ∧ 0 ≤ j ∧ j < CN u v a (b - l) m ((g - l) % m) ∧ ∀ n, Nth u v a (b - l) m ((g - l) % m) j n → Q (.int n) h
theorem b_nth_of {Γ : Gam} (h7 : Γ.fn 7 = sp_around) (h8 : Γ.fn 8 = sp_count_of) : BodyOk Γ ir_nth_of sp_nth_of := by
  rintro ds h Q R ⟨u, v, a, b, m, l, g, j, rfl, B, j0, j1, q⟩
  refine ⟨rfl, ?_⟩
  show wpSs Γ ir_nth_of.body [.val (.int u), .val (.int v), .val (.int a), .val (.int b), .val (.int m), .val (.int l), .val (.int g), .val (.int j), .un, .un, .un, .un] h _
  simp only [ir_nth_of, wpSs, wpS, wpE, wpEs, wpAnd, wpOr, wpI, wpF, wpT, wpH, Env.at, Env.put, Env.wipe, Env.nox, Slot.nox, wBin, binI, wCmp, cmpI, wBi, isTy, asL, asLT, bindT, bindTs, intsOf, boolsOf, ixL0, ixL1, ixL2, List.getElem?_cons_zero, List.getElem?_cons_succ, List.nil_append, List.cons_append, List.append_nil, if_true, ite_true, h7]
  refine ⟨_, _, _, _, _, rfl, B.m0, ?_⟩
  simp only [wpSs, wpS, wpE, wpEs, wpAnd, wpOr, wpI, wpF, wpT, wpH, Env.at, Env.put, Env.wipe, Env.nox, Slot.nox, wBin, binI, wCmp, cmpI, wBi, isTy, asL, asLT, bindT, bindTs, intsOf, boolsOf, ixL0, ixL1, ixL2, List.getElem?_cons_zero, List.getElem?_cons_succ, List.nil_append, List.cons_append, List.append_nil, if_true, ite_true, h8]
  have huv : u ≤ v := by
    apply Classical.byContradiction
    intro z
    rw [CN_none (by omega)] at j1
    omega
  refine ⟨fun k σ h' => ∃ lo hi x, σ = [.val (.int lo), .val (.int hi), .val (.int a), .val (.int b), .val (.int m), .val (.int l), .val (.int g), .val (.int j), .val (.tup [.int a, .int (b - l), .int m]), .val (.int ((g - l) % m)), .val (.int u), x] ∧ h' = h ∧ k = (hi - lo).toNat ∧ u ≤ lo ∧ lo ≤ hi ∧ hi ≤ v ∧
    CN u (lo - 1) a (b - l) m ((g - l) % m) ≤ j ∧ j < CN u hi a (b - l) m ((g - l) % m), ⟨_, u, v, .un, rfl, rfl, rfl, Int.le_refl _, huv, Int.le_refl _, by rw [CN_none (by omega)]; exact j0, j1⟩, ?_⟩
  rintro k σ h' ⟨lo, hi, x, rfl, rfl, rfl, g1, g2, g3, c1, c2⟩
  simp only [wpSs, wpS, wpE, wpEs, wpAnd, wpOr, wpI, wpF, wpT, wpH, Env.at, Env.put, Env.wipe, Env.nox, Slot.nox, wBin, binI, wCmp, cmpI, wBi, isTy, asL, asLT, bindT, bindTs, intsOf, boolsOf, ixL0, ixL1, ixL2, List.getElem?_cons_zero, List.getElem?_cons_succ, List.nil_append, List.cons_append, List.append_nil, if_true, ite_true]
  by_cases c : lo < hi
  · rw [if_pos (decide_eq_true c)]
    rw [fdiv_pos (show (0 : Int) < 2 by decide)]
    have w1 : lo ≤ (lo + hi) / 2 := by omega
    have w2 : (lo + hi) / 2 < hi := by omega
    have BB : Band u ((lo + hi) / 2) a b m l g := ⟨B.m0, B.su, by have := B.su; have := B.sv; unfold Sz at *; omega, B.sa, B.sb, B.sm, B.sl, B.sg⟩
    refine ⟨⟨by decide, bits2⟩, BB.go (Γ := Γ) ?_⟩
    simp only [wpSs, wpS, wpE, wpEs, wpAnd, wpOr, wpI, wpF, wpT, wpH, Env.at, Env.put, Env.wipe, Env.nox, Slot.nox, wBin, binI, wCmp, cmpI, wBi, isTy, asL, asLT, bindT, bindTs, intsOf, boolsOf, ixL0, ixL1, ixL2, List.getElem?_cons_zero, List.getElem?_cons_succ, List.nil_append, List.cons_append, List.append_nil, if_true, ite_true]
    by_cases c3 : j < CN u ((lo + hi) / 2) a (b - l) m ((g - l) % m)
    · rw [if_pos (decide_eq_true c3)]
      exact ⟨_, by omega, lo, _, _, rfl, trivial, rfl, g1, w1, by omega, c1, c3⟩
    · rw [if_neg (by simpa using c3)]
      exact ⟨_, by omega, _, hi, _, rfl, trivial, rfl, by omega, by omega, g3, by rw [show (lo + hi) / 2 + 1 - 1 = (lo + hi) / 2 by omega]; omega, c2⟩
  · rw [if_neg (by simpa using c)]
    have e : lo = hi := by omega
    subst e
    have s := CN_last (a := a) (b := b - l) (m := m) (k := (g - l) % m) g1
    refine q lo ⟨g1, g3, ?_, ?_⟩
    · apply Classical.byContradiction
      intro z
      unfold ind at s
      rw [if_neg z] at s
      omega
    · have := ind01 ((a * lo + (b - l)) % m ≤ (g - l) % m)
      omega
def sp_first_of : Spec := fun ds h Q _ => ∃ u v a b m l g, ds = [.int u, .int v, .int a, .int b, .int m, .int l, .int g] ∧ Band u v a b m l g ∧ (CN u v a (b - l) m ((g - l) % m) = 0 → Q .non h) ∧ (0 < CN u v a (b - l) m ((g - l) % m) → ∀ n, Nth u v a (b - l) m ((g - l) % m) 0 n → Q (.int n) h)
theorem eqb_ints {i j : Int} : D.eqb (.int i) (.int j) = decide (i = j) := by
  show (i == j) = _
  by_cases c : i = j
  · subst c; simp
  · simp [c]
theorem b_first_of {Γ : Gam} (h9 : Γ.fn 9 = sp_hits_of) (h10 : Γ.fn 10 = sp_nth_of) : BodyOk Γ ir_first_of sp_first_of := by
  rintro ds h Q R ⟨u, v, a, b, m, l, g, rfl, B, q1, q2⟩
  refine ⟨rfl, ?_⟩
  show wpSs Γ ir_first_of.body [.val (.int u), .val (.int v), .val (.int a), .val (.int b), .val (.int m), .val (.int l), .val (.int g)] h _
  simp only [ir_first_of, wpSs, wpS, wpE, wpEs, wpAnd, wpOr, wpI, wpF, wpT, wpH, Env.at, Env.put, Env.wipe, Env.nox, Slot.nox, wBin, binI, wCmp, cmpI, wBi, isTy, asL, asLT, bindT, bindTs, intsOf, boolsOf, ixL0, ixL1, ixL2, List.getElem?_cons_zero, List.getElem?_cons_succ, List.nil_append, List.cons_append, List.append_nil, if_true, ite_true, h9, h10]
  refine ⟨_, _, _, _, _, _, _, rfl, B, ok_int, ?_⟩
  have r := CN_range (u := u) (v := v) (a := a) (b := b - l) (m := m) (k := (g - l) % m)
  rw [eqb_ints]
  by_cases c : CN u v a (b - l) m ((g - l) % m) = 0
  · rw [if_pos (decide_eq_true c)]
    exact q1 c
  · rw [if_neg (by simpa using c)]
    exact ⟨_, _, _, _, _, _, _, _, rfl, B, Int.le_refl _, by omega, q2 (by omega)⟩
def sp_check_residues : Spec := fun ds h Q _ => ∃ a b m u v l g, ds = [.tup [.int a, .int b, .int m], .int u, .int v, .int l, .int g] ∧ 0 < m ∧ 0 ≤ l ∧ l < m ∧ 0 ≤ g ∧ g < m ∧ Q .non h
theorem b_check_residues {Γ : Gam} (h2 : Γ.fn 2 = sp_check_range) (h11 : Γ.fn 11 = sp_check_between) : BodyOk Γ ir_check_residues sp_check_residues := by
  rintro ds h Q R ⟨a, b, m, u, v, l, g, rfl, hm, l0, l1, g0, g1, q⟩
  refine ⟨rfl, ?_⟩
  show wpSs Γ ir_check_residues.body [.val (.tup [.int a, .int b, .int m]), .val (.int u), .val (.int v), .val (.int l), .val (.int g)] h _
  simp only [ir_check_residues, wpSs, wpS, wpE, wpEs, wpAnd, wpOr, wpI, wpF, wpT, wpH, Env.at, Env.put, Env.wipe, Env.nox, Slot.nox, wBin, binI, wCmp, cmpI, wBi, isTy, asL, asLT, bindT, bindTs, intsOf, boolsOf, ixL0, ixL1, ixL2, List.getElem?_cons_zero, List.getElem?_cons_succ, List.nil_append, List.cons_append, List.append_nil, if_true, ite_true, h2, h11]
  refine ⟨_, _, _, _, _, rfl, hm, ?_⟩
  refine ⟨_, _, _, _, rfl, l0, by omega, ?_⟩
  exact ⟨_, _, _, _, rfl, g0, by omega, q⟩
/-- a right question -/
def Ask (ds : List D) (u v a b m l g : Int) (r : List D) : Prop := ds = .tup [.int a, .int b, .int m] :: .int u :: .int v :: .int l :: .int g :: r ∧ Band u v a b m l g ∧ 0 ≤ l ∧ l < m ∧ 0 ≤ g ∧ g < m
def sp_hits : Spec := fun ds h Q _ => ∃ u v a b m l g, Ask ds u v a b m l g [] ∧ Q (.int (CN u v a (b - l) m ((g - l) % m))) h
theorem b_hits {Γ : Gam} (h12 : Γ.fn 12 = sp_check_residues) (h9 : Γ.fn 9 = sp_hits_of) : BodyOk Γ ir_hits sp_hits := by
  rintro ds h Q R ⟨u, v, a, b, m, l, g, ⟨rfl, B, l0, l1, g0, g1⟩, q⟩
  refine ⟨rfl, ?_⟩
  show wpSs Γ ir_hits.body [.val (.tup [.int a, .int b, .int m]), .val (.int u), .val (.int v), .val (.int l), .val (.int g)] h _
  simp only [ir_hits, wpSs, wpS, wpE, wpEs, wpAnd, wpOr, wpI, wpF, wpT, wpH, Env.at, Env.put, Env.wipe, Env.nox, Slot.nox, wBin, binI, wCmp, cmpI, wBi, isTy, asL, asLT, bindT, bindTs, intsOf, boolsOf, ixL0, ixL1, ixL2, List.getElem?_cons_zero, List.getElem?_cons_succ, List.nil_append, List.cons_append, List.append_nil, if_true, ite_true, h12, h9]
  exact ⟨_, _, _, _, _, _, _, rfl, B.m0, l0, l1, g0, g1, _, _, _, _, _, _, _, rfl, B, q⟩
def sp_first_hit : Spec := fun ds h Q _ => ∃ u v a b m l g, Ask ds u v a b m l g [] ∧ (CN u v a (b - l) m ((g - l) % m) = 0 → Q .non h) ∧ (0 < CN u v a (b - l) m ((g - l) % m) → ∀ n, Nth u v a (b - l) m ((g - l) % m) 0 n → Q (.int n) h)
theorem b_first_hit {Γ : Gam} (h12 : Γ.fn 12 = sp_check_residues) (h13 : Γ.fn 13 = sp_first_of) : BodyOk Γ ir_first_hit sp_first_hit := by
  rintro ds h Q R ⟨u, v, a, b, m, l, g, ⟨rfl, B, l0, l1, g0, g1⟩, q1, q2⟩
  refine ⟨rfl, ?_⟩
  show wpSs Γ ir_first_hit.body [.val (.tup [.int a, .int b, .int m]), .val (.int u), .val (.int v), .val (.int l), .val (.int g)] h _
  simp only [ir_first_hit, wpSs, wpS, wpE, wpEs, wpAnd, wpOr, wpI, wpF, wpT, wpH, Env.at, Env.put, Env.wipe, Env.nox, Slot.nox, wBin, binI, wCmp, cmpI, wBi, isTy, asL, asLT, bindT, bindTs, intsOf, boolsOf, ixL0, ixL1, ixL2, List.getElem?_cons_zero, List.getElem?_cons_succ, List.nil_append, List.cons_append, List.append_nil, if_true, ite_true, h12, h13]
  exact ⟨_, _, _, _, _, _, _, rfl, B.m0, l0, l1, g0, g1, _, _, _, _, _, _, _, rfl, B, q1, q2⟩
def sp_last_hit : Spec := fun ds h Q _ => ∃ u v a b m l g, Ask ds u v a b m l g [] ∧ (CN u v a (b - l) m ((g - l) % m) = 0 → Q .non h) ∧ (0 < CN u v a (b - l) m ((g - l) % m) → ∀ n, Nth u v a (b - l) m ((g - l) % m) (CN u v a (b - l) m ((g - l) % m) - 1) n → Q (.int n) h)
theorem b_last_hit {Γ : Gam} (h14 : Γ.fn 14 = sp_hits) (h10 : Γ.fn 10 = sp_nth_of) : BodyOk Γ ir_last_hit sp_last_hit := by
  rintro ds h Q R ⟨u, v, a, b, m, l, g, ⟨rfl, B, l0, l1, g0, g1⟩, q1, q2⟩
  refine ⟨rfl, ?_⟩
  show wpSs Γ ir_last_hit.body [.val (.tup [.int a, .int b, .int m]), .val (.int u), .val (.int v), .val (.int l), .val (.int g), .un] h _
  simp only [ir_last_hit, wpSs, wpS, wpE, wpEs, wpAnd, wpOr, wpI, wpF, wpT, wpH, Env.at, Env.put, Env.wipe, Env.nox, Slot.nox, wBin, binI, wCmp, cmpI, wBi, isTy, asL, asLT, bindT, bindTs, intsOf, boolsOf, ixL0, ixL1, ixL2, List.getElem?_cons_zero, List.getElem?_cons_succ, List.nil_append, List.cons_append, List.append_nil, if_true, ite_true, h14, h10]
  refine ⟨_, _, _, _, _, _, _, ⟨rfl, B, l0, l1, g0, g1⟩, ok_int, ?_⟩
  have r := CN_range (u := u) (v := v) (a := a) (b := b - l) (m := m) (k := (g - l) % m)
  rw [eqb_ints]
  by_cases c : CN u v a (b - l) m ((g - l) % m) = 0
  · rw [if_pos (decide_eq_true c)]
    exact q1 c
  · rw [if_neg (by simpa using c)]
    exact ⟨_, _, _, _, _, _, _, _, rfl, B, by omega, by omega, q2 (by omega)⟩
def sp_hit_at : Spec := fun ds h Q _ => ∃ u v a b m l g j, Ask ds u v a b m l g [.int j] ∧ 0 ≤ j ∧ j < CN u v a (b - l) m ((g - l) % m) ∧ ∀ n, Nth u v a (b - l) m ((g - l) % m) j n → Q (.int n) h
theorem b_hit_at {Γ : Gam} (h14 : Γ.fn 14 = sp_hits) (h11 : Γ.fn 11 = sp_check_between) (h10 : Γ.fn 10 = sp_nth_of) : BodyOk Γ ir_hit_at sp_hit_at := by
  rintro ds h Q R ⟨u, v, a, b, m, l, g, j, ⟨rfl, B, l0, l1, g0, g1⟩, j0, j1, q⟩
  refine ⟨rfl, ?_⟩
  show wpSs Γ ir_hit_at.body [.val (.tup [.int a, .int b, .int m]), .val (.int u), .val (.int v), .val (.int l), .val (.int g), .val (.int j)] h _
  simp only [ir_hit_at, wpSs, wpS, wpE, wpEs, wpAnd, wpOr, wpI, wpF, wpT, wpH, Env.at, Env.put, Env.wipe, Env.nox, Slot.nox, wBin, binI, wCmp, cmpI, wBi, isTy, asL, asLT, bindT, bindTs, intsOf, boolsOf, ixL0, ixL1, ixL2, List.getElem?_cons_zero, List.getElem?_cons_succ, List.nil_append, List.cons_append, List.append_nil, if_true, ite_true, h14, h11, h10]
  refine ⟨_, _, _, _, _, _, _, ⟨rfl, B, l0, l1, g0, g1⟩, ?_⟩
  refine ⟨_, _, _, _, rfl, j0, by omega, ?_⟩
  exact ⟨_, _, _, _, _, _, _, _, rfl, B, j0, j1, q⟩
theorem m_is_between : ∀ ds h Q Q' R R', (∀ d h, Q d h → Q' d h) → (∀ x h, R x h → R' x h) → sp_is_between ds h Q R → sp_is_between ds h Q' R' := by
  rintro ds h Q Q' R R' k _ ⟨a1, a2, a3, a4, q⟩
  exact ⟨a1, a2, a3, a4, k _ _ q⟩
theorem m_check_between : ∀ ds h Q Q' R R', (∀ d h, Q d h → Q' d h) → (∀ x h, R x h → R' x h) → sp_check_between ds h Q R → sp_check_between ds h Q' R' := by
  rintro ds h Q Q' R R' k _ ⟨a1, a2, a3, a4, a5, a6, a7, q⟩
  exact ⟨a1, a2, a3, a4, a5, a6, a7, k _ _ q⟩
theorem m_count_of : ∀ ds h Q Q' R R', (∀ d h, Q d h → Q' d h) → (∀ x h, R x h → R' x h) → sp_count_of ds h Q R → sp_count_of ds h Q' R' := by
  rintro ds h Q Q' R R' k _ ⟨a1, a2, a3, a4, a5, a6, a7, a8, a9, a10, a11, a12, a13, a14, a15, a16, a17, a18, q⟩
  exact ⟨a1, a2, a3, a4, a5, a6, a7, a8, a9, a10, a11, a12, a13, a14, a15, a16, a17, a18, k _ _ q⟩
theorem m_around : ∀ ds h Q Q' R R', (∀ d h, Q d h → Q' d h) → (∀ x h, R x h → R' x h) → sp_around ds h Q R → sp_around ds h Q' R' := by
  rintro ds h Q Q' R R' k _ ⟨a1, a2, a3, a4, a5, a6, a7, q⟩
  exact ⟨a1, a2, a3, a4, a5, a6, a7, k _ _ q⟩
theorem m_hits_of : ∀ ds h Q Q' R R', (∀ d h, Q d h → Q' d h) → (∀ x h, R x h → R' x h) → sp_hits_of ds h Q R → sp_hits_of ds h Q' R' := by
  rintro ds h Q Q' R R' k _ ⟨a1, a2, a3, a4, a5, a6, a7, a8, a9, q⟩
  exact ⟨a1, a2, a3, a4, a5, a6, a7, a8, a9, k _ _ q⟩
theorem m_nth_of : ∀ ds h Q Q' R R', (∀ d h, Q d h → Q' d h) → (∀ x h, R x h → R' x h) → sp_nth_of ds h Q R → sp_nth_of ds h Q' R' := by
  rintro ds h Q Q' R R' k _ ⟨a1, a2, a3, a4, a5, a6, a7, a8, a9, a10, a11, a12, q⟩
  exact ⟨a1, a2, a3, a4, a5, a6, a7, a8, a9, a10, a11, a12, fun n z => k _ _ (q n z)⟩
theorem m_first_of : ∀ ds h Q Q' R R', (∀ d h, Q d h → Q' d h) → (∀ x h, R x h → R' x h) → sp_first_of ds h Q R → sp_first_of ds h Q' R' := by
  rintro ds h Q Q' R R' k _ ⟨a1, a2, a3, a4, a5, a6, a7, a8, a9, q1, q2⟩
  exact ⟨a1, a2, a3, a4, a5, a6, a7, a8, a9, fun z => k _ _ (q1 z), fun z n y => k _ _ (q2 z n y)⟩
theorem m_check_residues : ∀ ds h Q Q' R R', (∀ d h, Q d h → Q' d h) → (∀ x h, R x h → R' x h) → sp_check_residues ds h Q R → sp_check_residues ds h Q' R' := by
  rintro ds h Q Q' R R' k _ ⟨a1, a2, a3, a4, a5, a6, a7, a8, a9, a10, a11, a12, a13, q⟩
  exact ⟨a1, a2, a3, a4, a5, a6, a7, a8, a9, a10, a11, a12, a13, k _ _ q⟩
theorem m_hits : ∀ ds h Q Q' R R', (∀ d h, Q d h → Q' d h) → (∀ x h, R x h → R' x h) → sp_hits ds h Q R → sp_hits ds h Q' R' := by
  rintro ds h Q Q' R R' k _ ⟨a1, a2, a3, a4, a5, a6, a7, a8, q⟩
  exact ⟨a1, a2, a3, a4, a5, a6, a7, a8, k _ _ q⟩
theorem m_first_hit : ∀ ds h Q Q' R R', (∀ d h, Q d h → Q' d h) → (∀ x h, R x h → R' x h) → sp_first_hit ds h Q R → sp_first_hit ds h Q' R' := by
  rintro ds h Q Q' R R' k _ ⟨a1, a2, a3, a4, a5, a6, a7, a8, q1, q2⟩
  exact ⟨a1, a2, a3, a4, a5, a6, a7, a8, fun z => k _ _ (q1 z), fun z n y => k _ _ (q2 z n y)⟩
theorem m_last_hit : ∀ ds h Q Q' R R', (∀ d h, Q d h → Q' d h) → (∀ x h, R x h → R' x h) → sp_last_hit ds h Q R → sp_last_hit ds h Q' R' := by
  rintro ds h Q Q' R R' k _ ⟨a1, a2, a3, a4, a5, a6, a7, a8, q1, q2⟩
  exact ⟨a1, a2, a3, a4, a5, a6, a7, a8, fun z => k _ _ (q1 z), fun z n y => k _ _ (q2 z n y)⟩
theorem m_hit_at : ∀ ds h Q Q' R R', (∀ d h, Q d h → Q' d h) → (∀ x h, R x h → R' x h) → sp_hit_at ds h Q R → sp_hit_at ds h Q' R' := by
  rintro ds h Q Q' R R' k _ ⟨a1, a2, a3, a4, a5, a6, a7, a8, a9, a10, a11, q⟩
  exact ⟨a1, a2, a3, a4, a5, a6, a7, a8, a9, a10, a11, fun n z => k _ _ (q n z)⟩
end FF

namespace FF
/-! ### those of a range, as a list -/
def rngI (u : Int) (n : Nat) : List Int := (List.range n).map fun i : Nat => u + (i : Int)
def hitL (u v a b m k : Int) : List Int := (rngI u (v - u + 1).toNat).filter fun n => decide ((a * n + b) % m ≤ k)
theorem rngI_app {u : Int} {p q : Nat} : rngI u (p + q) = rngI u p ++ rngI (u + p) q := by
  unfold rngI
  rw [List.range_add, List.map_append, List.map_map]
  congr 1
  apply List.map_congr_left
  intro i _
  show u + ((p + i : Nat) : Int) = u + p + i
  omega
theorem hit_len {u a b m k : Int} : ∀ {n : Nat}, (((rngI u n).filter fun x => decide ((a * x + b) % m ≤ k)).length : Int) = sumI n fun i => ind ((a * (u + i) + b) % m ≤ k)
  | 0 => rfl
  | n + 1 => by
    rw [rngI_app (p := n) (q := 1), List.filter_append, List.length_append]
    show _ = sumI n _ + ind ((a * (u + (n : Int)) + b) % m ≤ k)
    rw [← hit_len (n := n)]
    have : rngI (u + n) 1 = [u + n] := by simp [rngI]
    rw [this]
    unfold ind
    by_cases c : (a * (u + (n : Int)) + b) % m ≤ k
    · simp [c]
    · simp [c]
theorem hitL_len {u v a b m k : Int} : ((hitL u v a b m k).length : Int) = CN u v a b m k := hit_len
theorem Nth.get {u v a b m k j n : Int} (h : Nth u v a b m k j n) : (hitL u v a b m k)[j.toNat]? = some n := by
  obtain ⟨h1, h2, h3, h4⟩ := h
  unfold hitL
  have e : (v - u + 1).toNat = (n - 1 - u + 1).toNat + (1 + (v - n).toNat) := by omega
  have e2 : u + ((n - 1 - u + 1).toNat : Int) = n := by omega
  rw [e, rngI_app, e2, rngI_app, List.filter_append, List.filter_append]
  have one : rngI n 1 = [n] := by simp [rngI]
  have l := hitL_len (u := u) (v := n - 1) (a := a) (b := b) (m := m) (k := k)
  have l2 : (List.filter (fun n => decide ((a * n + b) % m ≤ k)) (rngI u (n - 1 - u + 1).toNat)).length = j.toNat := by
    unfold hitL at l
    omega
  rw [List.getElem?_append_right (by omega), l2, Nat.sub_self, one]
  simp [h3]
theorem get_range {l : List Int} : (List.range l.length).map (fun i => (l[i]?).getD 0) = l := by
  apply List.ext_getElem?
  intro i
  rw [List.getElem?_map]
  by_cases h : i < l.length
  · rw [List.getElem?_range h]
    simp [h]
  · rw [List.getElem?_eq_none (by simpa using h), List.getElem?_eq_none (by omega)]; rfl
theorem loopC_filter {step : D → AH → (Option D → AH → Prop) → Prop} {p : Int → Bool} {h : AH} : ∀ {l : List Int} {acc : List Int} {K : List D → AH → Prop}, (∀ i ∈ l, ∀ K : Option D → AH → Prop, (if p i = true then K (some (.int i)) h else K none h) → step (.int i) h K) → acc.length + l.length ≤ SL → K ((acc ++ l.filter p).map .int) h → loopC step (l.map .int) (acc.map .int) h K
  | [], acc, K, _, _, q => by
    show K (acc.map .int) h
    simpa using q
  | i :: r, acc, K, hs, hl, q => by
    rw [List.length_cons] at hl
    refine hs i List.mem_cons_self _ ?_
    by_cases c : p i = true
    · rw [if_pos c]
      refine ⟨by rw [List.length_map]; omega, ?_⟩
      have e : acc.map D.int ++ [.int i] = (acc ++ [i]).map D.int := by rw [List.map_append]; rfl
      rw [e]
      refine loopC_filter (fun i hi => hs i (List.mem_cons_of_mem _ hi)) (by rw [List.length_append, List.length_singleton]; omega) ?_
      rw [List.filter_cons, if_pos c] at q
      rw [List.append_assoc]
      exact q
    · rw [if_neg c]
      refine loopC_filter (fun i hi => hs i (List.mem_cons_of_mem _ hi)) (by omega) ?_
      rw [List.filter_cons, if_neg c] at q
      exact q
/-! ### lists of integers, compared -/
theorem pln_ints {l : List Int} : D.pln 60 (.lst (l.map .int)) = true := by
  show (l.map D.int).all (D.pln 59) = true
  rw [List.all_eq_true]
  intro d hd
  obtain ⟨i, _, rfl⟩ := List.mem_map.mp hd
  rfl
theorem eqbs_self {l : List Int} : D.eqbs (l.map .int) (l.map .int) = true := by
  induction l with
  | nil => rfl
  | cons i r ih =>
    show (D.eqb (.int i) (.int i) && D.eqbs (r.map .int) (r.map .int)) = true
    rw [ih, eq_int rfl]; rfl
theorem eqb_nil {l : List Int} : D.eqb (.lst (l.map .int)) (.lst []) = decide (l = []) := by
  cases l with
  | nil => rfl
  | cons i r => rfl
/-! ### a residue in a band -/
def isIn (r l g : Int) : Bool := if l ≤ g then decide (l ≤ r ∧ r ≤ g) else decide (l ≤ r ∨ r ≤ g)
theorem isIn_eq {x m l g : Int} (hm : 0 < m) (l0 : 0 ≤ l) (l1 : l < m) (g0 : 0 ≤ g) (g1 : g < m) : isIn (x % m) l g = decide ((x - l) % m ≤ (g - l) % m) := by
  have r0 := Int.emod_nonneg x (show m ≠ 0 by omega)
  have r1 := Int.emod_lt_of_pos x hm
  have key : ∀ y : Int, -m < y → y < m → y % m = if 0 ≤ y then y else y + m := fun y h1 h2 => by
    by_cases c : 0 ≤ y
    · rw [if_pos c]; exact Int.emod_eq_of_lt c h2
    · rw [if_neg c]
      have : y = (y + m) + m * (-1) := by omega
      conv => lhs; rw [this]
      rw [Int.add_mul_emod_self_left]; exact Int.emod_eq_of_lt (by omega) (by omega)
  have e : (x - l) % m = (x % m - l) % m := by rw [Int.emod_sub_emod]
  rw [e, key (x % m - l) (by omega) (by omega), key (g - l) (by omega) (by omega)]
  unfold isIn
  generalize x % m = r at *
  by_cases c1 : l ≤ g
  · rw [if_pos c1, if_pos (show 0 ≤ g - l by omega)]
    congr 1
    apply propext
    by_cases c2 : 0 ≤ r - l
    · rw [if_pos c2]; omega
    · rw [if_neg c2]; omega
  · rw [if_neg c1, if_neg (show ¬ 0 ≤ g - l by omega)]
    congr 1
    apply propext
    by_cases c2 : 0 ≤ r - l
    · rw [if_pos c2]; omega
    · rw [if_neg c2]; omega
end FF

namespace FF
/-! ### counting, and what is first among the least -/
def CF (F : Int → Int) (u v k : Int) : Int := sumI (v - u + 1).toNat fun i => ind (F (u + i) ≤ k)
theorem CF_CN {u v a b m k : Int} : CF (fun x => (a * x + b) % m) u v k = CN u v a b m k := rfl
theorem sumI_nonneg {f : Nat → Int} : ∀ {n : Nat}, (∀ i, i < n → 0 ≤ f i) → 0 ≤ sumI n f
  | 0, _ => Int.le_refl _
  | n + 1, h => Int.add_nonneg (sumI_nonneg fun i hi => h i (by omega)) (h n (by omega))
theorem sumI_pos {f : Nat → Int} : ∀ {n : Nat}, (∀ i, i < n → 0 ≤ f i) → (0 < sumI n f ↔ ∃ i, i < n ∧ 0 < f i)
  | 0, _ => ⟨fun h => absurd h (Int.lt_irrefl _), fun ⟨_, h, _⟩ => absurd h (by omega)⟩
  | n + 1, h => by
    have ih := sumI_pos (f := f) (n := n) fun i hi => h i (by omega)
    have nn := sumI_nonneg (f := f) (n := n) fun i hi => h i (by omega)
    have hn := h n (by omega)
    show 0 < sumI n f + f n ↔ _
    constructor
    · intro z
      by_cases c : 0 < f n
      · exact ⟨n, by omega, c⟩
      · obtain ⟨i, hi, q⟩ := ih.mp (by omega)
        exact ⟨i, by omega, q⟩
    · rintro ⟨i, hi, q⟩
      by_cases c : i = n
      · subst c; omega
      · have := ih.mpr ⟨i, by omega, q⟩
        omega
theorem CF_pos {F : Int → Int} {u v k : Int} : 0 < CF F u v k ↔ ∃ x, u ≤ x ∧ x ≤ v ∧ F x ≤ k := by
  unfold CF
  rw [sumI_pos fun i _ => (ind01 _).1]
  constructor
  · rintro ⟨i, hi, q⟩
    refine ⟨u + i, by omega, by omega, ?_⟩
    apply Classical.byContradiction
    intro z
    unfold ind at q
    rw [if_neg z] at q
    omega
  · rintro ⟨x, h1, h2, q⟩
    refine ⟨(x - u).toNat, by omega, ?_⟩
    have : u + ((x - u).toNat : Int) = x := by omega
    rw [this]
    unfold ind
    rw [if_pos q]; decide
/-- more than those that are 0 -/
theorem CF_more {F : Int → Int} {u v k : Int} (hF : ∀ x, 0 ≤ F x) (hk : 0 ≤ k) : CF F u v 0 < CF F u v k ↔ ∃ x, u ≤ x ∧ x ≤ v ∧ 0 < F x ∧ F x ≤ k := by
  have e : CF F u v k = CF F u v 0 + sumI (v - u + 1).toNat fun i => ind (0 < F (u + i) ∧ F (u + i) ≤ k) := by
    unfold CF
    rw [← sumI_add]
    refine sumI_congr fun i _ => ?_
    have h0 := hF (u + i)
    unfold ind
    by_cases c1 : F (u + i) ≤ 0
    · rw [if_pos c1, if_pos (show F (u + (i : Int)) ≤ k by omega), if_neg (by omega)]; rfl
    · rw [if_neg c1]
      by_cases c2 : F (u + i) ≤ k
      · rw [if_pos c2, if_pos ⟨by omega, c2⟩]; rfl
      · rw [if_neg c2, if_neg (by omega)]; rfl
  have p := sumI_pos (f := fun i => ind (0 < F (u + i) ∧ F (u + i) ≤ k)) (n := (v - u + 1).toNat) fun i _ => (ind01 _).1
  constructor
  · intro z
    obtain ⟨i, hi, q⟩ := p.mp (by omega)
    refine ⟨u + i, by omega, by omega, ?_⟩
    apply Classical.byContradiction
    intro z
    simp only [ind] at q
    rw [if_neg z] at q
    omega
  · rintro ⟨x, h1, h2, q⟩
    have := p.mpr ⟨(x - u).toNat, by omega, by
      have e : u + ((x - u).toNat : Int) = x := by omega
      simp only [ind, e]
      rw [if_pos q]; decide⟩
    omega
/-- n is the first of the least, r its value -/
def Arg (F : Int → Int) (P : Int → Prop) (u v r n : Int) : Prop := u ≤ n ∧ n ≤ v ∧ P n ∧ F n = r ∧ (∀ x, u ≤ x → x ≤ v → P x → r ≤ F x) ∧ ∀ x, u ≤ x → x < n → P x → r < F x
theorem Arg.uniq {F : Int → Int} {P : Int → Prop} {u v r n r' n' : Int} (h : Arg F P u v r n) (h' : Arg F P u v r' n') : r = r' ∧ n = n' := by
  obtain ⟨a1, a2, a3, a4, a5, a6⟩ := h
  obtain ⟨b1, b2, b3, b4, b5, b6⟩ := h'
  have h1 := a5 n' b1 b2 b3
  have h2 := b5 n a1 a2 a3
  have e : r = r' := by omega
  refine ⟨e, ?_⟩
  rcases Int.lt_trichotomy n n' with z | z | z
  · have := b6 n a1 z a3; omega
  · exact z
  · have := a6 n' b1 z b3; omega
theorem res0 {a b m r x : Int} (hm : 0 < m) (h0 : 0 ≤ r) (h1 : r < m) : (a * x + (b - r)) % m ≤ (r - r) % m ↔ (a * x + b) % m = r := by
  have e : (a * x + (b - r)) = (a * x + b) - r := by omega
  have z0 : (r - r) % m = 0 := by rw [Int.sub_self]; exact Int.zero_emod m
  rw [z0, e, ← Int.emod_sub_emod]
  have r0 := Int.emod_nonneg (a * x + b) (show m ≠ 0 by omega)
  have r1 := Int.emod_lt_of_pos (a * x + b) hm
  generalize (a * x + b) % m = y at *
  constructor
  · intro z
    have n0 := Int.emod_nonneg (y - r) (show m ≠ 0 by omega)
    have d := Int.dvd_of_emod_eq_zero (show (y - r) % m = 0 by omega)
    obtain ⟨c, hc⟩ := d
    have : c = 0 := by
      rcases Int.lt_trichotomy c 0 with z | z | z
      · have := Int.mul_le_mul_of_nonneg_left (show c ≤ -1 by omega) (Int.le_of_lt hm)
        omega
      · exact z
      · have := Int.mul_le_mul_of_nonneg_left (show 1 ≤ c by omega) (Int.le_of_lt hm)
        omega
    subst this
    omega
  · intro z
    subst z
    rw [Int.sub_self, Int.zero_emod]; exact Int.le_refl _
/-- the first n whose residue is r -/
theorem first_res {u v a b m r n : Int} (hm : 0 < m) (h0 : 0 ≤ r) (h1 : r < m) (h : Nth u v a (b - r) m ((r - r) % m) 0 n) : u ≤ n ∧ n ≤ v ∧ (a * n + b) % m = r ∧ ∀ x, u ≤ x → x < n → (a * x + b) % m ≠ r := by
  obtain ⟨a1, a2, a3, a4⟩ := h
  refine ⟨a1, a2, (res0 hm h0 h1).mp a3, fun x h2 h3 e => ?_⟩
  have := CF_pos (F := fun x => (a * x + (b - r)) % m) (u := u) (v := n - 1) (k := (r - r) % m)
  rw [CF_CN, a4] at this
  exact absurd (this.mpr ⟨x, h2, by omega, (res0 hm h0 h1).mpr e⟩) (Int.lt_irrefl _)
end FF

namespace FF
def ir_near_of : Fd := ⟨7, 7, (.cons (.ite (.cmp .ge (.bin .add (.bin .mul (.int 2) (.var 6)) (.int 1)) (.var 4)) (.cons (.ret (.bi .max (.cons (.int 0) (.cons (.bin .add (.bin .sub (.var 1) (.var 0)) (.int 1)) .nil)))) .nil) .nil) (.cons (.ret (.call 8 (.cons (.var 0) (.cons (.var 1) (.cons (.var 2) (.cons (.bin .add (.bin .sub (.var 3) (.var 5)) (.var 6)) (.cons (.var 4) (.cons (.int 0) (.cons (.bin .mul (.int 2) (.var 6)) .nil))))))) [])) .nil))⟩
def k_nearest_of_1 : Ss := .cons (.ite (.cmp .gt (.call 18 (.cons (.var 0) (.cons (.var 1) (.cons (.var 2) (.cons (.var 3) (.cons (.var 4) (.cons (.var 5) (.cons (.var 11) .nil))))))) []) (.var 8)) (.cons (.set 10 (.var 11)) .nil) (.cons (.set 9 (.bin .add (.var 11) (.int 1))) .nil)) .nil
def k_nearest_of_2 : Ss := .cons (.set 11 (.bin .fdiv (.bin .add (.var 9) (.var 10)) (.int 2))) k_nearest_of_1
def k_nearest_of_3 : Ss := .cons (.ret (.tup (.cons (.var 9) (.cons (.bi .min (.cons (.comp (.name 15) (.seq (.var 13)) (.cons (.cmp .isn (.var 15) .non) .nil) (.var 15) [15]) .nil)) .nil)))) .nil
def k_nearest_of_4 : Ss := .cons (.setC 13 (.comp (.name 14) (.seq (.var 12)) .nil (.call 13 (.cons (.var 0) (.cons (.var 1) (.cons (.var 2) (.cons (.var 3) (.cons (.var 4) (.cons (.var 14) (.cons (.var 14) .nil))))))) []) [14])) k_nearest_of_3
def k_nearest_of_5 : Ss := .cons (.set 12 (.lst (.cons (.bin .mod (.bin .sub (.var 5) (.var 9)) (.var 4)) (.cons (.bin .mod (.bin .add (.var 5) (.var 9)) (.var 4)) .nil)))) k_nearest_of_4
def k_nearest_of_6 : Ss := .cons (.whl (.cmp .lt (.var 9) (.var 10)) k_nearest_of_2) k_nearest_of_5
def k_nearest_of_7 : Ss := .cons (.ite (.ors (.cons (.cmp .lt (.var 10) (.var 9)) (.cons (.cmp .le (.call 18 (.cons (.var 0) (.cons (.var 1) (.cons (.var 2) (.cons (.var 3) (.cons (.var 4) (.cons (.var 5) (.cons (.var 10) .nil))))))) []) (.var 8)) .nil))) (.cons (.ret .non) .nil) .nil) k_nearest_of_6
def k_nearest_of_8 : Ss := .cons (.setP 9 10 (.bi .int (.cons (.var 6) .nil)) (.bi .min (.cons (.var 7) (.cons (.bin .fdiv (.var 4) (.int 2)) .nil)))) k_nearest_of_7
def k_nearest_of_9 : Ss := .cons (.set 8 (.ite (.var 6) (.call 18 (.cons (.var 0) (.cons (.var 1) (.cons (.var 2) (.cons (.var 3) (.cons (.var 4) (.cons (.var 5) (.cons (.int 0) .nil))))))) []) (.int 0))) k_nearest_of_8
def ir_nearest_of : Fd := ⟨8, 16, k_nearest_of_9⟩
def k_least_residue_1 : Ss := .cons (.ite (.cmp .gt (.call 8 (.cons (.var 1) (.cons (.var 2) (.cons (.var 3) (.cons (.var 4) (.cons (.var 5) (.cons (.int 0) (.cons (.var 8) .nil))))))) []) (.int 0)) (.cons (.set 7 (.var 8)) .nil) (.cons (.set 6 (.bin .add (.var 8) (.int 1))) .nil)) .nil
def k_least_residue_2 : Ss := .cons (.set 8 (.bin .fdiv (.bin .add (.var 6) (.var 7)) (.int 2))) k_least_residue_1
def k_least_residue_3 : Ss := .cons (.ret (.tup (.cons (.var 6) (.cons (.call 13 (.cons (.var 1) (.cons (.var 2) (.cons (.var 3) (.cons (.var 4) (.cons (.var 5) (.cons (.var 6) (.cons (.var 6) .nil))))))) []) .nil)))) .nil
def k_least_residue_4 : Ss := .cons (.whl (.cmp .lt (.var 6) (.var 7)) k_least_residue_2) k_least_residue_3
def k_least_residue_5 : Ss := .cons (.setP 6 7 (.int 0) (.bin .sub (.var 5) (.int 1))) k_least_residue_4
def k_least_residue_6 : Ss := .cons (.ite (.cmp .lt (.var 2) (.var 1)) (.cons (.ret .non) .nil) .nil) k_least_residue_5
def k_least_residue_7 : Ss := .cons (.setT (.cons (.name 3) (.cons (.name 4) (.cons (.name 5) .nil))) (.var 0)) k_least_residue_6
def k_least_residue_8 : Ss := .cons (.expr (.call 2 (.cons (.var 0) (.cons (.var 1) (.cons (.var 2) .nil))) [])) k_least_residue_7
def ir_least_residue : Fd := ⟨3, 9, k_least_residue_8⟩
def ir_greatest_residue : Fd := ⟨3, 4, (.cons (.expr (.call 2 (.cons (.var 0) (.cons (.var 1) (.cons (.var 2) .nil))) [])) (.cons (.set 3 (.call 19 (.cons (.tup (.cons (.bin .sub (.int 0) (.idx (.var 0) (.int 0))) (.cons (.bin .sub (.bin .sub (.int 0) (.idx (.var 0) (.int 1))) (.int 1)) (.cons (.idx (.var 0) (.int 2)) .nil)))) (.cons (.var 1) (.cons (.var 2) .nil))) [])) (.cons (.ret (.ite (.cmp .is_ (.var 3) .non) .non (.tup (.cons (.bin .sub (.bin .sub (.idx (.var 0) (.int 2)) (.int 1)) (.idx (.var 3) (.int 0))) (.cons (.idx (.var 3) (.int 1)) .nil))))) .nil)))⟩
def ir_nearest : Fd := ⟨5, 5, (.cons (.expr (.call 2 (.cons (.var 0) (.cons (.var 1) (.cons (.var 2) .nil))) [])) (.cons (.expr (.call 11 (.cons (.str [103, 111, 97, 108]) (.cons (.var 3) (.cons (.int 0) (.cons (.bin .sub (.idx (.var 0) (.int 2)) (.int 1)) .nil)))) [])) (.cons (.ite (.not (.isin (.var 4) .bool)) (.cons .never .nil) .nil) (.cons (.ret (.call 20 (.cons (.var 1) (.cons (.var 2) (.cons (.idx (.var 0) (.int 0)) (.cons (.idx (.var 0) (.int 1)) (.cons (.idx (.var 0) (.int 2)) (.cons (.var 3) (.cons (.var 4) (.cons (.idx (.var 0) (.int 2)) .nil)))))))) [])) .nil))))⟩
end FF

namespace FF
def res (a b m : Int) (x : Int) : Int := (a * x + b) % m
abbrev TT1 : Int → Prop := fun _ => True
/-- sizes of a line and a range -/
structure Lin (u v a b m : Int) : Prop where
  m0 : 0 < m
  su : Sz 1600 u
  sv : Sz 1600 v
  sa : Sz 1600 a
  sb : Sz 1600 b
  sm : Sz 1600 m
theorem Lin.band {u v a b m l g : Int} (L : Lin u v a b m) (l0 : 0 ≤ l) (l1 : l < m) (g0 : 0 ≤ g) (g1 : g < m) : Band u v a b m l g :=
  ⟨L.m0, L.su.mono (by decide), L.sv.mono (by decide), L.sa.mono (by decide), L.sb.mono (by decide), L.sm.mono (by decide), by have := L.sm; exact Sz.mono (show Sz 1600 l by unfold Sz at *; omega) (by decide), by have := L.sm; exact Sz.mono (show Sz 1600 g by unfold Sz at *; omega) (by decide)⟩
theorem Lin.ran {u v a b m : Int} (L : Lin u v a b m) : (Sz 1900 u ∧ Sz 1900 v) ∧ Sz 1900 a ∧ Sz 1900 b ∧ Sz 1900 m :=
  ⟨⟨L.su.mono (by decide), L.sv.mono (by decide)⟩, L.sa.mono (by decide), L.sb.mono (by decide), L.sm.mono (by decide)⟩
def sp_least_residue : Spec := fun ds h Q _ => ∃ u v a b m, ds = [.tup [.int a, .int b, .int m], .int u, .int v] ∧ Lin u v a b m ∧ (v < u → Q .non h) ∧ (∀ r n, Arg (res a b m) TT1 u v r n → Q (.tup [.int r, .int n]) h)
theorem b_least_residue {Γ : Gam} (h2 : Γ.fn 2 = sp_check_range) (h8 : Γ.fn 8 = sp_count_of) (h13 : Γ.fn 13 = sp_first_of) : BodyOk Γ ir_least_residue sp_least_residue := by
  rintro ds h Q R ⟨u, v, a, b, m, rfl, L, q1, q2⟩
  refine ⟨rfl, ?_⟩
  show wpSs Γ ir_least_residue.body [.val (.tup [.int a, .int b, .int m]), .val (.int u), .val (.int v), .un, .un, .un, .un, .un, .un] h _
  simp only [ir_least_residue, k_least_residue_8, wpSs, wpS, wpE, wpEs, wpAnd, wpOr, wpI, wpF, wpT, wpH, Env.at, Env.put, Env.wipe, Env.nox, Slot.nox, wBin, binI, wCmp, cmpI, wBi, isTy, asL, asLT, bindT, bindTs, intsOf, boolsOf, ixL0, ixL1, ixL2, List.getElem?_cons_zero, List.getElem?_cons_succ, List.nil_append, List.cons_append, List.append_nil, if_true, ite_true, h2]
  refine ⟨_, _, _, _, _, rfl, L.m0, ?_⟩
  simp only [k_least_residue_7, k_least_residue_6, wpSs, wpS, wpE, wpEs, wpAnd, wpOr, wpI, wpF, wpT, wpH, Env.at, Env.put, Env.wipe, Env.nox, Slot.nox, wBin, binI, wCmp, cmpI, wBi, isTy, asL, asLT, bindT, bindTs, intsOf, boolsOf, ixL0, ixL1, ixL2, List.getElem?_cons_zero, List.getElem?_cons_succ, List.nil_append, List.cons_append, List.append_nil, if_true, ite_true]
  by_cases c : v < u
  · rw [if_pos (decide_eq_true c)]
    exact q1 c
  rw [if_neg (by simpa using c)]
  have m0 := L.m0
  simp only [k_least_residue_5, k_least_residue_4, wpSs, wpS, wpE, wpEs, wpAnd, wpOr, wpI, wpF, wpT, wpH, Env.at, Env.put, Env.wipe, Env.nox, Slot.nox, wBin, binI, wCmp, cmpI, wBi, isTy, asL, asLT, bindT, bindTs, intsOf, boolsOf, ixL0, ixL1, ixL2, List.getElem?_cons_zero, List.getElem?_cons_succ, List.nil_append, List.cons_append, List.append_nil, if_true, ite_true]
  refine ⟨fun k σ h' => ∃ lo hi x, σ = [.val (.tup [.int a, .int b, .int m]), .val (.int u), .val (.int v), .val (.int a), .val (.int b), .val (.int m), .val (.int lo), .val (.int hi), x] ∧ h' = h ∧ k = (hi - lo).toNat ∧ 0 ≤ lo ∧ lo ≤ hi ∧ hi < m ∧
    0 < CF (res a b m) u v hi ∧ ¬ 0 < CF (res a b m) u v (lo - 1), ⟨_, 0, m - 1, .un, rfl, rfl, rfl, Int.le_refl _, by omega, by omega, ?_, ?_⟩, ?_⟩
  · refine CF_pos.mpr ⟨u, Int.le_refl _, by omega, ?_⟩
    have := Int.emod_lt_of_pos (a * u + b) m0
    show (a * u + b) % m ≤ m - 1
    omega
  · intro z
    obtain ⟨x, _, _, q⟩ := CF_pos.mp z
    have := Int.emod_nonneg (a * x + b) (show m ≠ 0 by omega)
    have q : (a * x + b) % m ≤ 0 - 1 := q
    omega
  rintro k σ h' ⟨lo, hi, x, rfl, rfl, rfl, g1, g2, g3, c1, c2⟩
  simp only [wpSs, wpS, wpE, wpEs, wpAnd, wpOr, wpI, wpF, wpT, wpH, Env.at, Env.put, Env.wipe, Env.nox, Slot.nox, wBin, binI, wCmp, cmpI, wBi, isTy, asL, asLT, bindT, bindTs, intsOf, boolsOf, ixL0, ixL1, ixL2, List.getElem?_cons_zero, List.getElem?_cons_succ, List.nil_append, List.cons_append, List.append_nil, if_true, ite_true]
  by_cases c : lo < hi
  · rw [if_pos (decide_eq_true c)]
    simp only [k_least_residue_2, wpSs, wpS, wpE, wpEs, wpAnd, wpOr, wpI, wpF, wpT, wpH, Env.at, Env.put, Env.wipe, Env.nox, Slot.nox, wBin, binI, wCmp, cmpI, wBi, isTy, asL, asLT, bindT, bindTs, intsOf, boolsOf, ixL0, ixL1, ixL2, List.getElem?_cons_zero, List.getElem?_cons_succ, List.nil_append, List.cons_append, List.append_nil, if_true, ite_true]
    rw [fdiv_pos (show (0 : Int) < 2 by decide)]
    simp only [k_least_residue_1, wpSs, wpS, wpE, wpEs, wpAnd, wpOr, wpI, wpF, wpT, wpH, Env.at, Env.put, Env.wipe, Env.nox, Slot.nox, wBin, binI, wCmp, cmpI, wBi, isTy, asL, asLT, bindT, bindTs, intsOf, boolsOf, ixL0, ixL1, ixL2, List.getElem?_cons_zero, List.getElem?_cons_succ, List.nil_append, List.cons_append, List.append_nil, if_true, ite_true, h8]
    have w1 : lo ≤ (lo + hi) / 2 := by omega
    have w2 : (lo + hi) / 2 < hi := by omega
    have s0 : Sz 1800 0 := by unfold Sz; exact Nat.pow_pos (by decide)
    have sh : Sz 1800 ((lo + hi) / 2) := by have := L.sm; exact Sz.mono (show Sz 1600 _ by unfold Sz at *; omega) (by decide)
    refine ⟨⟨by decide, bits2⟩, _, _, _, _, _, _, _, rfl, m0, by omega, by omega, L.su.mono (by decide), L.sv.mono (by decide), L.sa.mono (by decide), L.sb.mono (by decide), L.sm.mono (by decide), s0, sh, ?_⟩
    rw [Int.sub_zero, Int.sub_zero]
    simp only [wpSs, wpS, wpE, wpEs, wpAnd, wpOr, wpI, wpF, wpT, wpH, Env.at, Env.put, Env.wipe, Env.nox, Slot.nox, wBin, binI, wCmp, cmpI, wBi, isTy, asL, asLT, bindT, bindTs, intsOf, boolsOf, ixL0, ixL1, ixL2, List.getElem?_cons_zero, List.getElem?_cons_succ, List.nil_append, List.cons_append, List.append_nil, if_true, ite_true]
    by_cases c3 : 0 < CN u v a b m ((lo + hi) / 2)
    · rw [if_pos (decide_eq_true c3)]
      exact ⟨_, by omega, lo, _, _, rfl, trivial, rfl, g1, w1, by omega, c3, c2⟩
    · rw [if_neg (by simpa using c3)]
      exact ⟨_, by omega, _, hi, _, rfl, trivial, rfl, by omega, by omega, g3, c1, by rw [show (lo + hi) / 2 + 1 - 1 = (lo + hi) / 2 by omega]; exact c3⟩
  · rw [if_neg (by simpa using c)]
    have e : lo = hi := by omega
    subst e
    obtain ⟨y, y1, y2, y3⟩ := CF_pos.mp c1
    have low : ∀ x, u ≤ x → x ≤ v → lo ≤ res a b m x := fun x h1 h2 => by
      apply Classical.byContradiction
      intro z
      exact c2 (CF_pos.mpr ⟨x, h1, h2, by omega⟩)
    have ey : res a b m y = lo := by have := low y y1 y2; omega
    simp only [k_least_residue_3, wpSs, wpS, wpE, wpEs, wpAnd, wpOr, wpI, wpF, wpT, wpH, Env.at, Env.put, Env.wipe, Env.nox, Slot.nox, wBin, binI, wCmp, cmpI, wBi, isTy, asL, asLT, bindT, bindTs, intsOf, boolsOf, ixL0, ixL1, ixL2, List.getElem?_cons_zero, List.getElem?_cons_succ, List.nil_append, List.cons_append, List.append_nil, if_true, ite_true, h13]
    have some_ : 0 < CN u v a (b - lo) m ((lo - lo) % m) := by
      rw [← CF_CN]
      exact CF_pos.mpr ⟨y, y1, y2, (res0 m0 g1 g3).mpr ey⟩
    refine ⟨_, _, _, _, _, _, _, rfl, L.band g1 g3 g1 g3, fun z => by omega, fun _ n hn => ?_⟩
    obtain ⟨f1, f2, f3, f4⟩ := first_res m0 g1 g3 hn
    refine ⟨(show 2 ≤ SL by decide), q2 lo n ⟨f1, f2, trivial, f3, fun x h1 h2 _ => low x h1 h2, fun x h1 h2 _ => ?_⟩⟩
    have l1 := low x h1 (by omega)
    have l2 : res a b m x ≠ lo := f4 x h1 h2
    omega
def sp_greatest_residue : Spec := fun ds h Q _ => ∃ u v a b m, ds = [.tup [.int a, .int b, .int m], .int u, .int v] ∧ Lin u v a b m ∧ Sz 1500 a ∧ Sz 1500 b ∧ (v < u → Q .non h) ∧ (∀ r n, Arg (fun x => -(res a b m x)) TT1 u v (-r) n → Q (.tup [.int r, .int n]) h)
theorem res_neg {a b m x : Int} (hm : 0 < m) : res (0 - a) (0 - b - 1) m x = m - 1 - res a b m x := by
  unfold res
  have d := Int.ediv_mul_add_emod (a * x + b) m
  have r0 := Int.emod_nonneg (a * x + b) (show m ≠ 0 by omega)
  have r1 := Int.emod_lt_of_pos (a * x + b) hm
  have e : (0 - a) * x + (0 - b - 1) = (m - 1 - (a * x + b) % m) + m * (-((a * x + b) / m) - 1) := by
    rw [Int.sub_mul, Int.zero_mul, Int.mul_sub, Int.mul_neg, Int.mul_one, Int.mul_comm m]; omega
  rw [e, Int.add_mul_emod_self_left]
  exact Int.emod_eq_of_lt (by omega) (by omega)
theorem b_greatest_residue {Γ : Gam} (h2 : Γ.fn 2 = sp_check_range) (h19 : Γ.fn 19 = sp_least_residue) : BodyOk Γ ir_greatest_residue sp_greatest_residue := by
  rintro ds h Q R ⟨u, v, a, b, m, rfl, L, sa, sb, q1, q2⟩
  refine ⟨rfl, ?_⟩
  show wpSs Γ ir_greatest_residue.body [.val (.tup [.int a, .int b, .int m]), .val (.int u), .val (.int v), .un] h _
  simp only [ir_greatest_residue, wpSs, wpS, wpE, wpEs, wpAnd, wpOr, wpI, wpF, wpT, wpH, Env.at, Env.put, Env.wipe, Env.nox, Slot.nox, wBin, binI, wCmp, cmpI, wBi, isTy, asL, asLT, bindT, bindTs, intsOf, boolsOf, ixL0, ixL1, ixL2, List.getElem?_cons_zero, List.getElem?_cons_succ, List.nil_append, List.cons_append, List.append_nil, if_true, ite_true, h2, h19]
  refine ⟨_, _, _, _, _, rfl, L.m0, (show 3 ≤ SL by decide), ?_⟩
  have s0 : Sz 1500 0 := by unfold Sz; exact Nat.pow_pos (by decide)
  refine ⟨_, _, _, _, _, rfl, ⟨L.m0, L.su, L.sv, (s0.sub sa).mono (by decide), ((s0.sub sb).sub (sz1.mono (by decide))).mono (by decide), L.sm⟩, fun c => ?_, fun r n hA => ?_⟩
  · simp only [D.isNon, wpSs, wpS, wpE, wpEs, wpAnd, wpOr, wpI, wpF, wpT, wpH, Env.at, Env.put, Env.wipe, Env.nox, Slot.nox, wBin, binI, wCmp, cmpI, wBi, isTy, asL, asLT, bindT, bindTs, intsOf, boolsOf, ixL0, ixL1, ixL2, List.getElem?_cons_zero, List.getElem?_cons_succ, List.nil_append, List.cons_append, List.append_nil, if_true, ite_true]
    exact q1 c
  · simp only [D.isNon, wpSs, wpS, wpE, wpEs, wpAnd, wpOr, wpI, wpF, wpT, wpH, Env.at, Env.put, Env.wipe, Env.nox, Slot.nox, wBin, binI, wCmp, cmpI, wBi, isTy, asL, asLT, bindT, bindTs, intsOf, boolsOf, ixL0, ixL1, ixL2, List.getElem?_cons_zero, List.getElem?_cons_succ, List.nil_append, List.cons_append, List.append_nil, if_true, ite_true]
    rw [if_neg (show ¬ (false = true) by decide)]
    refine ⟨(show 2 ≤ SL by decide), q2 (m - 1 - r) n ?_⟩
    obtain ⟨a1, a2, a3, a4, a5, a6⟩ := hA
    rw [res_neg L.m0] at a4
    refine ⟨a1, a2, trivial, by show -(res a b m n) = _; omega, fun x h1 h2 _ => ?_, fun x h1 h2 _ => ?_⟩
    · have := a5 x h1 h2 trivial
      rw [res_neg L.m0] at this
      show _ ≤ -(res a b m x)
      omega
    · have := a6 x h1 h2 trivial
      rw [res_neg L.m0] at this
      show _ < -(res a b m x)
      omega
theorem m_least_residue : ∀ ds h Q Q' R R', (∀ d h, Q d h → Q' d h) → (∀ x h, R x h → R' x h) → sp_least_residue ds h Q R → sp_least_residue ds h Q' R' := by
  rintro ds h Q Q' R R' k _ ⟨a1, a2, a3, a4, a5, a6, a7, q1, q2⟩
  exact ⟨a1, a2, a3, a4, a5, a6, a7, fun z => k _ _ (q1 z), fun r n z => k _ _ (q2 r n z)⟩
theorem m_greatest_residue : ∀ ds h Q Q' R R', (∀ d h, Q d h → Q' d h) → (∀ x h, R x h → R' x h) → sp_greatest_residue ds h Q R → sp_greatest_residue ds h Q' R' := by
  rintro ds h Q Q' R R' k _ ⟨a1, a2, a3, a4, a5, a6, a7, a8, a9, q1, q2⟩
  exact ⟨a1, a2, a3, a4, a5, a6, a7, a8, a9, fun z => k _ _ (q1 z), fun r n z => k _ _ (q2 r n z)⟩
end FF

namespace FF
/-- the distance around the circle -/
def cd (m r g : Int) : Int := min (((r - g).natAbs : Nat) : Int) (m - (((r - g).natAbs : Nat) : Int))
theorem mod_small {y m : Int} (h1 : -m < y) (h2 : y < 2 * m) : y % m = if y < 0 then y + m else if y < m then y else y - m := by
  by_cases c : y < 0
  · rw [if_pos c]
    have : y = (y + m) + m * (-1) := by omega
    conv => lhs; rw [this]
    rw [Int.add_mul_emod_self_left]; exact Int.emod_eq_of_lt (by omega) (by omega)
  · rw [if_neg c]
    by_cases c2 : y < m
    · rw [if_pos c2]; exact Int.emod_eq_of_lt (by omega) c2
    · rw [if_neg c2]
      have : y = (y - m) + m * 1 := by omega
      conv => lhs; rw [this]
      rw [Int.add_mul_emod_self_left]; exact Int.emod_eq_of_lt (by omega) (by omega)
theorem near_iff {m r g d : Int} (r0 : 0 ≤ r) (r1 : r < m) (g0 : 0 ≤ g) (g1 : g < m) (d0 : 0 ≤ d) (d1 : 2 * d + 1 < m) : (r - g + d) % m ≤ 2 * d ↔ cd m r g ≤ d := by
  rw [mod_small (y := r - g + d) (by omega) (by omega)]
  unfold cd
  by_cases c : r - g + d < 0
  · rw [if_pos c]; omega
  · rw [if_neg c]
    by_cases c2 : r - g + d < m
    · rw [if_pos c2]; omega
    · rw [if_neg c2]; omega
theorem cd_half {m r g : Int} (r0 : 0 ≤ r) (r1 : r < m) (g0 : 0 ≤ g) (g1 : g < m) : 0 ≤ cd m r g ∧ cd m r g ≤ m / 2 := by
  unfold cd
  omega
theorem cd_ends {m r g d : Int} (r0 : 0 ≤ r) (r1 : r < m) (g0 : 0 ≤ g) (g1 : g < m) (d0 : 0 ≤ d) (d1 : d ≤ m / 2) : cd m r g = d ↔ (r = (g - d) % m ∨ r = (g + d) % m) := by
  rw [mod_small (y := g - d) (by omega) (by omega), mod_small (y := g + d) (by omega) (by omega)]
  unfold cd
  by_cases c : g - d < 0
  · rw [if_pos c, if_neg (show ¬ g + d < 0 by omega)]
    by_cases c2 : g + d < m
    · rw [if_pos c2]; omega
    · rw [if_neg c2]; omega
  · rw [if_neg c, if_pos (show g - d < m by omega), if_neg (show ¬ g + d < 0 by omega)]
    by_cases c2 : g + d < m
    · rw [if_pos c2]; omega
    · rw [if_neg c2]; omega
def cdF (a b m g : Int) (x : Int) : Int := cd m (res a b m x) g
theorem res_in {a b m x : Int} (hm : 0 < m) : 0 ≤ res a b m x ∧ res a b m x < m := ⟨Int.emod_nonneg _ (by omega), Int.emod_lt_of_pos _ hm⟩
theorem CF_all {F : Int → Int} {u v k : Int} (h : ∀ x, F x ≤ k) : CF F u v k = max 0 (v - u + 1) := by
  unfold CF
  have : ∀ i : Nat, i < (v - u + 1).toNat → ind (F (u + i) ≤ k) = 1 := fun i _ => by unfold ind; rw [if_pos (h _)]
  rw [sumI_congr this, sumI_const]
  omega
def sp_near_of : Spec := fun ds h Q _ => ∃ u v a b m g d, ds = [.int u, .int v, .int a, .int b, .int m, .int g, .int d] ∧ Lin u v a b m ∧ 0 ≤ g ∧ g < m ∧ 0 ≤ d ∧ d ≤ m ∧ Q (.int (CF (cdF a b m g) u v d)) h
theorem b_near_of {Γ : Gam} (h8 : Γ.fn 8 = sp_count_of) : BodyOk Γ ir_near_of sp_near_of := by
  rintro ds h Q R ⟨u, v, a, b, m, g, d, rfl, L, g0, g1, d0, d1, q⟩
  refine ⟨rfl, ?_⟩
  show wpSs Γ ir_near_of.body [.val (.int u), .val (.int v), .val (.int a), .val (.int b), .val (.int m), .val (.int g), .val (.int d)] h _
  simp only [ir_near_of, wpSs, wpS, wpE, wpEs, wpAnd, wpOr, wpI, wpF, wpT, wpH, Env.at, Env.put, Env.wipe, Env.nox, Slot.nox, wBin, binI, wCmp, cmpI, wBi, isTy, asL, asLT, bindT, bindTs, intsOf, boolsOf, ixL0, ixL1, ixL2, List.getElem?_cons_zero, List.getElem?_cons_succ, List.nil_append, List.cons_append, List.append_nil, if_true, ite_true, h8]
  have m0 := L.m0
  have z : ∀ i : Int, 0 ≤ i → i ≤ m → Sz 1600 i := fun i h1 h2 => by have := L.sm; unfold Sz at *; omega
  have sd := z d d0 d1
  have s2 : Sz 1602 (2 * d) := ((show Sz 2 2 by unfold Sz; decide).mul sd).mono (by decide)
  refine ⟨mul_small (by unfold Sz; decide), ?_⟩
  by_cases c : m ≤ 2 * d + 1
  · rw [if_pos (decide_eq_true c)]
    have := CF_all (F := cdF a b m g) (u := u) (v := v) (k := d) fun x => by
      have r := res_in (a := a) (b := b) (x := x) m0
      have := (cd_half r.1 r.2 g0 g1).2
      unfold cdF
      omega
    rw [this] at q
    exact q
  · rw [if_neg (by simpa using c)]
    have s0 : Sz 1800 0 := by unfold Sz; exact Nat.pow_pos (by decide)
    refine ⟨mul_small (by unfold Sz; decide), _, _, _, _, _, _, _, rfl, m0, by omega, by omega, L.su.mono (by decide), L.sv.mono (by decide), L.sa.mono (by decide), ((L.sb.sub (z g g0 (by omega))).add (sd.mono (by decide))).mono (by decide), L.sm.mono (by decide), s0, s2.mono (by decide), ?_⟩
    have e : CN u v a (b - g + d - 0) m (2 * d - 0) = CF (cdF a b m g) u v d := by
      unfold CN CF
      refine sumI_congr fun i _ => ?_
      have r := res_in (a := a) (b := b) (x := u + i) m0
      have k := near_iff r.1 r.2 g0 g1 d0 (show 2 * d + 1 < m by omega)
      have e2 : (a * (u + (i : Int)) + (b - g + d - 0)) % m = (res a b m (u + i) - g + d) % m := by
        unfold res
        rw [show (a * (u + (i : Int)) + b) % m - g + d = (a * (u + (i : Int)) + b) % m + (d - g) by omega, Int.emod_add_emod]
        congr 1
        omega
      unfold ind cdF
      rw [e2, Int.sub_zero]
      by_cases c : (res a b m (u + i) - g + d) % m ≤ 2 * d
      · rw [if_pos c, if_pos (k.mp c)]
      · rw [if_neg c, if_neg (fun z => c (k.mpr z))]
    rw [e]
    exact q
theorem m_near_of : ∀ ds h Q Q' R R', (∀ d h, Q d h → Q' d h) → (∀ x h, R x h → R' x h) → sp_near_of ds h Q R → sp_near_of ds h Q' R' := by
  rintro ds h Q Q' R R' k _ ⟨a1, a2, a3, a4, a5, a6, a7, a8, a9, a10, a11, a12, a13, q⟩
  exact ⟨a1, a2, a3, a4, a5, a6, a7, a8, a9, a10, a11, a12, a13, k _ _ q⟩
end FF

namespace FF
/-- the first place of a residue, if there is one -/
def Place (u v a b m e : Int) (p : D) : Prop := (p = .non ∧ ∀ x, u ≤ x → x ≤ v → res a b m x ≠ e) ∨ ∃ n, p = .int n ∧ u ≤ n ∧ n ≤ v ∧ res a b m n = e ∧ ∀ x, u ≤ x → x < n → res a b m x ≠ e
theorem place_of {u v a b m e : Int} {h : AH} {Q : QE} {R : RE} (L : Lin u v a b m) (e0 : 0 ≤ e) (e1 : e < m) (q : ∀ p, Place u v a b m e p → Q p h) : sp_first_of [.int u, .int v, .int a, .int b, .int m, .int e, .int e] h Q R := by
  refine ⟨_, _, _, _, _, _, _, rfl, L.band e0 e1 e0 e1, fun z => q _ (.inl ⟨rfl, fun x h1 h2 h3 => ?_⟩), fun _ n hn => ?_⟩
  · have := CF_pos (F := fun x => (a * x + (b - e)) % m) (u := u) (v := v) (k := (e - e) % m)
    rw [CF_CN, z] at this
    exact absurd (this.mpr ⟨x, h1, h2, (res0 L.m0 e0 e1).mpr h3⟩) (Int.lt_irrefl _)
  · obtain ⟨f1, f2, f3, f4⟩ := first_res L.m0 e0 e1 hn
    exact q _ (.inr ⟨n, rfl, f1, f2, f3, f4⟩)
def apF (ap : Bool) (F : Int → Int) : Int → Prop := fun x => ap = true → 0 < F x
def sp_nearest_of : Spec := fun ds h Q _ => ∃ u v a b m g ap, ds = [.int u, .int v, .int a, .int b, .int m, .int g, .bl ap, .int m] ∧ Lin u v a b m ∧ 0 ≤ g ∧ g < m ∧ ((∀ x, u ≤ x → x ≤ v → ¬ apF ap (cdF a b m g) x) → Q .non h) ∧ (∀ r n, Arg (cdF a b m g) (apF ap (cdF a b m g)) u v r n → Q (.tup [.int r, .int n]) h)
theorem two_min {u v a b m g d : Int} {ap : Bool} {n1 n2 : Int} (m0 : 0 < m) (g0 : 0 ≤ g) (g1 : g < m) (d0 : 0 ≤ d) (d1 : d ≤ m / 2) (hP : ap = true → 0 < d) (low : ∀ x, u ≤ x → x ≤ v → apF ap (cdF a b m g) x → d ≤ cdF a b m g x)
    (n : Int) (h1 : u ≤ n) (h2 : n ≤ v) (he : res a b m n = (g - d) % m ∨ res a b m n = (g + d) % m) (hf : ∀ x, u ≤ x → x < n → res a b m x ≠ (g - d) % m ∧ res a b m x ≠ (g + d) % m) : Arg (cdF a b m g) (apF ap (cdF a b m g)) u v d n := by
  have key : ∀ x, cdF a b m g x = d ↔ (res a b m x = (g - d) % m ∨ res a b m x = (g + d) % m) := fun x => by
    have r := res_in (a := a) (b := b) (x := x) m0
    exact cd_ends r.1 r.2 g0 g1 d0 d1
  have en := (key n).mpr he
  refine ⟨h1, h2, fun z => by rw [en]; exact hP z, en, low, fun x x1 x2 x3 => ?_⟩
  have l := low x x1 (by omega) x3
  have : cdF a b m g x ≠ d := fun z => by
    have := hf x x1 x2
    rcases (key x).mp z with q | q
    · exact this.1 q
    · exact this.2 q
  omega
theorem b_nearest_of {Γ : Gam} (h18 : Γ.fn 18 = sp_near_of) (h13 : Γ.fn 13 = sp_first_of) : BodyOk Γ ir_nearest_of sp_nearest_of := by
  rintro ds h Q R ⟨u, v, a, b, m, g, ap, rfl, L, g0, g1, q1, q2⟩
  refine ⟨rfl, ?_⟩
  show wpSs Γ ir_nearest_of.body [.val (.int u), .val (.int v), .val (.int a), .val (.int b), .val (.int m), .val (.int g), .val (.bl ap), .val (.int m), .un, .un, .un, .un, .un, .un, .un, .un] h _
  have m0 := L.m0
  have nn : ∀ x, 0 ≤ cdF a b m g x := fun x => (cd_half (res_in m0).1 (res_in m0).2 g0 g1).1
  have hh : ∀ x, cdF a b m g x ≤ m / 2 := fun x => (cd_half (res_in m0).1 (res_in m0).2 g0 g1).2
  simp only [ir_nearest_of, k_nearest_of_9, wpSs, wpS, wpE, wpEs, wpAnd, wpOr, wpI, wpF, wpT, wpH, Env.at, Env.put, Env.wipe, Env.nox, Slot.nox, wBin, binI, wCmp, cmpI, wBi, isTy, asL, asLT, bindT, bindTs, intsOf, boolsOf, ixL0, ixL1, ixL2, List.getElem?_cons_zero, List.getElem?_cons_succ, List.nil_append, List.cons_append, List.append_nil, if_true, ite_true, h18]
  -- how many are left out
  have start_ : ∀ K : Int → Prop, (∀ none : Int, (∀ d, 0 ≤ d → (none < CF (cdF a b m g) u v d ↔ ∃ x, u ≤ x ∧ x ≤ v ∧ apF ap (cdF a b m g) x ∧ cdF a b m g x ≤ d)) → K none) → (if ap = true then sp_near_of [.int u, .int v, .int a, .int b, .int m, .int g, .int 0] h (fun d h' => ∃ i, d = .int i ∧ h' = h ∧ K i) (fun x h => R x h) else K 0) := by
    intro K hK
    cases ap with
    | true =>
      rw [if_pos rfl]
      refine ⟨_, _, _, _, _, _, _, rfl, L, g0, g1, Int.le_refl _, Int.le_of_lt m0, _, rfl, rfl, hK _ fun d hd => ?_⟩
      rw [CF_more nn hd]
      constructor
      · rintro ⟨x, h1, h2, h3, h4⟩; exact ⟨x, h1, h2, fun _ => h3, h4⟩
      · rintro ⟨x, h1, h2, h3, h4⟩; exact ⟨x, h1, h2, h3 rfl, h4⟩
    | false =>
      rw [if_neg (by decide)]
      refine hK 0 fun d hd => ?_
      rw [CF_pos]
      constructor
      · rintro ⟨x, h1, h2, h4⟩; exact ⟨x, h1, h2, (fun z => by cases z), h4⟩
      · rintro ⟨x, h1, h2, _, h4⟩; exact ⟨x, h1, h2, h4⟩
  have go := start_ (fun none => wpSs Γ k_nearest_of_8 [.val (.int u), .val (.int v), .val (.int a), .val (.int b), .val (.int m), .val (.int g), .val (.bl ap), .val (.int m), .val (.int none), .un, .un, .un, .un, .un, .un, .un] h ⟨fun _ h => Q .non h, Q, fun _ _ => False, fun x _ h => R x h⟩) ?_
  · by_cases c : ap = true
    · rw [if_pos c] at go
      rw [if_pos c]
      obtain ⟨u', v', a', b', m', g', d', e, L', z0, z1, z2, z3, i, ei, _, k⟩ := go
      refine ⟨u', v', a', b', m', g', d', e, L', z0, z1, z2, z3, ?_⟩
      rw [ei]
      exact k
    · rw [if_neg c] at go
      rw [if_neg c]
      exact go
  intro none key
  simp only [k_nearest_of_8, wpSs, wpS, wpE, wpEs, wpAnd, wpOr, wpI, wpF, wpT, wpH, Env.at, Env.put, Env.wipe, Env.nox, Slot.nox, wBin, binI, wCmp, cmpI, wBi, isTy, asL, asLT, bindT, bindTs, intsOf, boolsOf, ixL0, ixL1, ixL2, List.getElem?_cons_zero, List.getElem?_cons_succ, List.nil_append, List.cons_append, List.append_nil, if_true, ite_true]
  have e2 : min m (m.fdiv 2) = m / 2 := by rw [fdiv_pos (show (0 : Int) < 2 by decide)]; omega
  rw [e2]
  refine ⟨⟨by decide, bits2⟩, ?_⟩
  generalize hlo : (if ap = true then (1 : Int) else 0) = lo0
  have lo00 : 0 ≤ lo0 := by rw [← hlo]; split <;> omega
  simp only [k_nearest_of_7, wpSs, wpS, wpE, wpEs, wpAnd, wpOr, wpI, wpF, wpT, wpH, Env.at, Env.put, Env.wipe, Env.nox, Slot.nox, wBin, binI, wCmp, cmpI, wBi, isTy, asL, asLT, bindT, bindTs, intsOf, boolsOf, ixL0, ixL1, ixL2, List.getElem?_cons_zero, List.getElem?_cons_succ, List.nil_append, List.cons_append, List.append_nil, if_true, ite_true, h18]
  have noneK : (∀ x, u ≤ x → x ≤ v → ¬ apF ap (cdF a b m g) x) → Q .non h := q1
  by_cases c : m / 2 < lo0
  · rw [if_pos (decide_eq_true c)]
    refine noneK fun x _ _ z => ?_
    have := hh x
    cases ap with
    | true =>
      have := z rfl
      rw [if_pos rfl] at hlo
      omega
    | false =>
      rw [if_neg (by decide)] at hlo
      omega
  rw [if_neg (by simpa using c)]
  refine ⟨_, _, _, _, _, _, _, rfl, L, g0, g1, by omega, by omega, ?_⟩
  simp only [wpSs, wpS, wpE, wpEs, wpAnd, wpOr, wpI, wpF, wpT, wpH, Env.at, Env.put, Env.wipe, Env.nox, Slot.nox, wBin, binI, wCmp, cmpI, wBi, isTy, asL, asLT, bindT, bindTs, intsOf, boolsOf, ixL0, ixL1, ixL2, List.getElem?_cons_zero, List.getElem?_cons_succ, List.nil_append, List.cons_append, List.append_nil, if_true, ite_true]
  by_cases c2 : CF (cdF a b m g) u v (m / 2) ≤ none
  · rw [if_pos (decide_eq_true c2)]
    refine noneK fun x h1 h2 h3 => ?_
    have := (key (m / 2) (by omega)).mpr ⟨x, h1, h2, h3, hh x⟩
    omega
  rw [if_neg (by simpa using c2)]
  simp only [k_nearest_of_6, wpSs, wpS, wpE, wpEs, wpAnd, wpOr, wpI, wpF, wpT, wpH, Env.at, Env.put, Env.wipe, Env.nox, Slot.nox, wBin, binI, wCmp, cmpI, wBi, isTy, asL, asLT, bindT, bindTs, intsOf, boolsOf, ixL0, ixL1, ixL2, List.getElem?_cons_zero, List.getElem?_cons_succ, List.nil_append, List.cons_append, List.append_nil, if_true, ite_true]
  refine ⟨fun k σ h' => ∃ lo hi x, σ = [.val (.int u), .val (.int v), .val (.int a), .val (.int b), .val (.int m), .val (.int g), .val (.bl ap), .val (.int m), .val (.int none), .val (.int lo), .val (.int hi), x, .un, .un, .un, .un] ∧ h' = h ∧ k = (hi - lo).toNat ∧ lo0 ≤ lo ∧ lo ≤ hi ∧ hi ≤ m / 2 ∧
    none < CF (cdF a b m g) u v hi ∧ (∀ x, u ≤ x → x ≤ v → apF ap (cdF a b m g) x → lo ≤ cdF a b m g x), ⟨_, lo0, m / 2, .un, rfl, rfl, rfl, Int.le_refl _, by omega, Int.le_refl _, by omega, fun x _ _ z => ?_⟩, ?_⟩
  · have := nn x
    cases ap with
    | true =>
      have := z rfl
      rw [if_pos rfl] at hlo
      omega
    | false =>
      rw [if_neg (by decide)] at hlo
      omega
  rintro k σ h' ⟨lo, hi, x, rfl, rfl, rfl, w1, w2, w3, w4, w5⟩
  simp only [wpSs, wpS, wpE, wpEs, wpAnd, wpOr, wpI, wpF, wpT, wpH, Env.at, Env.put, Env.wipe, Env.nox, Slot.nox, wBin, binI, wCmp, cmpI, wBi, isTy, asL, asLT, bindT, bindTs, intsOf, boolsOf, ixL0, ixL1, ixL2, List.getElem?_cons_zero, List.getElem?_cons_succ, List.nil_append, List.cons_append, List.append_nil, if_true, ite_true]
  by_cases c3 : lo < hi
  · rw [if_pos (decide_eq_true c3)]
    simp only [k_nearest_of_2, wpSs, wpS, wpE, wpEs, wpAnd, wpOr, wpI, wpF, wpT, wpH, Env.at, Env.put, Env.wipe, Env.nox, Slot.nox, wBin, binI, wCmp, cmpI, wBi, isTy, asL, asLT, bindT, bindTs, intsOf, boolsOf, ixL0, ixL1, ixL2, List.getElem?_cons_zero, List.getElem?_cons_succ, List.nil_append, List.cons_append, List.append_nil, if_true, ite_true]
    rw [fdiv_pos (show (0 : Int) < 2 by decide)]
    simp only [k_nearest_of_1, wpSs, wpS, wpE, wpEs, wpAnd, wpOr, wpI, wpF, wpT, wpH, Env.at, Env.put, Env.wipe, Env.nox, Slot.nox, wBin, binI, wCmp, cmpI, wBi, isTy, asL, asLT, bindT, bindTs, intsOf, boolsOf, ixL0, ixL1, ixL2, List.getElem?_cons_zero, List.getElem?_cons_succ, List.nil_append, List.cons_append, List.append_nil, if_true, ite_true, h18]
    refine ⟨⟨by decide, bits2⟩, _, _, _, _, _, _, _, rfl, L, g0, g1, by omega, by omega, ?_⟩
    simp only [wpSs, wpS, wpE, wpEs, wpAnd, wpOr, wpI, wpF, wpT, wpH, Env.at, Env.put, Env.wipe, Env.nox, Slot.nox, wBin, binI, wCmp, cmpI, wBi, isTy, asL, asLT, bindT, bindTs, intsOf, boolsOf, ixL0, ixL1, ixL2, List.getElem?_cons_zero, List.getElem?_cons_succ, List.nil_append, List.cons_append, List.append_nil, if_true, ite_true]
    by_cases c4 : none < CF (cdF a b m g) u v ((lo + hi) / 2)
    · rw [if_pos (decide_eq_true c4)]
      exact ⟨_, by omega, lo, _, _, rfl, trivial, rfl, w1, by omega, by omega, c4, w5⟩
    · rw [if_neg (by simpa using c4)]
      refine ⟨_, by omega, _, hi, _, rfl, trivial, rfl, by omega, by omega, w3, w4, fun x h1 h2 h3 => ?_⟩
      apply Classical.byContradiction
      intro z
      exact c4 ((key _ (by omega)).mpr ⟨x, h1, h2, h3, by omega⟩)
  rw [if_neg (by simpa using c3)]
  have e : lo = hi := by omega
  subst e
  have hd : ap = true → 0 < lo := fun z => by rw [if_pos z] at hlo; omega
  obtain ⟨y, y1, y2, y3, y4⟩ := (key lo (by omega)).mp w4
  have ey : cdF a b m g y = lo := by have := w5 y y1 y2 y3; omega
  have fin := two_min (a := a) (b := b) (u := u) (v := v) (ap := ap) (n1 := 0) (n2 := 0) m0 g0 g1 (show 0 ≤ lo by omega) w3 hd w5
  simp only [k_nearest_of_5, wpSs, wpS, wpE, wpEs, wpAnd, wpOr, wpI, wpF, wpT, wpH, Env.at, Env.put, Env.wipe, Env.nox, Slot.nox, wBin, binI, wCmp, cmpI, wBi, isTy, asL, asLT, bindT, bindTs, intsOf, boolsOf, ixL0, ixL1, ixL2, List.getElem?_cons_zero, List.getElem?_cons_succ, List.nil_append, List.cons_append, List.append_nil, if_true, ite_true]
  rw [fmod_pos m0, fmod_pos m0]
  have a0 := Int.emod_nonneg (g - lo) (show m ≠ 0 by omega)
  have a1 := Int.emod_lt_of_pos (g - lo) m0
  have b0 := Int.emod_nonneg (g + lo) (show m ≠ 0 by omega)
  have b1 := Int.emod_lt_of_pos (g + lo) m0
  have ry := (cd_ends (res_in (a := a) (b := b) (x := y) m0).1 (res_in m0).2 g0 g1 (show 0 ≤ lo by omega) w3).mp ey
  generalize (g - lo) % m = E1 at *
  generalize (g + lo) % m = E2 at *
  refine ⟨by omega, by omega, (show 2 ≤ SL by decide), ?_⟩
  simp only [k_nearest_of_4, wpSs, wpS, wpE, wpEs, wpAnd, wpOr, wpI, wpF, wpT, wpH, Env.at, Env.put, Env.wipe, Env.nox, Slot.nox, wBin, binI, wCmp, cmpI, wBi, isTy, asL, asLT, bindT, bindTs, intsOf, boolsOf, ixL0, ixL1, ixL2, List.getElem?_cons_zero, List.getElem?_cons_succ, List.nil_append, List.cons_append, List.append_nil, if_true, ite_true, h13, loopC]
  refine place_of L a0 a1 fun p1 hp1 => ⟨(show 0 < SL by decide), place_of L b0 b1 fun p2 hp2 => ⟨(show 1 < SL by decide), ?_⟩⟩
  rcases hp1 with ⟨rfl, f1⟩ | ⟨n1, rfl, x1, x2, x3, x4⟩
  · rcases hp2 with ⟨rfl, f2⟩ | ⟨n2, rfl, z1, z2, z3, z4⟩
    · exfalso
      rcases ry with ry | ry
      · exact f1 y y1 y2 ry
      · exact f2 y y1 y2 ry
    · simp only [k_nearest_of_3, wpSs, wpS, wpE, wpEs, wpAnd, wpOr, wpI, wpF, wpT, wpH, Env.at, Env.put, Env.wipe, Env.nox, Slot.nox, wBin, binI, wCmp, cmpI, wBi, isTy, asL, asLT, bindT, bindTs, intsOf, boolsOf, ixL0, ixL1, ixL2, List.getElem?_cons_zero, List.getElem?_cons_succ, List.nil_append, List.cons_append, List.append_nil, if_true, ite_true, loopC, D.isNon, Bool.not_true, Bool.not_false, Bool.false_eq_true, if_false, if_true]
      refine ⟨(show 0 < SL by decide), (show 0 < 1 by decide), (show 2 ≤ SL by decide), ?_⟩
      exact q2 _ _ (fin n2 z1 z2 (.inr z3) fun x h1 h2 => ⟨f1 x h1 (by omega), z4 x h1 h2⟩)
  · rcases hp2 with ⟨rfl, f2⟩ | ⟨n2, rfl, z1, z2, z3, z4⟩
    · simp only [k_nearest_of_3, wpSs, wpS, wpE, wpEs, wpAnd, wpOr, wpI, wpF, wpT, wpH, Env.at, Env.put, Env.wipe, Env.nox, Slot.nox, wBin, binI, wCmp, cmpI, wBi, isTy, asL, asLT, bindT, bindTs, intsOf, boolsOf, ixL0, ixL1, ixL2, List.getElem?_cons_zero, List.getElem?_cons_succ, List.nil_append, List.cons_append, List.append_nil, if_true, ite_true, loopC, D.isNon, Bool.not_true, Bool.not_false, Bool.false_eq_true, if_false, if_true]
      refine ⟨(show 0 < SL by decide), (show 0 < 1 by decide), (show 2 ≤ SL by decide), ?_⟩
      exact q2 _ _ (fin n1 x1 x2 (.inl x3) fun x h1 h2 => ⟨x4 x h1 h2, f2 x h1 (by omega)⟩)
    · simp only [k_nearest_of_3, wpSs, wpS, wpE, wpEs, wpAnd, wpOr, wpI, wpF, wpT, wpH, Env.at, Env.put, Env.wipe, Env.nox, Slot.nox, wBin, binI, wCmp, cmpI, wBi, isTy, asL, asLT, bindT, bindTs, intsOf, boolsOf, ixL0, ixL1, ixL2, List.getElem?_cons_zero, List.getElem?_cons_succ, List.nil_append, List.cons_append, List.append_nil, if_true, ite_true, loopC, D.isNon, Bool.not_true, Bool.not_false, Bool.false_eq_true, if_false, if_true]
      refine ⟨(show 0 < SL by decide), (show 1 < SL by decide), (show 0 < 2 by decide), (show 2 ≤ SL by decide), ?_⟩
      show Q (.tup [.int lo, .int (min n1 n2)]) h'
      by_cases c5 : n1 ≤ n2
      · rw [Int.min_eq_left c5]
        exact q2 _ _ (fin n1 x1 x2 (.inl x3) fun x h1 h2 => ⟨x4 x h1 h2, z4 x h1 (by omega)⟩)
      · rw [Int.min_eq_right (by omega)]
        exact q2 _ _ (fin n2 z1 z2 (.inr z3) fun x h1 h2 => ⟨x4 x h1 (by omega), z4 x h1 h2⟩)
def sp_nearest : Spec := fun ds h Q _ => ∃ u v a b m g ap, ds = [.tup [.int a, .int b, .int m], .int u, .int v, .int g, .bl ap] ∧ Lin u v a b m ∧ 0 ≤ g ∧ g < m ∧ ((∀ x, u ≤ x → x ≤ v → ¬ apF ap (cdF a b m g) x) → Q .non h) ∧ (∀ r n, Arg (cdF a b m g) (apF ap (cdF a b m g)) u v r n → Q (.tup [.int r, .int n]) h)
theorem b_nearest {Γ : Gam} (h2 : Γ.fn 2 = sp_check_range) (h11 : Γ.fn 11 = sp_check_between) (h20 : Γ.fn 20 = sp_nearest_of) : BodyOk Γ ir_nearest sp_nearest := by
  rintro ds h Q R ⟨u, v, a, b, m, g, ap, rfl, L, g0, g1, q1, q2⟩
  refine ⟨rfl, ?_⟩
  show wpSs Γ ir_nearest.body [.val (.tup [.int a, .int b, .int m]), .val (.int u), .val (.int v), .val (.int g), .val (.bl ap)] h _
  simp only [ir_nearest, wpSs, wpS, wpE, wpEs, wpAnd, wpOr, wpI, wpF, wpT, wpH, Env.at, Env.put, Env.wipe, Env.nox, Slot.nox, wBin, binI, wCmp, cmpI, wBi, isTy, asL, asLT, bindT, bindTs, intsOf, boolsOf, ixL0, ixL1, ixL2, List.getElem?_cons_zero, List.getElem?_cons_succ, List.nil_append, List.cons_append, List.append_nil, if_true, ite_true, h2, h11, h20]
  exact ⟨_, _, _, _, _, rfl, L.m0, _, _, _, _, rfl, g0, by omega, _, _, _, _, _, _, _, rfl, L, g0, g1, q1, q2⟩
theorem m_nearest_of : ∀ ds h Q Q' R R', (∀ d h, Q d h → Q' d h) → (∀ x h, R x h → R' x h) → sp_nearest_of ds h Q R → sp_nearest_of ds h Q' R' := by
  rintro ds h Q Q' R R' k _ ⟨a1, a2, a3, a4, a5, a6, a7, a8, a9, a10, a11, q1, q2⟩
  exact ⟨a1, a2, a3, a4, a5, a6, a7, a8, a9, a10, a11, fun z => k _ _ (q1 z), fun r n z => k _ _ (q2 r n z)⟩
theorem m_nearest : ∀ ds h Q Q' R R', (∀ d h, Q d h → Q' d h) → (∀ x h, R x h → R' x h) → sp_nearest ds h Q R → sp_nearest ds h Q' R' := by
  rintro ds h Q Q' R R' k _ ⟨a1, a2, a3, a4, a5, a6, a7, a8, a9, a10, a11, q1, q2⟩
  exact ⟨a1, a2, a3, a4, a5, a6, a7, a8, a9, a10, a11, fun z => k _ _ (q1 z), fun r n z => k _ _ (q2 r n z)⟩
end FF

namespace FF
/-! ### rows of a value and a number; the first of the least -/
abbrev rowD (p : Int × Int) : D := .tup [.int p.1, .int p.2]
def stepR (acc : Option (Int × Int)) (p : Int × Int) : Option (Int × Int) := match acc with
  | none => some p
  | some q => if p.1 < q.1 then some p else some q
def firstR (l : List (Int × Int)) : Option (Int × Int) := l.foldl stepR none
def optD : Option (Int × Int) → D
  | none => .non
  | some p => rowD p
def unrow : D → Int × Int
  | .tup [.int x, .int y] => (x, y)
  | _ => (0, 0)
theorem unrow_map {l : List (Int × Int)} : (l.map rowD).map unrow = l := by
  rw [List.map_map]
  conv => rhs; rw [← List.map_id l]
  rfl
theorem firstR_app {l : List (Int × Int)} {p : Int × Int} : firstR (l ++ [p]) = stepR (firstR l) p := by
  unfold firstR
  rw [List.foldl_append]; rfl
/-- what is first of the rows of F over a range, those of P alone -/
def Due (F : Int → Int) (P : Int → Prop) (u v : Int) (o : Option (Int × Int)) : Prop := match o with
  | none => ∀ x, u ≤ x → x ≤ v → ¬ P x
  | some p => Arg F P u v p.1 p.2
theorem due_rows {F : Int → Int} {P : Int → Prop} (p : Int → Bool) (hp : ∀ x, p x = true ↔ P x) {u : Int} : ∀ {n : Nat}, Due F P u (u + n - 1) (firstR (((rngI u n).filter p).map fun x => (F x, x)))
  | 0 => fun x h1 h2 => by omega
  | n + 1 => by
    have ih := due_rows (F := F) p hp (u := u) (n := n)
    have one : rngI (u + n) 1 = [u + n] := by simp [rngI]
    rw [rngI_app (p := n) (q := 1), one, List.filter_append, List.map_append]
    unfold firstR at ih ⊢
    rw [List.foldl_append]
    have ev : u + ((n + 1 : Nat) : Int) - 1 = u + n := by omega
    rw [ev]
    by_cases c : p (u + n) = true
    · have c' := (hp _).mp c
      have e : [u + (n : Int)].filter p = [u + n] := by simp [c]
      rw [e]
      show Due F P u (u + n) (stepR _ (F (u + n), u + n))
      cases hq : List.foldl stepR none (((rngI u n).filter p).map fun x => (F x, x)) with
      | none =>
        rw [hq] at ih
        refine ⟨by omega, Int.le_refl _, c', rfl, fun x h1 h2 h3 => ?_, fun x h1 h2 h3 => absurd h3 (ih x h1 (by omega))⟩
        by_cases z : x = u + n
        · subst z; exact Int.le_refl _
        · exact absurd h3 (ih x h1 (by omega))
      | some t =>
        rw [hq] at ih
        obtain ⟨a1, a2, a3, a4, a5, a6⟩ := ih
        by_cases z : F (u + n) < t.1
        · have e : stepR (some t) (F (u + n), u + n) = some (F (u + n), u + n) := if_pos z
          rw [e]
          refine ⟨by omega, Int.le_refl _, c', rfl, fun x h1 h2 h3 => ?_, fun x h1 h2 h3 => ?_⟩
          · by_cases y : x = u + n
            · subst y; exact Int.le_refl _
            · have := a5 x h1 (by omega) h3
              show F (u + n) ≤ F x
              omega
          · have := a5 x h1 (by omega) h3
            show F (u + n) < F x
            omega
        · have e : stepR (some t) (F (u + n), u + n) = some t := if_neg z
          rw [e]
          refine ⟨a1, by omega, a3, a4, fun x h1 h2 h3 => ?_, a6⟩
          by_cases y : x = u + n
          · subst y; omega
          · exact a5 x h1 (by omega) h3
    · have c' : ¬ P (u + n) := fun z => c ((hp _).mpr z)
      have e : [u + (n : Int)].filter p = [] := by simp [c]
      rw [e]
      show Due F P u (u + n) (List.foldl stepR none _)
      cases hq : List.foldl stepR none (((rngI u n).filter p).map fun x => (F x, x)) with
      | none =>
        rw [hq] at ih
        intro x h1 h2 h3
        by_cases z : x = u + n
        · subst z; exact c' h3
        · exact ih x h1 (by omega) h3
      | some t =>
        rw [hq] at ih
        obtain ⟨a1, a2, a3, a4, a5, a6⟩ := ih
        refine ⟨a1, by omega, a3, a4, fun x h1 h2 h3 => ?_, a6⟩
        by_cases z : x = u + n
        · subst z; exact absurd h3 c'
        · exact a5 x h1 (by omega) h3
theorem optD_ok {o : Option (Int × Int)} : eqOk (optD o) (optD o) ∧ D.eqb (optD o) (optD o) = true := by
  cases o with
  | none => exact ⟨⟨rfl, rfl⟩, rfl⟩
  | some p =>
    refine ⟨⟨rfl, rfl⟩, ?_⟩
    show (D.eqb (.int p.1) (.int p.1) && (D.eqb (.int p.2) (.int p.2) && true)) = true
    rw [eq_int rfl, eq_int rfl]; rfl
theorem ne_opt {o : Option (Int × Int)} {A B : Prop} (h : B) : eqOk (optD o) (optD o) ∧ if (!D.eqb (optD o) (optD o)) = true then A else B := by
  refine ⟨optD_ok.1, ?_⟩
  rw [optD_ok.2]
  exact h
/-- the program's answer is what is due -/
theorem due_ans {F : Int → Int} {P : Int → Prop} {u v : Int} {o : Option (Int × Int)} {h : AH} {K : D → AH → Prop} (d : Due F P u v o) (k : K (optD o) h) : ((∀ x, u ≤ x → x ≤ v → ¬ P x) → K .non h) ∧ (∀ r n, Arg F P u v r n → K (.tup [.int r, .int n]) h) := by
  cases o with
  | none => exact ⟨fun _ => k, fun r n hA => absurd hA.2.2.1 (d n hA.1 hA.2.1)⟩
  | some p =>
    refine ⟨fun z => absurd d.2.2.1 (z p.2 d.1 d.2.1), fun r n hA => ?_⟩
    obtain ⟨e1, e2⟩ := Arg.uniq d hA
    rw [← e1, ← e2]
    exact k
theorem loopC_rows {step : D → AH → (Option D → AH → Prop) → Prop} {g : Int × Int → Int × Int} {h : AH} {l : List (Int × Int)} {K : List D → AH → Prop} (hs : ∀ p ∈ l, ∀ K : Option D → AH → Prop, K (some (rowD (g p))) h → step (rowD p) h K) (hl : l.length ≤ SL) (q : K ((l.map g).map rowD) h) : loopC step (l.map rowD) [] h K := by
  refine loopC_map (g := fun d => rowD (g (unrow d))) (fun d hd K k => ?_) (by rw [List.length_map]; show 0 + _ ≤ SL; omega) ?_
  · obtain ⟨p, hp, rfl⟩ := List.mem_map.mp hd
    exact hs p hp K k
  · rw [List.nil_append, List.map_map]
    rw [List.map_map] at q
    exact q
theorem loopC_rowsI {step : D → AH → (Option D → AH → Prop) → Prop} {g : Int → Int × Int} {h : AH} {l : List Int} {K : List D → AH → Prop} (hs : ∀ i ∈ l, ∀ K : Option D → AH → Prop, K (some (rowD (g i))) h → step (.int i) h K) (hl : l.length ≤ SL) (q : K ((l.map g).map rowD) h) : loopC step (l.map .int) [] h K := by
  refine loopC_map (g := fun d => match d with | .int i => rowD (g i) | d => d) (fun d hd K k => ?_) (by rw [List.length_map]; show 0 + _ ≤ SL; omega) ?_
  · obtain ⟨i, hi, rfl⟩ := List.mem_map.mp hd
    exact hs i hi K k
  · rw [List.nil_append, List.map_map]
    rw [List.map_map] at q
    exact q
theorem loopC_rowsF {step : D → AH → (Option D → AH → Prop) → Prop} {p : Int × Int → Bool} {h : AH} : ∀ {l : List (Int × Int)} {acc : List (Int × Int)} {K : List D → AH → Prop}, (∀ i ∈ l, ∀ K : Option D → AH → Prop, (if p i = true then K (some (rowD i)) h else K none h) → step (rowD i) h K) → acc.length + l.length ≤ SL → K ((acc ++ l.filter p).map rowD) h → loopC step (l.map rowD) (acc.map rowD) h K
  | [], acc, K, _, _, q => by
    show K (acc.map rowD) h
    simpa using q
  | i :: r, acc, K, hs, hl, q => by
    rw [List.length_cons] at hl
    refine hs i List.mem_cons_self _ ?_
    by_cases c : p i = true
    · rw [if_pos c]
      refine ⟨by rw [List.length_map]; omega, ?_⟩
      have e : acc.map rowD ++ [rowD i] = (acc ++ [i]).map rowD := by rw [List.map_append]; rfl
      rw [e]
      refine loopC_rowsF (fun i hi => hs i (List.mem_cons_of_mem _ hi)) (by rw [List.length_append, List.length_singleton]; omega) ?_
      rw [List.filter_cons, if_pos c] at q
      rw [List.append_assoc]
      exact q
    · rw [if_neg c]
      refine loopC_rowsF (fun i hi => hs i (List.mem_cons_of_mem _ hi)) (by omega) ?_
      rw [List.filter_cons, if_neg c] at q
      exact q
theorem due_all {F : Int → Int} {u : Int} {n : Nat} : Due F TT1 u (u + n - 1) (firstR ((rngI u n).map fun x => (F x, x))) := by
  have := due_rows (F := F) (P := TT1) (fun _ => true) (fun _ => ⟨fun _ => trivial, fun _ => rfl⟩) (u := u) (n := n)
  have e : (rngI u n).filter (fun _ => true) = rngI u n := List.filter_eq_self.mpr fun _ _ => rfl
  rw [e] at this
  exact this
theorem due_turn {F : Int → Int} {u v m : Int} {o : Option (Int × Int)} {h : AH} {K : D → AH → Prop} (d : Due (fun x => m - F x) TT1 u v o) (k : K (optD (o.map fun p => (m - p.1, p.2))) h) : (v < u → K .non h) ∧ (∀ r n, Arg (fun x => -(F x)) TT1 u v (-r) n → K (.tup [.int r, .int n]) h) := by
  cases o with
  | none =>
    refine ⟨fun _ => k, fun r n hA => absurd trivial (d n hA.1 hA.2.1)⟩
  | some p =>
    obtain ⟨a1, a2, a3, a4, a5, a6⟩ := d
    have a4 : m - F p.2 = p.1 := a4
    refine ⟨fun z => by omega, fun r n hA => ?_⟩
    have hB : Arg (fun x => -(F x)) TT1 u v (-(m - p.1)) p.2 := ⟨a1, a2, trivial, by show -(F p.2) = _; omega, fun x h1 h2 _ => by have q : p.1 ≤ m - F x := a5 x h1 h2 trivial; show _ ≤ -(F x); omega, fun x h1 h2 _ => by have q : p.1 < m - F x := a6 x h1 h2 trivial; show _ < -(F x); omega⟩
    obtain ⟨e1, e2⟩ := Arg.uniq hB hA
    have e3 : r = m - p.1 := by omega
    rw [e3, ← e2]
    exact k
theorem rng_len {u : Int} {n : Nat} : (rngI u n).length = n := by unfold rngI; rw [List.length_map, List.length_range]
end FF

namespace FF
theorem CN_cut {u c v a b m k : Int} (h1 : u - 1 ≤ c) (h2 : c ≤ v) : CN u c a b m k + CN (c + 1) v a b m k = CN u v a b m k := by
  unfold CN
  have e : (v - u + 1).toNat = (c - u + 1).toNat + (v - (c + 1) + 1).toNat := by omega
  rw [e, sumI_append]
  congr 1
  refine sumI_congr fun i _ => ?_
  have : (((c - u + 1).toNat + i : Nat) : Int) = c - u + 1 + i := by omega
  rw [this, show u + (c - u + 1 + (i : Int)) = c + 1 + i by omega]
/-- counts over a range and another one that runs beside it -/
theorem CN_eq {u v u' v' a b a' b' m k k' : Int} (hn : v - u = v' - u') (h : ∀ i : Int, 0 ≤ i → i ≤ v - u → ((a * (u + i) + b) % m ≤ k ↔ (a' * (u' + i) + b') % m ≤ k')) : CN u v a b m k = CN u' v' a' b' m k' := by
  unfold CN
  rw [show (v' - u' + 1).toNat = (v - u + 1).toNat by omega]
  refine sumI_congr fun i hi => ?_
  have q := h i (by omega) (by omega)
  unfold ind
  by_cases c : (a * (u + (i : Int)) + b) % m ≤ k
  · rw [if_pos c, if_pos (q.mp c)]
  · rw [if_neg c, if_neg (fun z => c (q.mpr z))]
/-- .. or against it -/
theorem CN_rev {u v u' v' a b a' b' m k k' : Int} (hn : v - u = v' - u') (h : ∀ i : Int, 0 ≤ i → i ≤ v - u → ((a * (u + i) + b) % m ≤ k ↔ (a' * (v' - i) + b') % m ≤ k')) : CN u v a b m k = CN u' v' a' b' m k' := by
  unfold CN
  rw [show (v' - u' + 1).toNat = (v - u + 1).toNat by omega, sumI_rev (n := (v - u + 1).toNat) (f := fun i => ind ((a' * (u' + (i : Int)) + b') % m ≤ k'))]
  refine sumI_congr fun i hi => ?_
  have q := h i (by omega) (by omega)
  have e : u' + (((v - u + 1).toNat - 1 - i : Nat) : Int) = v' - i := by omega
  rw [e]
  unfold ind
  by_cases c : (a * (u + (i : Int)) + b) % m ≤ k
  · rw [if_pos c, if_pos (q.mp c)]
  · rw [if_neg c, if_neg (fun z => c (q.mpr z))]
/-- those of a band and those beside it are all -/
theorem CN_rest {u v a b m k : Int} {a' b' k' : Int} (hn : u - 1 ≤ v) (h : ∀ x : Int, ((a * x + b) % m ≤ k ↔ ¬ (a' * x + b') % m ≤ k')) : CN u v a b m k + CN u v a' b' m k' = v - u + 1 := by
  unfold CN
  rw [← sumI_add]
  have : ∀ i : Nat, i < (v - u + 1).toNat → ind ((a * (u + (i : Int)) + b) % m ≤ k) + ind ((a' * (u + (i : Int)) + b') % m ≤ k') = 1 := fun i _ => by
    have q := h (u + i)
    unfold ind
    by_cases c : (a * (u + (i : Int)) + b) % m ≤ k
    · rw [if_pos c, if_neg (q.mp c)]; rfl
    · rw [if_neg c, if_pos (Classical.byContradiction fun z => c (q.mpr z))]; rfl
  rw [sumI_congr this, sumI_const]
  omega
end FF

namespace FF
def k_l_drawn_1 : Ss := .cons (.ret (.tup (.cons (.var 3) (.cons (.var 4) (.cons (.bin .add (.var 4) (.call 1000 (.cons (.var 0) (.cons (.var 1) .nil)) [])) (.cons (.var 5) (.cons (.var 6) .nil))))))) .nil
def k_l_drawn_2 : Ss := .cons (.set 6 (.call 1001 (.cons (.var 0) (.cons (.lst (.cons (.call 1000 (.cons (.var 0) (.cons (.var 2) .nil)) []) (.cons (.bin .mod (.bi .int (.cons (.bin .add (.var 5) (.bin .fdiv (.var 2) (.int 50))) .nil)) (.var 2)) (.cons (.var 5) .nil)))) .nil)) [])) k_l_drawn_1
def k_l_drawn_3 : Ss := .cons (.set 5 (.call 1000 (.cons (.var 0) (.cons (.var 2) .nil)) [])) k_l_drawn_2
def k_l_drawn_4 : Ss := .cons (.set 4 (.bin .sub (.call 1000 (.cons (.var 0) (.cons (.var 1) .nil)) []) (.bin .fdiv (.var 1) (.int 2)))) k_l_drawn_3
def k_l_drawn_5 : Ss := .cons (.set 3 (.tup (.cons (.bin .sub (.call 1000 (.cons (.var 0) (.cons (.var 1) .nil)) []) (.bin .fdiv (.var 1) (.int 2))) (.cons (.bin .sub (.call 1000 (.cons (.var 0) (.cons (.var 1) .nil)) []) (.bin .fdiv (.var 1) (.int 2))) (.cons (.var 2) .nil))))) k_l_drawn_4
def k_l_drawn_6 : Ss := .cons (.set 2 (.bin .add (.int 1) (.call 1000 (.cons (.var 0) (.cons (.call 1001 (.cons (.var 0) (.cons (.lst (.cons (.int 60) (.cons (.var 1) (.cons (.bin .pow (.int 10) (.int 40)) .nil)))) .nil)) []) .nil)) []))) k_l_drawn_5
def k_l_drawn_7 : Ss := .cons (.set 1 (.call 1001 (.cons (.var 0) (.cons (.lst (.cons (.int 60) (.cons (.bin .pow (.int 10) (.int 12)) (.cons (.bin .pow (.int 10) (.int 40)) .nil)))) .nil)) [])) k_l_drawn_6
def ir_l_drawn : Fd := ⟨1, 7, k_l_drawn_7⟩
def k_l_counts_right_1 : Ss := .cons (.ret (.cmp .eq (.call 14 (.cons (.tup (.cons (.bin .sub (.int 0) (.var 7)) (.cons (.bin .sub (.bin .sub (.int 0) (.var 8)) (.int 1)) (.cons (.var 9) .nil)))) (.cons (.var 3) (.cons (.var 4) (.cons (.bin .sub (.bin .sub (.var 9) (.int 1)) (.var 6)) (.cons (.bin .sub (.bin .sub (.var 9) (.int 1)) (.var 5)) .nil))))) []) (.var 10))) .nil
def k_l_counts_right_2 : Ss := .cons (.ite (.cmp .ne (.call 14 (.cons (.tup (.cons (.bin .add (.var 7) (.bin .mul (.var 9) (.var 16))) (.cons (.bin .sub (.var 8) (.bin .mul (.var 9) (.var 15))) (.cons (.var 9) .nil)))) (.cons (.var 3) (.cons (.var 4) (.cons (.var 5) (.cons (.var 6) .nil))))) []) (.var 10)) (.cons (.ret (.bl false)) .nil) .nil) k_l_counts_right_1
def k_l_counts_right_3 : Ss := .cons (.ite (.cmp .ne (.call 14 (.cons (.tup (.cons (.bin .sub (.int 0) (.var 7)) (.cons (.var 8) (.cons (.var 9) .nil)))) (.cons (.bin .sub (.int 0) (.var 4)) (.cons (.bin .sub (.int 0) (.var 3)) (.cons (.var 5) (.cons (.var 6) .nil))))) []) (.var 10)) (.cons (.ret (.bl false)) .nil) .nil) k_l_counts_right_2
def k_l_counts_right_4 : Ss := .cons (.ite (.cmp .ne (.call 14 (.cons (.tup (.cons (.var 7) (.cons (.bin .sub (.var 8) (.bin .mul (.var 7) (.var 15))) (.cons (.var 9) .nil)))) (.cons (.bin .add (.var 3) (.var 15)) (.cons (.bin .add (.var 4) (.var 15)) (.cons (.var 5) (.cons (.var 6) .nil))))) []) (.var 10)) (.cons (.ret (.bl false)) .nil) .nil) k_l_counts_right_3
def k_l_counts_right_5 : Ss := .cons (.setP 15 16 (.call 1000 (.cons (.var 0) (.cons (.bin .pow (.int 10) (.int 9)) .nil)) []) (.bin .sub (.call 1000 (.cons (.var 0) (.cons (.int 99) .nil)) []) (.int 49))) k_l_counts_right_4
def k_l_counts_right_6 : Ss := .cons (.ite (.ands (.cons (.cmp .ne (.bin .mod (.bi .int (.cons (.bin .add (.var 6) (.int 1)) .nil)) (.var 9)) (.var 5)) (.cons (.cmp .ne (.bin .add (.var 10) (.var 14)) (.bin .add (.bin .sub (.var 4) (.var 3)) (.int 1))) .nil))) (.cons (.ret (.bl false)) .nil) .nil) k_l_counts_right_5
def k_l_counts_right_7 : Ss := .cons (.set 14 (.call 14 (.cons (.var 2) (.cons (.var 3) (.cons (.var 4) (.cons (.bin .mod (.bi .int (.cons (.bin .add (.var 6) (.int 1)) .nil)) (.var 9)) (.cons (.bin .mod (.bi .int (.cons (.bin .sub (.var 5) (.int 1)) .nil)) (.var 9)) .nil))))) [])) k_l_counts_right_6
def k_l_counts_right_8 : Ss := .cons (.ite (.cmp .ne (.bi .sum (.cons (.var 12) .nil)) (.var 10)) (.cons (.ret (.bl false)) .nil) .nil) k_l_counts_right_7
def k_l_counts_right_9 : Ss := .cons (.setC 12 (.comp (.name 13) (.seq (.tup (.cons (.tup (.cons (.var 3) (.cons (.var 11) .nil))) (.cons (.tup (.cons (.bin .add (.var 11) (.int 1)) (.cons (.var 4) .nil))) .nil)))) .nil (.call 14 (.cons (.var 2) (.cons (.idx (.var 13) (.int 0)) (.cons (.idx (.var 13) (.int 1)) (.cons (.var 5) (.cons (.var 6) .nil))))) []) [13])) k_l_counts_right_8
def k_l_counts_right_10 : Ss := .cons (.setP 10 11 (.call 14 (.cons (.var 2) (.cons (.var 3) (.cons (.var 4) (.cons (.var 5) (.cons (.var 6) .nil))))) []) (.bin .add (.var 3) (.call 1000 (.cons (.var 0) (.cons (.bin .add (.bin .sub (.var 4) (.var 3)) (.int 1)) .nil)) []))) k_l_counts_right_9
def k_l_counts_right_11 : Ss := .cons (.setT (.cons (.name 7) (.cons (.name 8) (.cons (.name 9) .nil))) (.var 2)) k_l_counts_right_10
def k_l_counts_right_12 : Ss := .cons (.setT (.cons (.name 2) (.cons (.name 3) (.cons (.name 4) (.cons (.name 5) (.cons (.name 6) .nil))))) (.var 1)) k_l_counts_right_11
def ir_l_counts_right : Fd := ⟨2, 17, k_l_counts_right_12⟩
def k_l_places_right_1 : Ss := .cons (.ret (.cmp .eq (.bin .add (.var 8) (.lst (.cons (.call 15 (.cons (.var 2) (.cons (.var 3) (.cons (.var 4) (.cons (.var 5) (.cons (.var 6) .nil))))) []) .nil))) (.lst (.cons .non (.cons .non .nil))))) .nil
def k_l_places_right_2 : Ss := .cons (.set 8 (.lst (.cons (.call 16 (.cons (.var 2) (.cons (.var 3) (.cons (.var 4) (.cons (.var 5) (.cons (.var 6) .nil))))) []) .nil))) k_l_places_right_1
def k_l_places_right_3 : Ss := .cons (.ret (.cmp .eq (.call 15 (.cons (.var 2) (.cons (.var 3) (.cons (.var 10) (.cons (.var 5) (.cons (.var 6) .nil))))) []) (.var 10))) .nil
def k_l_places_right_4 : Ss := .cons (.ite (.cmp .ne (.call 16 (.cons (.var 2) (.cons (.var 10) (.cons (.var 4) (.cons (.var 5) (.cons (.var 6) .nil))))) []) (.var 10)) (.cons (.ret (.bl false)) .nil) .nil) k_l_places_right_3
def k_l_places_right_5 : Ss := .cons (.ite (.cmp .ne (.call 14 (.cons (.var 2) (.cons (.var 10) (.cons (.var 10) (.cons (.var 5) (.cons (.var 6) .nil))))) []) (.int 1)) (.cons (.ret (.bl false)) .nil) .nil) k_l_places_right_4
def k_l_places_right_6 : Ss := .cons (.ite (.ors (.cons (.not (.chain .le .le (.var 3) (.var 10) (.var 4))) (.cons (.cmp .ne (.call 14 (.cons (.var 2) (.cons (.var 3) (.cons (.var 10) (.cons (.var 5) (.cons (.var 6) .nil))))) []) (.bin .add (.var 9) (.int 1))) .nil))) (.cons (.ret (.bl false)) .nil) .nil) k_l_places_right_5
def k_l_places_right_7 : Ss := .cons (.set 10 (.call 17 (.cons (.var 2) (.cons (.var 3) (.cons (.var 4) (.cons (.var 5) (.cons (.var 6) (.cons (.var 9) .nil)))))) [])) k_l_places_right_6
def k_l_places_right_8 : Ss := .cons (.set 9 (.call 1001 (.cons (.var 0) (.cons (.lst (.cons (.int 0) (.cons (.bin .sub (.var 7) (.int 1)) (.cons (.call 1000 (.cons (.var 0) (.cons (.var 7) .nil)) []) .nil)))) .nil)) [])) k_l_places_right_7
def k_l_places_right_9 : Ss := .cons (.ite (.cmp .eq (.var 7) (.int 0)) k_l_places_right_2 .nil) k_l_places_right_8
def k_l_places_right_10 : Ss := .cons (.set 7 (.call 14 (.cons (.var 2) (.cons (.var 3) (.cons (.var 4) (.cons (.var 5) (.cons (.var 6) .nil))))) [])) k_l_places_right_9
def k_l_places_right_11 : Ss := .cons (.setT (.cons (.name 2) (.cons (.name 3) (.cons (.name 4) (.cons (.name 5) (.cons (.name 6) .nil))))) (.var 1)) k_l_places_right_10
def ir_l_places_right : Fd := ⟨2, 11, k_l_places_right_11⟩
def k_l_ends_right_1 : Ss := .cons (.ite (.cmp .ne (.bi .min (.cons (.bi .abs (.cons (.bin .sub (.var 13) (.var 5)) .nil)) (.cons (.bin .sub (.var 7) (.bi .abs (.cons (.bin .sub (.var 13) (.var 5)) .nil))) .nil))) (.idx (.var 12) (.int 0))) (.cons (.ret (.bl false)) .nil) .nil) .nil
def k_l_ends_right_2 : Ss := .cons (.set 13 (.bin .mod (.bi .int (.cons (.bin .add (.bin .mul (.idx (.var 2) (.int 0)) (.idx (.var 12) (.int 1))) (.idx (.var 2) (.int 1))) .nil)) (.var 7))) k_l_ends_right_1
def k_l_ends_right_3 : Ss := .cons (.ret (.ors (.cons (.cmp .isn (.var 11) .non) (.cons (.cmp .eq (.call 14 (.cons (.var 2) (.cons (.var 3) (.cons (.var 4) (.cons (.var 5) (.cons (.var 5) .nil))))) []) (.bin .add (.bin .sub (.var 4) (.var 3)) (.int 1))) .nil)))) .nil
def k_l_ends_right_4 : Ss := .cons (.ite (.ands (.cons (.cmp .gt (.idx (.var 10) (.int 0)) (.int 0)) (.cons (.cmp .ne (.call 14 (.cons (.var 2) (.cons (.var 3) (.cons (.var 4) (.cons (.idx (.var 14) (.int 0)) (.cons (.idx (.var 14) (.int 1)) .nil))))) []) (.int 0)) .nil))) (.cons (.ret (.bl false)) .nil) .nil) k_l_ends_right_3
def k_l_ends_right_5 : Ss := .cons (.set 14 (.lst (.cons (.bin .mod (.bi .int (.cons (.bin .add (.bin .sub (.var 5) (.idx (.var 10) (.int 0))) (.int 1)) .nil)) (.var 7)) (.cons (.bin .mod (.bi .int (.cons (.bin .sub (.bin .add (.var 5) (.idx (.var 10) (.int 0))) (.int 1)) .nil)) (.var 7)) .nil)))) k_l_ends_right_4
def k_l_ends_right_6 : Ss := .cons (.for_ (.name 12) (.seq (.bin .add (.lst (.cons (.var 10) .nil)) (.bin .mul (.lst (.cons (.var 11) .nil)) (.bi .int (.cons (.cmp .isn (.var 11) .non) .nil))))) k_l_ends_right_2) k_l_ends_right_5
def k_l_ends_right_7 : Ss := .cons (.ite (.ands (.cons (.cmp .gt (.idx (.var 10) (.int 0)) (.int 0)) (.cons (.cmp .ne (.var 11) (.var 10)) .nil))) (.cons (.ret (.bl false)) .nil) .nil) k_l_ends_right_6
def k_l_ends_right_8 : Ss := .cons (.set 11 (.callk 22 (.cons (.var 2) (.cons (.var 3) (.cons (.var 4) (.cons (.var 5) .nil)))) (.cons (.bl true) .nil) [0, 1, 2, 3, 4])) k_l_ends_right_7
def k_l_ends_right_9 : Ss := .cons (.set 10 (.call 22 (.cons (.var 2) (.cons (.var 3) (.cons (.var 4) (.cons (.var 5) .nil)))) [(.bl false)])) k_l_ends_right_8
def k_l_ends_right_10 : Ss := .cons (.ite (.cmp .ne (.call 14 (.cons (.var 2) (.cons (.var 3) (.cons (.var 4) (.cons (.idx (.var 8) (.int 0)) (.cons (.idx (.var 9) (.int 0)) .nil))))) []) (.bin .add (.bin .sub (.var 4) (.var 3)) (.int 1))) (.cons (.ret (.bl false)) .nil) .nil) k_l_ends_right_9
def k_l_ends_right_11 : Ss := .cons (.ite (.cmp .ne (.call 16 (.cons (.var 2) (.cons (.var 3) (.cons (.var 4) (.cons (.idx (.var 9) (.int 0)) (.cons (.bin .sub (.var 7) (.int 1)) .nil))))) []) (.idx (.var 9) (.int 1))) (.cons (.ret (.bl false)) .nil) .nil) k_l_ends_right_10
def k_l_ends_right_12 : Ss := .cons (.ite (.cmp .ne (.call 16 (.cons (.var 2) (.cons (.var 3) (.cons (.var 4) (.cons (.int 0) (.cons (.idx (.var 8) (.int 0)) .nil))))) []) (.idx (.var 8) (.int 1))) (.cons (.ret (.bl false)) .nil) .nil) k_l_ends_right_11
def k_l_ends_right_13 : Ss := .cons (.set 9 (.call 21 (.cons (.var 2) (.cons (.var 3) (.cons (.var 4) .nil))) [])) k_l_ends_right_12
def k_l_ends_right_14 : Ss := .cons (.set 8 (.call 19 (.cons (.var 2) (.cons (.var 3) (.cons (.var 4) .nil))) [])) k_l_ends_right_13
def k_l_ends_right_15 : Ss := .cons (.set 7 (.idx (.var 2) (.int 2))) k_l_ends_right_14
def k_l_ends_right_16 : Ss := .cons (.setT (.cons (.name 2) (.cons (.name 3) (.cons (.name 4) (.cons (.name 5) (.cons (.name 6) .nil))))) (.var 1)) k_l_ends_right_15
def ir_l_ends_right : Fd := ⟨2, 15, k_l_ends_right_16⟩
def k_law_1 : Ss := .cons (.ite (.not (.call 1013 (.cons (.var 2) (.cons (.var 3) .nil)) [])) (.cons (.ret (.bl false)) .nil) .nil) .nil
def k_law_2 : Ss := .cons (.ite (.ors (.cons (.not (.call 1012 (.cons (.var 2) (.cons (.var 3) .nil)) [])) (.cons (.not (.call 1011 (.cons (.var 2) (.cons (.var 3) .nil)) [])) .nil))) (.cons (.ret (.bl false)) .nil) .nil) k_law_1
def k_law_3 : Ss := .cons (.set 3 (.call 1010 (.cons (.var 2) .nil) [])) k_law_2
def k_law_4 : Ss := .cons (.set 2 (.call 1003 (.cons (.var 1) .nil) [])) k_law_3
def k_law_5 : Ss := .cons (.ret (.bl true)) .nil
def k_law_6 : Ss := .cons (.for_ (.name 1) (.seq (.call 1002 (.cons (.var 0) (.cons (.int 2) .nil)) [])) k_law_4) k_law_5
def ir_law : Fd := ⟨1, 4, k_law_6⟩
end FF

namespace FF
theorem tens21 : (10 : Int) ^ Int.toNat 12 = 1000000000000 ∧ (10 : Int) ^ Int.toNat 40 = 10000000000000000000000000000000000000000 ∧ (10 : Int) ^ Int.toNat 9 = 1000000000 := by decide +kernel
def Big : Int := 30000000000000000000000000000000000000000
theorem szB {i : Int} (h1 : -Big ≤ i) (h2 : i ≤ Big) : Sz 136 i := by
  unfold Sz
  have e : ((2 ^ 136 : Nat) : Int) = 2 ^ 136 := by decide +kernel
  have big : (30000000000000000000000000000000000000000 : Int) < 2 ^ 136 := by decide +kernel
  unfold Big at *
  omega
/-- what is drawn for a turn -/
structure Dr (u v a b m l g : Int) : Prop where
  m0 : 0 < m
  l0 : 0 ≤ l
  l1 : l < m
  g0 : 0 ≤ g
  g1 : g < m
  uv : u ≤ v
  ma : -Big ≤ a ∧ a ≤ Big
  mb : -Big ≤ b ∧ b ≤ Big
  mm : m ≤ Big
  mu : -Big ≤ u
  mv : v ≤ Big
def drD (u v a b m l g : Int) : D := .tup [.tup [.int a, .int b, .int m], .int u, .int v, .int l, .int g]
def sp_drawn : Spec := fun ds h Q _ => ∃ (w k : Nat), ds = [.ref w] ∧ Wel k h w ∧ k + 20 < 1073741824 ∧ ∀ u v a b m l g h', Dr u v a b m l g → Wel (k + 20) h' w → Fr w h h' → Q (drD u v a b m l g) h'
theorem three {x a b c : Int} (h : x ∈ [a, b, c]) : x = a ∨ x = b ∨ x = c := by
  rcases List.mem_cons.mp h with e | h
  · exact .inl e
  · rcases List.mem_cons.mp h with e | h
    · exact .inr (.inl e)
    · rcases List.mem_cons.mp h with e | h
      · exact .inr (.inr e)
      · cases h
theorem b_drawn {Γ : Gam} (hd : Γ.fn 1000 = sp_draw) (hp : Γ.fn 1001 = sp_pick) : BodyOk Γ ir_l_drawn sp_drawn := by
  rintro ds h Q R ⟨w, k, rfl, hw, hk, q⟩
  refine ⟨rfl, ?_⟩
  show wpSs Γ ir_l_drawn.body [.val (.ref w), .un, .un, .un, .un, .un, .un] h _
  obtain ⟨t12, t40, t9⟩ := tens21
  have p2 : (0 : Int) < 2 := by decide
  have p50 : (0 : Int) < 50 := by decide
  have bB : ∀ i : Int, -Big ≤ i → i ≤ Big → bitsI i ≤ 9000 := fun i h1 h2 => Nat.le_trans (bitsI_le (szB h1 h2)) (by decide)
  have eB : Big = 30000000000000000000000000000000000000000 := rfl
  simp only [ir_l_drawn, k_l_drawn_7, wpSs, wpS, wpE, wpEs, wpAnd, wpOr, wpI, wpF, wpT, wpH, Env.at, Env.put, Env.wipe, Env.nox, Slot.nox, wBin, binI, wCmp, cmpI, wBi, isTy, asL, asLT, bindT, bindTs, intsOf, boolsOf, ixL0, ixL1, ixL2, List.getElem?_cons_zero, List.getElem?_cons_succ, List.nil_append, List.cons_append, List.append_nil, if_true, ite_true, hp, t12, t40]
  refine ⟨by decide, by decide, (show 3 ≤ SL by decide), w, [60, 1000000000000, 10000000000000000000000000000000000000000], k, rfl, (show 0 < 3 by decide), (show 3 < 1000 by decide), hw, by omega, fun W h0 hW w0 f0 => ?_⟩
  have hW := three hW
  simp only [k_l_drawn_6, wpSs, wpS, wpE, wpEs, wpAnd, wpOr, wpI, wpF, wpT, wpH, Env.at, Env.put, Env.wipe, Env.nox, Slot.nox, wBin, binI, wCmp, cmpI, wBi, isTy, asL, asLT, bindT, bindTs, intsOf, boolsOf, ixL0, ixL1, ixL2, List.getElem?_cons_zero, List.getElem?_cons_succ, List.nil_append, List.cons_append, List.append_nil, if_true, ite_true, hp, hd, t40]
  refine ⟨by decide, (show 3 ≤ SL by decide), w, [60, W, 10000000000000000000000000000000000000000], k + 1, rfl, (show 0 < 3 by decide), (show 3 < 1000 by decide), w0, by omega, fun V h1 hV w1 f1 => ?_⟩
  have hV := three hV
  simp only [wpSs, wpS, wpE, wpEs, wpAnd, wpOr, wpI, wpF, wpT, wpH, Env.at, Env.put, Env.wipe, Env.nox, Slot.nox, wBin, binI, wCmp, cmpI, wBi, isTy, asL, asLT, bindT, bindTs, intsOf, boolsOf, ixL0, ixL1, ixL2, List.getElem?_cons_zero, List.getElem?_cons_succ, List.nil_append, List.cons_append, List.append_nil, if_true, ite_true, hd]
  refine ⟨w, _, k + 2, rfl, by omega, bB _ (by omega) (by omega), w1, by omega, fun x2 h2 l2 u2 w2 f2 => ?_⟩
  simp only [k_l_drawn_5, wpSs, wpS, wpE, wpEs, wpAnd, wpOr, wpI, wpF, wpT, wpH, Env.at, Env.put, Env.wipe, Env.nox, Slot.nox, wBin, binI, wCmp, cmpI, wBi, isTy, asL, asLT, bindT, bindTs, intsOf, boolsOf, ixL0, ixL1, ixL2, List.getElem?_cons_zero, List.getElem?_cons_succ, List.nil_append, List.cons_append, List.append_nil, if_true, ite_true, hd, fdiv_pos p2]
  refine ⟨w, _, k + 3, rfl, by omega, bB _ (by omega) (by omega), w2, by omega, fun x3 h3 l3 u3 w3 f3 => ?_⟩
  simp only [wpSs, wpS, wpE, wpEs, wpAnd, wpOr, wpI, wpF, wpT, wpH, Env.at, Env.put, Env.wipe, Env.nox, Slot.nox, wBin, binI, wCmp, cmpI, wBi, isTy, asL, asLT, bindT, bindTs, intsOf, boolsOf, ixL0, ixL1, ixL2, List.getElem?_cons_zero, List.getElem?_cons_succ, List.nil_append, List.cons_append, List.append_nil, if_true, ite_true, hd, fdiv_pos p2]
  refine ⟨⟨by decide, bits2⟩, w, _, k + 4, rfl, by omega, bB _ (by omega) (by omega), w3, by omega, fun x4 h4 l4 u4 w4 f4 => ?_⟩
  simp only [wpSs, wpS, wpE, wpEs, wpAnd, wpOr, wpI, wpF, wpT, wpH, Env.at, Env.put, Env.wipe, Env.nox, Slot.nox, wBin, binI, wCmp, cmpI, wBi, isTy, asL, asLT, bindT, bindTs, intsOf, boolsOf, ixL0, ixL1, ixL2, List.getElem?_cons_zero, List.getElem?_cons_succ, List.nil_append, List.cons_append, List.append_nil, if_true, ite_true, fdiv_pos p2]
  refine ⟨⟨by decide, bits2⟩, (show 3 ≤ SL by decide), ?_⟩
  simp only [k_l_drawn_4, wpSs, wpS, wpE, wpEs, wpAnd, wpOr, wpI, wpF, wpT, wpH, Env.at, Env.put, Env.wipe, Env.nox, Slot.nox, wBin, binI, wCmp, cmpI, wBi, isTy, asL, asLT, bindT, bindTs, intsOf, boolsOf, ixL0, ixL1, ixL2, List.getElem?_cons_zero, List.getElem?_cons_succ, List.nil_append, List.cons_append, List.append_nil, if_true, ite_true, hd, fdiv_pos p2]
  refine ⟨w, _, k + 5, rfl, by omega, bB _ (by omega) (by omega), w4, by omega, fun x5 h5 l5 u5 w5 f5 => ?_⟩
  simp only [wpSs, wpS, wpE, wpEs, wpAnd, wpOr, wpI, wpF, wpT, wpH, Env.at, Env.put, Env.wipe, Env.nox, Slot.nox, wBin, binI, wCmp, cmpI, wBi, isTy, asL, asLT, bindT, bindTs, intsOf, boolsOf, ixL0, ixL1, ixL2, List.getElem?_cons_zero, List.getElem?_cons_succ, List.nil_append, List.cons_append, List.append_nil, if_true, ite_true, fdiv_pos p2]
  refine ⟨⟨by decide, bits2⟩, ?_⟩
  have m0 : 0 < 1 + x2 := by omega
  simp only [k_l_drawn_3, wpSs, wpS, wpE, wpEs, wpAnd, wpOr, wpI, wpF, wpT, wpH, Env.at, Env.put, Env.wipe, Env.nox, Slot.nox, wBin, binI, wCmp, cmpI, wBi, isTy, asL, asLT, bindT, bindTs, intsOf, boolsOf, ixL0, ixL1, ixL2, List.getElem?_cons_zero, List.getElem?_cons_succ, List.nil_append, List.cons_append, List.append_nil, if_true, ite_true, hd]
  refine ⟨w, _, k + 6, rfl, m0, bB _ (by omega) (by omega), w5, by omega, fun l h6 l6 u6 w6 f6 => ?_⟩
  simp only [k_l_drawn_2, wpSs, wpS, wpE, wpEs, wpAnd, wpOr, wpI, wpF, wpT, wpH, Env.at, Env.put, Env.wipe, Env.nox, Slot.nox, wBin, binI, wCmp, cmpI, wBi, isTy, asL, asLT, bindT, bindTs, intsOf, boolsOf, ixL0, ixL1, ixL2, List.getElem?_cons_zero, List.getElem?_cons_succ, List.nil_append, List.cons_append, List.append_nil, if_true, ite_true, hd, hp]
  refine ⟨w, _, k + 7, rfl, m0, bB _ (by omega) (by omega), w6, by omega, fun x7 h7 l7 u7 w7 f7 => ?_⟩
  simp only [wpSs, wpS, wpE, wpEs, wpAnd, wpOr, wpI, wpF, wpT, wpH, Env.at, Env.put, Env.wipe, Env.nox, Slot.nox, wBin, binI, wCmp, cmpI, wBi, isTy, asL, asLT, bindT, bindTs, intsOf, boolsOf, ixL0, ixL1, ixL2, List.getElem?_cons_zero, List.getElem?_cons_succ, List.nil_append, List.cons_append, List.append_nil, if_true, ite_true, hp, fdiv_pos p50, fmod_pos m0]
  refine ⟨⟨by decide, by decide⟩, by omega, (show 3 ≤ SL by decide), w, [x7, (l + (1 + x2) / 50) % (1 + x2), l], k + 8, rfl, (show 0 < 3 by decide), (show 3 < 1000 by decide), w7, by omega, fun g h8 hg w8 f8 => ?_⟩
  have hg := three hg
  have e0 := Int.emod_nonneg (l + (1 + x2) / 50) (show 1 + x2 ≠ 0 by omega)
  have e1 := Int.emod_lt_of_pos (l + (1 + x2) / 50) m0
  simp only [k_l_drawn_1, wpSs, wpS, wpE, wpEs, wpAnd, wpOr, wpI, wpF, wpT, wpH, Env.at, Env.put, Env.wipe, Env.nox, Slot.nox, wBin, binI, wCmp, cmpI, wBi, isTy, asL, asLT, bindT, bindTs, intsOf, boolsOf, ixL0, ixL1, ixL2, List.getElem?_cons_zero, List.getElem?_cons_succ, List.nil_append, List.cons_append, List.append_nil, if_true, ite_true, hd]
  refine ⟨w, _, k + 9, rfl, by omega, bB _ (by omega) (by omega), w8, by omega, fun x9 h9 l9 u9 w9 f9 => ?_⟩
  refine ⟨(show 5 ≤ SL by decide), ?_⟩
  exact q _ _ _ _ _ _ _ _ ⟨m0, l6, u6, by omega, by omega, by omega, by omega, by omega, by omega, by omega, by omega⟩ (w9.mono (by omega)) (((((((((f0.trans f1).trans f2).trans f3).trans f4).trans f5).trans f6).trans f7).trans f8).trans f9)
theorem Dr.band {u v a b m l g : Int} (d : Dr u v a b m l g) : Band u v a b m l g :=
  ⟨d.m0, (szB d.mu (by have := d.uv; have := d.mv; omega)).mono (by decide), (szB (by have := d.uv; have := d.mu; omega) d.mv).mono (by decide), (szB d.ma.1 d.ma.2).mono (by decide), (szB d.mb.1 d.mb.2).mono (by decide),
    (szB (by have := d.m0; unfold Big; omega) d.mm).mono (by decide), (szB (by have := d.l0; unfold Big; omega) (by have := d.l1; have := d.mm; omega)).mono (by decide), (szB (by have := d.g0; unfold Big; omega) (by have := d.g1; have := d.mm; omega)).mono (by decide)⟩
def sp_counts : Spec := fun ds h Q _ => ∃ (w k : Nat) (u v a b m l g : Int), ds = [.ref w, drD u v a b m l g] ∧ Dr u v a b m l g ∧ Wel k h w ∧ k + 10 < 1073741824 ∧ ∀ h', Wel (k + 10) h' w → Fr w h h' → Q (.bl true) h'
/-- the count of a band -/
abbrev cnt (u v a b m l g : Int) : Int := CN u v a (b - l) m ((g - l) % m)
theorem cnt_shift {u v a b m l g t : Int} : cnt (u + t) (v + t) a (b - a * t) m l g = cnt u v a b m l g := by
  refine CN_eq (by omega) fun i _ _ => ?_
  have : a * (u + t + i) + (b - a * t - l) = a * (u + i) + (b - l) := by
    rw [show u + t + i = (u + i) + t by omega, Int.mul_add]; omega
  rw [this]
theorem cnt_turn {u v a b m l g : Int} : cnt (0 - v) (0 - u) (0 - a) b m l g = cnt u v a b m l g := by
  refine CN_rev (by omega) fun i _ _ => ?_
  have : (0 - a) * (0 - v + i) + (b - l) = a * (v - i) + (b - l) := by
    rw [show (0 : Int) - v + i = -(v - i) by omega, show (0 : Int) - a = -a by omega, Int.neg_mul_neg]
  rw [this]
theorem cnt_more {u v a b m l g t s : Int} : cnt u v (a + m * t) (b - m * s) m l g = cnt u v a b m l g := by
  refine CN_eq rfl fun i _ _ => ?_
  have : (a + m * t) * (u + i) + (b - m * s - l) = (a * (u + i) + (b - l)) + m * (t * (u + i) - s) := by
    rw [Int.add_mul, Int.mul_sub, Int.mul_assoc]; omega
  rw [this, Int.add_mul_emod_self_left]
theorem cnt_back {u v a b m l g : Int} (m0 : 0 < m) (l0 : 0 ≤ l) (l1 : l < m) (g0 : 0 ≤ g) (g1 : g < m) : cnt u v (0 - a) (0 - b - 1) m (m - 1 - g) (m - 1 - l) = cnt u v a b m l g := by
  refine CN_eq rfl fun i _ _ => ?_
  have r := res_neg (a := a) (b := b) (x := u + i) m0
  have q1 := isIn_eq (x := (0 - a) * (u + i) + (0 - b - 1)) (l := m - 1 - g) (g := m - 1 - l) m0 (by omega) (by omega) (by omega) (by omega)
  have q2 := isIn_eq (x := a * (u + i) + b) m0 l0 l1 g0 g1
  have rr := res_in (a := a) (b := b) (x := u + i) m0
  unfold res at r rr
  rw [r] at q1
  have e1 : (0 - a) * (u + i) + (0 - b - 1 - (m - 1 - g)) = (0 - a) * (u + i) + (0 - b - 1) - (m - 1 - g) := by omega
  have e2 : a * (u + i) + (b - l) = a * (u + i) + b - l := by omega
  rw [e1, e2]
  have k1 : ((0 - a) * (u + i) + (0 - b - 1) - (m - 1 - g)) % m ≤ (m - 1 - l - (m - 1 - g)) % m ↔ isIn (m - 1 - (a * (u + i) + b) % m) (m - 1 - g) (m - 1 - l) = true := by rw [q1]; simp
  have k2 : (a * (u + i) + b - l) % m ≤ (g - l) % m ↔ isIn ((a * (u + i) + b) % m) l g = true := by rw [q2]; simp
  rw [k1, k2]
  generalize (a * (u + i) + b) % m = r0 at *
  unfold isIn
  by_cases c : l ≤ g
  · rw [if_pos c, if_pos (show m - 1 - g ≤ m - 1 - l by omega)]
    simp only [decide_eq_true_eq]
    omega
  · rw [if_neg c, if_neg (show ¬ m - 1 - g ≤ m - 1 - l by omega)]
    simp only [decide_eq_true_eq]
    omega
theorem cnt_rest {u v a b m l g : Int} (m0 : 0 < m) (l0 : 0 ≤ l) (l1 : l < m) (g0 : 0 ≤ g) (g1 : g < m) (uv : u ≤ v) (h : (g + 1) % m ≠ l) : cnt u v a b m l g + cnt u v a b m ((g + 1) % m) ((l - 1) % m) = v - u + 1 := by
  refine CN_rest (by omega) fun x => ?_
  have n0 := Int.emod_nonneg (g + 1) (show m ≠ 0 by omega)
  have n1 := Int.emod_lt_of_pos (g + 1) m0
  have n2 := Int.emod_nonneg (l - 1) (show m ≠ 0 by omega)
  have n3 := Int.emod_lt_of_pos (l - 1) m0
  have q1 := isIn_eq (x := a * x + b) m0 l0 l1 g0 g1
  have q2 := isIn_eq (x := a * x + b) m0 n0 n1 n2 n3
  have e1 := mod_small (y := g + 1) (m := m) (by omega) (by omega)
  have e2 := mod_small (y := l - 1) (m := m) (by omega) (by omega)
  have rr := res_in (a := a) (b := b) (x := x) m0
  unfold res at rr
  rw [show a * x + (b - l) = a * x + b - l by omega, show a * x + (b - (g + 1) % m) = a * x + b - (g + 1) % m by omega]
  have k1 : (a * x + b - l) % m ≤ (g - l) % m ↔ isIn ((a * x + b) % m) l g = true := by rw [q1]; simp
  have k2 : (a * x + b - (g + 1) % m) % m ≤ ((l - 1) % m - (g + 1) % m) % m ↔ isIn ((a * x + b) % m) ((g + 1) % m) ((l - 1) % m) = true := by rw [q2]; simp
  rw [k1, k2]
  generalize (a * x + b) % m = r at *
  generalize (g + 1) % m = G at *
  generalize (l - 1) % m = L at *
  rw [if_neg (show ¬ g + 1 < 0 by omega)] at e1
  unfold isIn
  by_cases c1 : g + 1 < m
  · rw [if_pos c1] at e1
    by_cases c2 : l - 1 < 0
    · rw [if_pos c2] at e2
      by_cases c : l ≤ g
      · rw [if_pos c, if_pos (show G ≤ L by omega)]; simp only [decide_eq_true_eq]; omega
      · omega
    · rw [if_neg c2, if_pos (show l - 1 < m by omega)] at e2
      by_cases c : l ≤ g
      · rw [if_pos c, if_neg (show ¬ G ≤ L by omega)]; simp only [decide_eq_true_eq]; omega
      · rw [if_neg c, if_pos (show G ≤ L by omega)]; simp only [decide_eq_true_eq]; omega
  · rw [if_neg c1] at e1
    by_cases c2 : l - 1 < 0
    · omega
    · rw [if_neg c2, if_pos (show l - 1 < m by omega)] at e2
      by_cases c : l ≤ g
      · rw [if_pos c, if_pos (show G ≤ L by omega)]; simp only [decide_eq_true_eq]; omega
      · omega
theorem b_counts {Γ : Gam} (hd : Γ.fn 1000 = sp_draw) (g14 : Γ.fn 14 = sp_hits) : BodyOk Γ ir_l_counts_right sp_counts := by
  rintro ds h Q R ⟨w, k, u, v, a, b, m, l, g, rfl, d, hw, hk, q⟩
  refine ⟨rfl, ?_⟩
  show wpSs Γ ir_l_counts_right.body [.val (.ref w), .val (drD u v a b m l g), .un, .un, .un, .un, .un, .un, .un, .un, .un, .un, .un, .un, .un, .un, .un] h _
  have m0 := d.m0
  have uv := d.uv
  obtain ⟨m0, l0, l1, g0, g1, uv, ⟨a1, a2⟩, ⟨b1, b2⟩, mm, mu, mv⟩ := id d
  have eB : Big = 30000000000000000000000000000000000000000 := rfl
  obtain ⟨t12, t40, t9⟩ := tens21
  have sa := szB a1 a2
  have sb := szB b1 b2
  have sm := szB (show -Big ≤ m by omega) mm
  have ask : ∀ (u v a b m l g : Int), Band u v a b m l g → 0 ≤ l → l < m → 0 ≤ g → g < m → ∀ (h : AH) (K : D → AH → Prop) (RR : RE), K (.int (cnt u v a b m l g)) h → sp_hits [.tup [.int a, .int b, .int m], .int u, .int v, .int l, .int g] h K RR := fun u v a b m l g B h1 h2 h3 h4 h K RR kk => ⟨_, _, _, _, _, _, _, ⟨rfl, B, h1, h2, h3, h4⟩, kk⟩
  have B := d.band
  simp only [ir_l_counts_right, k_l_counts_right_12, wpSs, wpS, wpE, wpEs, wpAnd, wpOr, wpI, wpF, wpT, wpH, Env.at, Env.put, Env.wipe, Env.nox, Slot.nox, wBin, binI, wCmp, cmpI, wBi, isTy, asL, asLT, bindT, bindTs, intsOf, boolsOf, ixL0, ixL1, ixL2, List.getElem?_cons_zero, List.getElem?_cons_succ, List.nil_append, List.cons_append, List.append_nil, if_true, ite_true, drD]
  simp only [k_l_counts_right_11, wpSs, wpS, wpE, wpEs, wpAnd, wpOr, wpI, wpF, wpT, wpH, Env.at, Env.put, Env.wipe, Env.nox, Slot.nox, wBin, binI, wCmp, cmpI, wBi, isTy, asL, asLT, bindT, bindTs, intsOf, boolsOf, ixL0, ixL1, ixL2, List.getElem?_cons_zero, List.getElem?_cons_succ, List.nil_append, List.cons_append, List.append_nil, if_true, ite_true]
  simp only [k_l_counts_right_10, wpSs, wpS, wpE, wpEs, wpAnd, wpOr, wpI, wpF, wpT, wpH, Env.at, Env.put, Env.wipe, Env.nox, Slot.nox, wBin, binI, wCmp, cmpI, wBi, isTy, asL, asLT, bindT, bindTs, intsOf, boolsOf, ixL0, ixL1, ixL2, List.getElem?_cons_zero, List.getElem?_cons_succ, List.nil_append, List.cons_append, List.append_nil, if_true, ite_true, g14, hd]
  refine ask u v a b m l g B l0 l1 g0 g1 _ _ _ ?_
  refine ⟨w, _, k, rfl, by omega, Nat.le_trans (bitsI_le (Sz.mono ((szB (show -Big ≤ v by omega) mv).sub (szB mu (show u ≤ Big by omega)) |>.add (sz1.mono (show 1 ≤ 137 by decide))) (show 138 ≤ 9000 by decide))) (by decide), hw, by omega, fun x1 h1 l1' u1 w1 f1 => ?_⟩
  simp only [wpSs, wpS, wpE, wpEs, wpAnd, wpOr, wpI, wpF, wpT, wpH, Env.at, Env.put, Env.wipe, Env.nox, Slot.nox, wBin, binI, wCmp, cmpI, wBi, isTy, asL, asLT, bindT, bindTs, intsOf, boolsOf, ixL0, ixL1, ixL2, List.getElem?_cons_zero, List.getElem?_cons_succ, List.nil_append, List.cons_append, List.append_nil, if_true, ite_true]
  generalize hc : u + x1 = c at *
  have cc : u ≤ c ∧ c ≤ v := by omega
  simp only [k_l_counts_right_9, wpSs, wpS, wpE, wpEs, wpAnd, wpOr, wpI, wpF, wpT, wpH, Env.at, Env.put, Env.wipe, Env.nox, Slot.nox, wBin, binI, wCmp, cmpI, wBi, isTy, asL, asLT, bindT, bindTs, intsOf, boolsOf, ixL0, ixL1, ixL2, List.getElem?_cons_zero, List.getElem?_cons_succ, List.nil_append, List.cons_append, List.append_nil, if_true, ite_true, g14, loopC]
  have Bc : ∀ u' v', -(2 * Big) ≤ u' → u' ≤ 2 * Big → -(2 * Big) ≤ v' → v' ≤ 2 * Big → Band u' v' a b m l g := fun u' v' x1 x2 x3 x4 => by
    have z : ∀ i : Int, -(2 * Big) ≤ i → i ≤ 2 * Big → Sz 1700 i := fun i y1 y2 => by
      refine Sz.mono (show Sz 137 i from ?_) (by decide)
      unfold Sz
      have e : ((2 ^ 137 : Nat) : Int) = 2 ^ 137 := by decide +kernel
      have big : (60000000000000000000000000000000000000000 : Int) < 2 ^ 137 := by decide +kernel
      omega
    exact ⟨m0, z u' x1 x2, z v' x3 x4, B.sa, B.sb, B.sm, B.sl, B.sg⟩
  refine ⟨(show 2 ≤ SL by decide), (show 2 ≤ SL by decide), (show 2 ≤ SL by decide), ?_⟩
  refine ask u c a b m l g (Bc _ _ (by omega) (by omega) (by omega) (by omega)) l0 l1 g0 g1 _ _ _ ⟨(show 0 < SL by decide), ?_⟩
  refine ask (c + 1) v a b m l g (Bc _ _ (by omega) (by omega) (by omega) (by omega)) l0 l1 g0 g1 _ _ _ ⟨(show 1 < SL by decide), ?_⟩
  simp only [k_l_counts_right_8, wpSs, wpS, wpE, wpEs, wpAnd, wpOr, wpI, wpF, wpT, wpH, Env.at, Env.put, Env.wipe, Env.nox, Slot.nox, wBin, binI, wCmp, cmpI, wBi, isTy, asL, asLT, bindT, bindTs, intsOf, boolsOf, ixL0, ixL1, ixL2, List.getElem?_cons_zero, List.getElem?_cons_succ, List.nil_append, List.cons_append, List.append_nil, if_true, ite_true]
  refine ne_go ?_ ?_
  · show cnt u c a b m l g + (cnt (c + 1) v a b m l g + 0) = cnt u v a b m l g
    have := CN_cut (u := u) (c := c) (v := v) (a := a) (b := b - l) (m := m) (k := (g - l) % m) (by omega) (by omega)
    show CN u c a (b - l) m ((g - l) % m) + (CN (c + 1) v a (b - l) m ((g - l) % m) + 0) = CN u v a (b - l) m ((g - l) % m)
    omega
  simp only [k_l_counts_right_7, wpSs, wpS, wpE, wpEs, wpAnd, wpOr, wpI, wpF, wpT, wpH, Env.at, Env.put, Env.wipe, Env.nox, Slot.nox, wBin, binI, wCmp, cmpI, wBi, isTy, asL, asLT, bindT, bindTs, intsOf, boolsOf, ixL0, ixL1, ixL2, List.getElem?_cons_zero, List.getElem?_cons_succ, List.nil_append, List.cons_append, List.append_nil, if_true, ite_true, g14, fmod_pos m0]
  have n0 := Int.emod_nonneg (g + 1) (show m ≠ 0 by omega)
  have n1 := Int.emod_lt_of_pos (g + 1) m0
  have n2 := Int.emod_nonneg (l - 1) (show m ≠ 0 by omega)
  have n3 := Int.emod_lt_of_pos (l - 1) m0
  have zB : ∀ i : Int, -(2 * Big) ≤ i → i ≤ 2 * Big → Sz 137 i := fun i y1 y2 => by
    unfold Sz
    have e : ((2 ^ 137 : Nat) : Int) = 2 ^ 137 := by decide +kernel
    have big : (60000000000000000000000000000000000000000 : Int) < 2 ^ 137 := by decide +kernel
    omega
  have zB' : ∀ i : Int, -(2 * Big) ≤ i → i ≤ 2 * Big → Sz 1700 i := fun i y1 y2 => (zB i y1 y2).mono (by decide)
  refine ⟨by omega, by omega, ?_⟩
  refine ask u v a b m _ _ ⟨m0, B.su, B.sv, B.sa, B.sb, B.sm, zB' _ (by omega) (by omega), zB' _ (by omega) (by omega)⟩ n0 n1 n2 n3 _ _ _ ?_
  have rest : (g + 1) % m ≠ l → cnt u v a b m l g + cnt u v a b m ((g + 1) % m) ((l - 1) % m) = v - u + 1 := cnt_rest m0 l0 l1 g0 g1 uv
  simp only [k_l_counts_right_6, wpSs, wpS, wpE, wpEs, wpAnd, wpOr, wpI, wpF, wpT, wpH, Env.at, Env.put, Env.wipe, Env.nox, Slot.nox, wBin, binI, wCmp, cmpI, wBi, isTy, asL, asLT, bindT, bindTs, intsOf, boolsOf, ixL0, ixL1, ixL2, List.getElem?_cons_zero, List.getElem?_cons_succ, List.nil_append, List.cons_append, List.append_nil, if_true, ite_true, fmod_pos m0]
  refine ⟨by omega, ok_int, ?_⟩
  rw [eqb_ints]
  -- behind the test of the rest
  have go5 : wpSs Γ k_l_counts_right_5 [.val (.ref w), .val (.tup [.tup [.int a, .int b, .int m], .int u, .int v, .int l, .int g]), .val (.tup [.int a, .int b, .int m]), .val (.int u), .val (.int v), .val (.int l), .val (.int g), .val (.int a), .val (.int b), .val (.int m), .val (.int (cnt u v a b m l g)), .val (.int c), .val (.lst [.int (cnt u c a b m l g), .int (cnt (c + 1) v a b m l g)]), .un, .val (.int (cnt u v a b m ((g + 1) % m) ((l - 1) % m))), .un, .un] h1 ⟨fun _ h => Q .non h, Q, fun _ _ => False, fun x _ h => R x h⟩ := by
    simp only [k_l_counts_right_5, wpSs, wpS, wpE, wpEs, wpAnd, wpOr, wpI, wpF, wpT, wpH, Env.at, Env.put, Env.wipe, Env.nox, Slot.nox, wBin, binI, wCmp, cmpI, wBi, isTy, asL, asLT, bindT, bindTs, intsOf, boolsOf, ixL0, ixL1, ixL2, List.getElem?_cons_zero, List.getElem?_cons_succ, List.nil_append, List.cons_append, List.append_nil, if_true, ite_true, hd, t9]
    refine ⟨by decide, w, _, k + 1, rfl, by decide, by decide, w1, by omega, fun t h2 l2 u2 w2 f2 => ?_⟩
    simp only [wpSs, wpS, wpE, wpEs, wpAnd, wpOr, wpI, wpF, wpT, wpH, Env.at, Env.put, Env.wipe, Env.nox, Slot.nox, wBin, binI, wCmp, cmpI, wBi, isTy, asL, asLT, bindT, bindTs, intsOf, boolsOf, ixL0, ixL1, ixL2, List.getElem?_cons_zero, List.getElem?_cons_succ, List.nil_append, List.cons_append, List.append_nil, if_true, ite_true, hd]
    refine ⟨w, _, k + 2, rfl, by decide, by decide, w2, by omega, fun y h3 l3 u3 w3 f3 => ?_⟩
    have st : Sz 40 t := Sz.mono (show Sz 30 t by unfold Sz; omega) (by decide)
    have sy : Sz 40 (y - 49) := Sz.mono (show Sz 10 (y - 49) by unfold Sz; omega) (by decide)
    simp only [k_l_counts_right_4, wpSs, wpS, wpE, wpEs, wpAnd, wpOr, wpI, wpF, wpT, wpH, Env.at, Env.put, Env.wipe, Env.nox, Slot.nox, wBin, binI, wCmp, cmpI, wBi, isTy, asL, asLT, bindT, bindTs, intsOf, boolsOf, ixL0, ixL1, ixL2, List.getElem?_cons_zero, List.getElem?_cons_succ, List.nil_append, List.cons_append, List.append_nil, if_true, ite_true, g14]
    refine ⟨mul_ok sa st (by decide), (show 3 ≤ SL by decide), ?_⟩
    refine ask _ _ _ _ _ _ _ ⟨m0, zB' _ (by omega) (by omega), zB' _ (by omega) (by omega), B.sa, ((sb.mono (show 136 ≤ 176 by decide)).sub (sa.mul st)).mono (by decide), B.sm, B.sl, B.sg⟩ l0 l1 g0 g1 _ _ _ (ne_go cnt_shift ?_)
    simp only [k_l_counts_right_3, wpSs, wpS, wpE, wpEs, wpAnd, wpOr, wpI, wpF, wpT, wpH, Env.at, Env.put, Env.wipe, Env.nox, Slot.nox, wBin, binI, wCmp, cmpI, wBi, isTy, asL, asLT, bindT, bindTs, intsOf, boolsOf, ixL0, ixL1, ixL2, List.getElem?_cons_zero, List.getElem?_cons_succ, List.nil_append, List.cons_append, List.append_nil, if_true, ite_true, g14]
    refine ⟨(show 3 ≤ SL by decide), ?_⟩
    refine ask _ _ _ _ _ _ _ ⟨m0, zB' _ (by omega) (by omega), zB' _ (by omega) (by omega), zB' _ (by omega) (by omega), B.sb, B.sm, B.sl, B.sg⟩ l0 l1 g0 g1 _ _ _ (ne_go cnt_turn ?_)
    simp only [k_l_counts_right_2, wpSs, wpS, wpE, wpEs, wpAnd, wpOr, wpI, wpF, wpT, wpH, Env.at, Env.put, Env.wipe, Env.nox, Slot.nox, wBin, binI, wCmp, cmpI, wBi, isTy, asL, asLT, bindT, bindTs, intsOf, boolsOf, ixL0, ixL1, ixL2, List.getElem?_cons_zero, List.getElem?_cons_succ, List.nil_append, List.cons_append, List.append_nil, if_true, ite_true, g14]
    refine ⟨mul_ok sm sy (by decide), mul_ok sm st (by decide), (show 3 ≤ SL by decide), ?_⟩
    refine ask _ _ _ _ _ _ _ ⟨m0, B.su, B.sv, ((sa.mono (show 136 ≤ 176 by decide)).add (sm.mul sy)).mono (by decide), ((sb.mono (show 136 ≤ 176 by decide)).sub (sm.mul st)).mono (by decide), B.sm, B.sl, B.sg⟩ l0 l1 g0 g1 _ _ _ (ne_go cnt_more ?_)
    simp only [k_l_counts_right_1, wpSs, wpS, wpE, wpEs, wpAnd, wpOr, wpI, wpF, wpT, wpH, Env.at, Env.put, Env.wipe, Env.nox, Slot.nox, wBin, binI, wCmp, cmpI, wBi, isTy, asL, asLT, bindT, bindTs, intsOf, boolsOf, ixL0, ixL1, ixL2, List.getElem?_cons_zero, List.getElem?_cons_succ, List.nil_append, List.cons_append, List.append_nil, if_true, ite_true, g14]
    refine ⟨(show 3 ≤ SL by decide), ?_⟩
    refine ask _ _ _ _ _ _ _ ⟨m0, B.su, B.sv, zB' _ (by omega) (by omega), zB' _ (by omega) (by omega), B.sm, zB' _ (by omega) (by omega), zB' _ (by omega) (by omega)⟩ (by omega) (by omega) (by omega) (by omega) _ _ _ ⟨ok_int, ?_⟩
    rw [eq_int (cnt_back m0 l0 l1 g0 g1)]
    exact q _ (w3.mono (by omega)) ((f1.trans f2).trans f3)
  by_cases e : (g + 1) % m = l
  · rw [show (!decide ((g + 1) % m = l)) = false by simp [e]]
    exact go5
  · rw [show (!decide ((g + 1) % m = l)) = true by simp [e]]
    refine ⟨ok_int, ?_⟩
    rw [eq_int (rest e)]
    exact go5
theorem Nth.uniq {u v a b m k j n n' : Int} (h : Nth u v a b m k j n) (h' : Nth u v a b m k j n') : n = n' := by
  have e := h.get
  rw [h'.get] at e
  exact (Option.some.inj e).symm
def sp_places : Spec := fun ds h Q _ => ∃ (w k : Nat) (u v a b m l g : Int), ds = [.ref w, drD u v a b m l g] ∧ Dr u v a b m l g ∧ Wel k h w ∧ k + 10 < 1073741824 ∧ ∀ h', Wel (k + 10) h' w → Fr w h h' → Q (.bl true) h'
theorem b_places {Γ : Gam} (hd : Γ.fn 1000 = sp_draw) (hp : Γ.fn 1001 = sp_pick) (g14 : Γ.fn 14 = sp_hits) (g15 : Γ.fn 15 = sp_last_hit) (g16 : Γ.fn 16 = sp_first_hit) (g17 : Γ.fn 17 = sp_hit_at) : BodyOk Γ ir_l_places_right sp_places := by
  rintro ds h Q R ⟨w, k, u, v, a, b, m, l, g, rfl, d, hw, hk, q⟩
  refine ⟨rfl, ?_⟩
  show wpSs Γ ir_l_places_right.body [.val (.ref w), .val (drD u v a b m l g), .un, .un, .un, .un, .un, .un, .un, .un, .un] h _
  have B := d.band
  obtain ⟨m0, l0, l1, g0, g1, uv, ⟨a1, a2⟩, ⟨b1, b2⟩, mm, mu, mv⟩ := d
  have eB : Big = 30000000000000000000000000000000000000000 := rfl
  have A : ∀ u v, Band u v a b m l g → ∀ r, Ask (.tup [.int a, .int b, .int m] :: .int u :: .int v :: .int l :: .int g :: r) u v a b m l g r := fun u v B r => ⟨rfl, B, l0, l1, g0, g1⟩
  simp only [ir_l_places_right, k_l_places_right_11, wpSs, wpS, wpE, wpEs, wpAnd, wpOr, wpI, wpF, wpT, wpH, Env.at, Env.put, Env.wipe, Env.nox, Slot.nox, wBin, binI, wCmp, cmpI, wBi, isTy, asL, asLT, bindT, bindTs, intsOf, boolsOf, ixL0, ixL1, ixL2, List.getElem?_cons_zero, List.getElem?_cons_succ, List.nil_append, List.cons_append, List.append_nil, if_true, ite_true, drD]
  simp only [k_l_places_right_10, wpSs, wpS, wpE, wpEs, wpAnd, wpOr, wpI, wpF, wpT, wpH, Env.at, Env.put, Env.wipe, Env.nox, Slot.nox, wBin, binI, wCmp, cmpI, wBi, isTy, asL, asLT, bindT, bindTs, intsOf, boolsOf, ixL0, ixL1, ixL2, List.getElem?_cons_zero, List.getElem?_cons_succ, List.nil_append, List.cons_append, List.append_nil, if_true, ite_true, g14]
  refine ⟨_, _, _, _, _, _, _, A u v B [], ?_⟩
  have rg := CN_range (u := u) (v := v) (a := a) (b := b - l) (m := m) (k := (g - l) % m)
  generalize hC : CN u v a (b - l) m ((g - l) % m) = C at *
  simp only [k_l_places_right_9, wpSs, wpS, wpE, wpEs, wpAnd, wpOr, wpI, wpF, wpT, wpH, Env.at, Env.put, Env.wipe, Env.nox, Slot.nox, wBin, binI, wCmp, cmpI, wBi, isTy, asL, asLT, bindT, bindTs, intsOf, boolsOf, ixL0, ixL1, ixL2, List.getElem?_cons_zero, List.getElem?_cons_succ, List.nil_append, List.cons_append, List.append_nil, if_true, ite_true]
  refine ⟨ok_int, ?_⟩
  rw [eqb_ints]
  by_cases c0 : C = 0
  · rw [if_pos (decide_eq_true c0)]
    simp only [k_l_places_right_2, wpSs, wpS, wpE, wpEs, wpAnd, wpOr, wpI, wpF, wpT, wpH, Env.at, Env.put, Env.wipe, Env.nox, Slot.nox, wBin, binI, wCmp, cmpI, wBi, isTy, asL, asLT, bindT, bindTs, intsOf, boolsOf, ixL0, ixL1, ixL2, List.getElem?_cons_zero, List.getElem?_cons_succ, List.nil_append, List.cons_append, List.append_nil, if_true, ite_true, g16]
    refine ⟨_, _, _, _, _, _, _, A u v B [], fun _ => ⟨(show 1 ≤ SL by decide), ?_⟩, fun y => by omega⟩
    simp only [k_l_places_right_1, wpSs, wpS, wpE, wpEs, wpAnd, wpOr, wpI, wpF, wpT, wpH, Env.at, Env.put, Env.wipe, Env.nox, Slot.nox, wBin, binI, wCmp, cmpI, wBi, isTy, asL, asLT, bindT, bindTs, intsOf, boolsOf, ixL0, ixL1, ixL2, List.getElem?_cons_zero, List.getElem?_cons_succ, List.nil_append, List.cons_append, List.append_nil, if_true, ite_true, g15]
    refine ⟨_, _, _, _, _, _, _, A u v B [], fun _ => ⟨(show 1 ≤ SL by decide), ?_⟩, fun y => by omega⟩
    refine ⟨(show 2 ≤ SL by decide), (show 2 ≤ SL by decide), ⟨rfl, rfl⟩, ?_⟩
    exact q _ (hw.mono (by omega)) Fr.refl
  rw [if_neg (by simpa using c0)]
  have Cp : 0 < C := by omega
  have bC : bitsI C ≤ 9000 := by
    refine Nat.le_trans (bitsI_le (p := 138) ?_) (by decide)
    unfold Sz
    have e : ((2 ^ 138 : Nat) : Int) = 2 ^ 138 := by decide +kernel
    have big : (60000000000000000000000000000000000000001 : Int) < 2 ^ 138 := by decide +kernel
    omega
  simp only [k_l_places_right_8, wpSs, wpS, wpE, wpEs, wpAnd, wpOr, wpI, wpF, wpT, wpH, Env.at, Env.put, Env.wipe, Env.nox, Slot.nox, wBin, binI, wCmp, cmpI, wBi, isTy, asL, asLT, bindT, bindTs, intsOf, boolsOf, ixL0, ixL1, ixL2, List.getElem?_cons_zero, List.getElem?_cons_succ, List.nil_append, List.cons_append, List.append_nil, if_true, ite_true, hd, hp]
  refine ⟨w, _, k, rfl, Cp, bC, hw, by omega, fun x1 h1 l1' u1 w1 f1 => ?_⟩
  simp only [wpSs, wpS, wpE, wpEs, wpAnd, wpOr, wpI, wpF, wpT, wpH, Env.at, Env.put, Env.wipe, Env.nox, Slot.nox, wBin, binI, wCmp, cmpI, wBi, isTy, asL, asLT, bindT, bindTs, intsOf, boolsOf, ixL0, ixL1, ixL2, List.getElem?_cons_zero, List.getElem?_cons_succ, List.nil_append, List.cons_append, List.append_nil, if_true, ite_true, hp]
  refine ⟨(show 3 ≤ SL by decide), w, [0, C - 1, x1], k + 1, rfl, (show 0 < 3 by decide), (show 3 < 1000 by decide), w1, by omega, fun j h2 hj w2 f2 => ?_⟩
  have hj := three hj
  have fr := f1.trans f2
  have fin := q h2 (w2.mono (by omega)) fr
  simp only [k_l_places_right_7, wpSs, wpS, wpE, wpEs, wpAnd, wpOr, wpI, wpF, wpT, wpH, Env.at, Env.put, Env.wipe, Env.nox, Slot.nox, wBin, binI, wCmp, cmpI, wBi, isTy, asL, asLT, bindT, bindTs, intsOf, boolsOf, ixL0, ixL1, ixL2, List.getElem?_cons_zero, List.getElem?_cons_succ, List.nil_append, List.cons_append, List.append_nil, if_true, ite_true, g17]
  refine ⟨_, _, _, _, _, _, _, _, A u v B [.int j], by omega, by omega, fun n hn => ?_⟩
  have hn' := id hn
  obtain ⟨z1, z2, z3, z4⟩ := hn
  have Bn : Band n n a b m l g := ⟨m0, (szB (show -Big ≤ n by omega) (by omega)).mono (by decide), (szB (show -Big ≤ n by omega) (by omega)).mono (by decide), B.sa, B.sb, B.sm, B.sl, B.sg⟩
  have Bun : Band u n a b m l g := ⟨m0, B.su, Bn.sv, B.sa, B.sb, B.sm, B.sl, B.sg⟩
  have Bnv : Band n v a b m l g := ⟨m0, Bn.su, B.sv, B.sa, B.sb, B.sm, B.sl, B.sg⟩
  have e1 : CN u n a (b - l) m ((g - l) % m) = j + 1 := by
    rw [CN_last z1, z4]; unfold ind; rw [if_pos z3]
  have e0 : CN n (n - 1) a (b - l) m ((g - l) % m) = 0 := CN_none (by omega)
  have e2 : CN n n a (b - l) m ((g - l) % m) = 1 := by
    rw [CN_last (Int.le_refl n), e0]; unfold ind; rw [if_pos z3]; rfl
  have pos : 0 < CN n v a (b - l) m ((g - l) % m) := by
    rw [← CF_CN]
    exact CF_pos.mpr ⟨n, Int.le_refl _, z2, z3⟩
  simp only [k_l_places_right_6, wpSs, wpS, wpE, wpEs, wpAnd, wpOr, wpI, wpF, wpT, wpH, Env.at, Env.put, Env.wipe, Env.nox, Slot.nox, wBin, binI, wCmp, cmpI, wBi, isTy, asL, asLT, bindT, bindTs, intsOf, boolsOf, ixL0, ixL1, ixL2, List.getElem?_cons_zero, List.getElem?_cons_succ, List.nil_append, List.cons_append, List.append_nil, if_true, ite_true, g14]
  rw [if_pos (decide_eq_true z1)]
  rw [show decide (n ≤ v) = true from decide_eq_true z2]
  rw [if_neg (show ¬ ((!true) = true) by decide)]
  refine ⟨_, _, _, _, _, _, _, A u n Bun [], ne_go e1 ?_⟩
  simp only [k_l_places_right_5, wpSs, wpS, wpE, wpEs, wpAnd, wpOr, wpI, wpF, wpT, wpH, Env.at, Env.put, Env.wipe, Env.nox, Slot.nox, wBin, binI, wCmp, cmpI, wBi, isTy, asL, asLT, bindT, bindTs, intsOf, boolsOf, ixL0, ixL1, ixL2, List.getElem?_cons_zero, List.getElem?_cons_succ, List.nil_append, List.cons_append, List.append_nil, if_true, ite_true, g14]
  refine ⟨_, _, _, _, _, _, _, A n n Bn [], ne_go e2 ?_⟩
  simp only [k_l_places_right_4, wpSs, wpS, wpE, wpEs, wpAnd, wpOr, wpI, wpF, wpT, wpH, Env.at, Env.put, Env.wipe, Env.nox, Slot.nox, wBin, binI, wCmp, cmpI, wBi, isTy, asL, asLT, bindT, bindTs, intsOf, boolsOf, ixL0, ixL1, ixL2, List.getElem?_cons_zero, List.getElem?_cons_succ, List.nil_append, List.cons_append, List.append_nil, if_true, ite_true, g16]
  refine ⟨_, _, _, _, _, _, _, A n v Bnv [], fun y => by omega, fun _ n' hn2 => ?_⟩
  refine ne_go (Nth.uniq hn2 ⟨Int.le_refl _, z2, z3, e0⟩) ?_
  simp only [k_l_places_right_3, wpSs, wpS, wpE, wpEs, wpAnd, wpOr, wpI, wpF, wpT, wpH, Env.at, Env.put, Env.wipe, Env.nox, Slot.nox, wBin, binI, wCmp, cmpI, wBi, isTy, asL, asLT, bindT, bindTs, intsOf, boolsOf, ixL0, ixL1, ixL2, List.getElem?_cons_zero, List.getElem?_cons_succ, List.nil_append, List.cons_append, List.append_nil, if_true, ite_true, g15]
  refine ⟨_, _, _, _, _, _, _, A u n Bun [], fun y => by omega, fun _ n' hn2 => ?_⟩
  rw [e1, show j + 1 - 1 = j by omega] at hn2
  refine ⟨ok_int, ?_⟩
  rw [eq_int (Nth.uniq hn2 ⟨z1, Int.le_refl _, z3, z4⟩)]
  exact fin
theorem nth0 {u v a b m k n : Int} (h1 : u ≤ n) (h2 : n ≤ v) (h3 : (a * n + b) % m ≤ k) (h4 : ∀ x, u ≤ x → x < n → ¬ (a * x + b) % m ≤ k) : Nth u v a b m k 0 n := by
  refine ⟨h1, h2, h3, ?_⟩
  have r := CN_range (u := u) (v := n - 1) (a := a) (b := b) (m := m) (k := k)
  have := CF_pos (F := fun x => (a * x + b) % m) (u := u) (v := n - 1) (k := k)
  rw [CF_CN] at this
  apply Classical.byContradiction
  intro z
  obtain ⟨x, x1, x2, x3⟩ := this.mp (by omega)
  exact h4 x x1 (by omega) x3
theorem CN_full {u v a b m k : Int} (uv : u ≤ v) (h : ∀ x, u ≤ x → x ≤ v → (a * x + b) % m ≤ k) : CN u v a b m k = v - u + 1 := by
  unfold CN
  have : ∀ i : Nat, i < (v - u + 1).toNat → ind ((a * (u + (i : Int)) + b) % m ≤ k) = 1 := fun i hi => by unfold ind; rw [if_pos (h _ (by omega) (by omega))]
  rw [sumI_congr this, sumI_const]
  omega
theorem CN_zero {u v a b m k : Int} (h : ∀ x, u ≤ x → x ≤ v → ¬ (a * x + b) % m ≤ k) : CN u v a b m k = 0 := by
  unfold CN
  exact sumI_zero fun i hi => by unfold ind; rw [if_neg (h _ (by omega) (by omega))]
theorem low_band {m r k : Int} (r0 : 0 ≤ r) (k0 : 0 ≤ k) (k1 : k < m) : (r - 0) % m ≤ (k - 0) % m ↔ r % m ≤ k := by
  rw [Int.sub_zero, Int.sub_zero, Int.emod_eq_of_lt k0 k1]
/-- who is in a band -/
theorem in_band {x l g m : Int} (m0 : 0 < m) (l0 : 0 ≤ l) (g1 : g < m) (lg : l ≤ g) : (x - l) % m ≤ (g - l) % m ↔ l ≤ x % m ∧ x % m ≤ g := by
  have r0 := Int.emod_nonneg x (show m ≠ 0 by omega)
  have r1 := Int.emod_lt_of_pos x m0
  rw [← Int.emod_sub_emod]
  generalize x % m = y at *
  rw [mod_small (y := y - l) (by omega) (by omega), Int.emod_eq_of_lt (show 0 ≤ g - l by omega) (by omega)]
  by_cases c : y - l < 0
  · rw [if_pos c]; omega
  · rw [if_neg c, if_pos (by omega)]; omega
def sp_ends : Spec := fun ds h Q _ => ∃ (w : Nat) (u v a b m l g : Int), ds = [.ref w, drD u v a b m l g] ∧ Dr u v a b m l g ∧ Q (.bl true) h
theorem b_ends {Γ : Gam} (g14 : Γ.fn 14 = sp_hits) (g16 : Γ.fn 16 = sp_first_hit) (g19 : Γ.fn 19 = sp_least_residue) (g21 : Γ.fn 21 = sp_greatest_residue) (g22 : Γ.fn 22 = sp_nearest) : BodyOk Γ ir_l_ends_right sp_ends := by
  rintro ds h Q R ⟨w, u, v, a, b, m, l, g, rfl, d, q⟩
  refine ⟨rfl, ?_⟩
  show wpSs Γ ir_l_ends_right.body [.val (.ref w), .val (drD u v a b m l g), .un, .un, .un, .un, .un, .un, .un, .un, .un, .un, .un, .un, .un] h _
  have B := d.band
  obtain ⟨m0, l0, l1, g0, g1, uv, ⟨a1, a2⟩, ⟨b1, b2⟩, mm, mu, mv⟩ := d
  have eB : Big = 30000000000000000000000000000000000000000 := rfl
  have sB : ∀ i : Int, -Big ≤ i → i ≤ Big → Sz 1600 i := fun i h1 h2 => (szB h1 h2).mono (by decide)
  have sB' : ∀ i : Int, -Big ≤ i → i ≤ Big → Sz 1700 i := fun i h1 h2 => (szB h1 h2).mono (by decide)
  have L : Lin u v a b m := ⟨m0, sB _ mu (by omega), sB _ (by omega) mv, sB _ a1 a2, sB _ b1 b2, sB _ (by omega) mm⟩
  have A : ∀ l g, 0 ≤ l → l < m → 0 ≤ g → g < m → ∀ r, Ask (.tup [.int a, .int b, .int m] :: .int u :: .int v :: .int l :: .int g :: r) u v a b m l g r := fun l g y1 y2 y3 y4 r => ⟨rfl, ⟨m0, B.su, B.sv, B.sa, B.sb, B.sm, sB' _ (by omega) (by omega), sB' _ (by omega) (by omega)⟩, y1, y2, y3, y4⟩
  have rin : ∀ x, 0 ≤ res a b m x ∧ res a b m x < m := fun x => res_in m0
  have inb : ∀ l g x, 0 ≤ l → g < m → l ≤ g → ((a * x + (b - l)) % m ≤ (g - l) % m ↔ l ≤ res a b m x ∧ res a b m x ≤ g) := fun l g x y1 y2 y3 => by
    rw [show a * x + (b - l) = (a * x + b) - l by omega]
    exact in_band m0 y1 y2 y3
  simp only [ir_l_ends_right, k_l_ends_right_16, wpSs, wpS, wpE, wpEs, wpAnd, wpOr, wpI, wpF, wpT, wpH, Env.at, Env.put, Env.wipe, Env.nox, Slot.nox, wBin, binI, wCmp, cmpI, wBi, isTy, asL, asLT, bindT, bindTs, intsOf, boolsOf, ixL0, ixL1, ixL2, List.getElem?_cons_zero, List.getElem?_cons_succ, List.nil_append, List.cons_append, List.append_nil, if_true, ite_true, drD]
  simp only [k_l_ends_right_15, wpSs, wpS, wpE, wpEs, wpAnd, wpOr, wpI, wpF, wpT, wpH, Env.at, Env.put, Env.wipe, Env.nox, Slot.nox, wBin, binI, wCmp, cmpI, wBi, isTy, asL, asLT, bindT, bindTs, intsOf, boolsOf, ixL0, ixL1, ixL2, List.getElem?_cons_zero, List.getElem?_cons_succ, List.nil_append, List.cons_append, List.append_nil, if_true, ite_true]
  simp only [k_l_ends_right_14, wpSs, wpS, wpE, wpEs, wpAnd, wpOr, wpI, wpF, wpT, wpH, Env.at, Env.put, Env.wipe, Env.nox, Slot.nox, wBin, binI, wCmp, cmpI, wBi, isTy, asL, asLT, bindT, bindTs, intsOf, boolsOf, ixL0, ixL1, ixL2, List.getElem?_cons_zero, List.getElem?_cons_succ, List.nil_append, List.cons_append, List.append_nil, if_true, ite_true, g19]
  refine ⟨_, _, _, _, _, rfl, L, fun c => by omega, fun r0 n0 hA0 => ?_⟩
  simp only [k_l_ends_right_13, wpSs, wpS, wpE, wpEs, wpAnd, wpOr, wpI, wpF, wpT, wpH, Env.at, Env.put, Env.wipe, Env.nox, Slot.nox, wBin, binI, wCmp, cmpI, wBi, isTy, asL, asLT, bindT, bindTs, intsOf, boolsOf, ixL0, ixL1, ixL2, List.getElem?_cons_zero, List.getElem?_cons_succ, List.nil_append, List.cons_append, List.append_nil, if_true, ite_true, g21]
  refine ⟨_, _, _, _, _, rfl, L, (szB a1 a2).mono (by decide), (szB b1 b2).mono (by decide), fun c => by omega, fun r1 n1 hA1 => ?_⟩
  obtain ⟨p1, p2, _, p3, p4, p5⟩ := id hA0
  obtain ⟨s1, s2, _, s3, s4, s5⟩ := id hA1
  have s3 : -(res a b m n1) = -r1 := s3
  have s4 : ∀ x, u ≤ x → x ≤ v → res a b m x ≤ r1 := fun x x1 x2 => by have : -r1 ≤ -(res a b m x) := s4 x x1 x2 trivial; omega
  have s5 : ∀ x, u ≤ x → x < n1 → res a b m x < r1 := fun x x1 x2 => by have : -r1 < -(res a b m x) := s5 x x1 x2 trivial; omega
  have q0 := rin n0
  have q1 := rin n1
  have r01 := p4 n1 s1 s2 trivial
  simp only [k_l_ends_right_12, wpSs, wpS, wpE, wpEs, wpAnd, wpOr, wpI, wpF, wpT, wpH, Env.at, Env.put, Env.wipe, Env.nox, Slot.nox, wBin, binI, wCmp, cmpI, wBi, isTy, asL, asLT, bindT, bindTs, intsOf, boolsOf, ixL0, ixL1, ixL2, List.getElem?_cons_zero, List.getElem?_cons_succ, List.nil_append, List.cons_append, List.append_nil, if_true, ite_true, g16]
  have f0 : Nth u v a (b - 0) m ((r0 - 0) % m) 0 n0 := nth0 p1 p2 ((inb 0 r0 n0 (by omega) (by omega) (by omega)).mpr (by omega)) fun x x1 x2 z => by
    have := p5 x x1 x2 trivial
    have := (inb 0 r0 x (by omega) (by omega) (by omega)).mp z
    omega
  have f1 : Nth u v a (b - r1) m ((m - 1 - r1) % m) 0 n1 := nth0 s1 s2 ((inb r1 (m - 1) n1 (by omega) (by omega) (by omega)).mpr (by omega)) fun x x1 x2 z => by
    have := s5 x x1 x2
    have := (inb r1 (m - 1) x (by omega) (by omega) (by omega)).mp z
    omega
  have some_ : ∀ {a b k n : Int}, Nth u v a b m k 0 n → CN u v a b m k ≠ 0 := fun {a b k n} hn => by
    have := CF_pos (F := fun x => (a * x + b) % m) (u := u) (v := v) (k := k)
    rw [CF_CN] at this
    have := this.mpr ⟨n, hn.1, hn.2.1, hn.2.2.1⟩
    omega
  refine ⟨_, _, _, _, _, _, _, A 0 r0 (by omega) (by omega) (by omega) (by omega) [], fun y => absurd y (some_ f0), fun _ n hn => ?_⟩
  refine ne_go (Nth.uniq hn f0) ?_
  simp only [k_l_ends_right_11, wpSs, wpS, wpE, wpEs, wpAnd, wpOr, wpI, wpF, wpT, wpH, Env.at, Env.put, Env.wipe, Env.nox, Slot.nox, wBin, binI, wCmp, cmpI, wBi, isTy, asL, asLT, bindT, bindTs, intsOf, boolsOf, ixL0, ixL1, ixL2, List.getElem?_cons_zero, List.getElem?_cons_succ, List.nil_append, List.cons_append, List.append_nil, if_true, ite_true, g16]
  refine ⟨_, _, _, _, _, _, _, A r1 (m - 1) (by omega) (by omega) (by omega) (by omega) [], fun y => absurd y (some_ f1), fun _ n hn => ?_⟩
  refine ne_go (Nth.uniq hn f1) ?_
  simp only [k_l_ends_right_10, wpSs, wpS, wpE, wpEs, wpAnd, wpOr, wpI, wpF, wpT, wpH, Env.at, Env.put, Env.wipe, Env.nox, Slot.nox, wBin, binI, wCmp, cmpI, wBi, isTy, asL, asLT, bindT, bindTs, intsOf, boolsOf, ixL0, ixL1, ixL2, List.getElem?_cons_zero, List.getElem?_cons_succ, List.nil_append, List.cons_append, List.append_nil, if_true, ite_true, g14]
  refine ⟨_, _, _, _, _, _, _, A r0 r1 (by omega) (by omega) (by omega) (by omega) [], ne_go (CN_full uv fun x x1 x2 => (inb r0 r1 x (by omega) (by omega) (by omega)).mpr ⟨p4 x x1 x2 trivial, s4 x x1 x2⟩) ?_⟩
  simp only [k_l_ends_right_9, wpSs, wpS, wpE, wpEs, wpAnd, wpOr, wpI, wpF, wpT, wpH, Env.at, Env.put, Env.wipe, Env.nox, Slot.nox, wBin, binI, wCmp, cmpI, wBi, isTy, asL, asLT, bindT, bindTs, intsOf, boolsOf, ixL0, ixL1, ixL2, List.getElem?_cons_zero, List.getElem?_cons_succ, List.nil_append, List.cons_append, List.append_nil, if_true, ite_true, g22]
  refine ⟨_, _, _, _, _, _, _, rfl, L, l0, l1, fun c => absurd (fun z => by cases z) (c u (Int.le_refl _) uv), fun t n2 hT => ?_⟩
  obtain ⟨t1, t2, _, t3, t4, t5⟩ := hT
  have t4 : ∀ x, u ≤ x → x ≤ v → t ≤ cdF a b m l x := fun x x1 x2 => t4 x x1 x2 (fun z => by cases z)
  have t5 : ∀ x, u ≤ x → x < n2 → t < cdF a b m l x := fun x x1 x2 => t5 x x1 x2 (fun z => by cases z)
  have ch : ∀ x, 0 ≤ cdF a b m l x ∧ cdF a b m l x ≤ m / 2 := fun x => cd_half (rin x).1 (rin x).2 l0 l1
  have t0 := ch n2
  rw [t3] at t0
  -- a row is right
  have row : ∀ (s : Int × Int) {A C : Prop}, cdF a b m l s.2 = s.1 → C → eqOk (.int (min ((((a * s.2 + b).fmod m - l).natAbs : Nat) : Int) (m - ((((a * s.2 + b).fmod m - l).natAbs : Nat) : Int)))) (.int s.1) ∧ (if (!D.eqb (.int (min ((((a * s.2 + b).fmod m - l).natAbs : Nat) : Int) (m - ((((a * s.2 + b).fmod m - l).natAbs : Nat) : Int)))) (.int s.1)) = true then A else C) := fun s A C e kk => by
    rw [fmod_pos m0]
    exact ne_go e kk
  have ap : ∀ K : D → AH → Prop, (∀ o : Option (Int × Int), (match o with | none => ∀ x, u ≤ x → x ≤ v → cdF a b m l x = 0 | some s => cdF a b m l s.2 = s.1 ∧ u ≤ s.2 ∧ s.2 ≤ v) → (0 < t → o = some (t, n2)) → K (optD o) h) → sp_nearest [.tup [.int a, .int b, .int m], .int u, .int v, .int l, .bl true] h K (fun x h => R x h) := fun K kk => by
    refine ⟨_, _, _, _, _, _, _, rfl, L, l0, l1, fun c => kk none (fun x x1 x2 => ?_) (fun z => ?_), fun r n hA => kk (some (r, n)) ?_ fun z => ?_⟩
    · have := ch x
      apply Classical.byContradiction
      intro y
      exact c x x1 x2 (fun _ => by omega)
    · exact absurd (fun _ => by rw [t3]; exact z) (c n2 t1 t2)
    · exact ⟨hA.2.2.2.1, hA.1, hA.2.1⟩
    · have e : Arg (cdF a b m l) (apF true (cdF a b m l)) u v t n2 := ⟨t1, t2, fun _ => by rw [t3]; exact z, t3, fun x x1 x2 _ => t4 x x1 x2, fun x x1 x2 _ => t5 x x1 x2⟩
      obtain ⟨e1, e2⟩ := Arg.uniq hA e
      rw [e1, e2]
  simp only [k_l_ends_right_8, wpSs, wpS, wpE, wpEs, wpAnd, wpOr, wpI, wpF, wpT, wpH, Env.at, Env.put, Env.wipe, Env.nox, Slot.nox, wBin, binI, wCmp, cmpI, wBi, isTy, asL, asLT, bindT, bindTs, intsOf, boolsOf, ixL0, ixL1, ixL2, List.getElem?_cons_zero, List.getElem?_cons_succ, List.nil_append, List.cons_append, List.append_nil, if_true, ite_true, g22, permD, List.filterMap_cons, List.filterMap_nil, List.cons_append, List.nil_append, List.getElem?_cons_zero, List.getElem?_cons_succ]
  refine ap _ fun o ho hz => ?_
  have mo : (!(optD o).isNon) = o.isSome := by cases o <;> rfl
  simp only [k_l_ends_right_7, wpSs, wpS, wpE, wpEs, wpAnd, wpOr, wpI, wpF, wpT, wpH, Env.at, Env.put, Env.wipe, Env.nox, Slot.nox, wBin, binI, wCmp, cmpI, wBi, isTy, asL, asLT, bindT, bindTs, intsOf, boolsOf, ixL0, ixL1, ixL2, List.getElem?_cons_zero, List.getElem?_cons_succ, List.nil_append, List.cons_append, List.append_nil, if_true, ite_true]
  -- behind the test
  have go6 : wpSs Γ k_l_ends_right_6 [.val (.ref w), .val (.tup [.tup [.int a, .int b, .int m], .int u, .int v, .int l, .int g]), .val (.tup [.int a, .int b, .int m]), .val (.int u), .val (.int v), .val (.int l), .val (.int g), .val (.int m), .val (.tup [.int r0, .int n0]), .val (.tup [.int r1, .int n1]), .val (.tup [.int t, .int n2]), .val (optD o), .un, .un, .un] h ⟨fun _ h => Q .non h, Q, fun _ _ => False, fun x _ h => R x h⟩ := by
    have go5 : ∀ s12 s13, wpSs Γ k_l_ends_right_5 [.val (.ref w), .val (.tup [.tup [.int a, .int b, .int m], .int u, .int v, .int l, .int g]), .val (.tup [.int a, .int b, .int m]), .val (.int u), .val (.int v), .val (.int l), .val (.int g), .val (.int m), .val (.tup [.int r0, .int n0]), .val (.tup [.int r1, .int n1]), .val (.tup [.int t, .int n2]), .val (optD o), s12, s13, .un] h ⟨fun _ h => Q .non h, Q, fun _ _ => False, fun x _ h => R x h⟩ := fun s12 s13 => by
      simp only [k_l_ends_right_5, wpSs, wpS, wpE, wpEs, wpAnd, wpOr, wpI, wpF, wpT, wpH, Env.at, Env.put, Env.wipe, Env.nox, Slot.nox, wBin, binI, wCmp, cmpI, wBi, isTy, asL, asLT, bindT, bindTs, intsOf, boolsOf, ixL0, ixL1, ixL2, List.getElem?_cons_zero, List.getElem?_cons_succ, List.nil_append, List.cons_append, List.append_nil, if_true, ite_true, fmod_pos m0]
      refine ⟨by omega, by omega, (show 2 ≤ SL by decide), ?_⟩
      have e0 := Int.emod_nonneg (l - t + 1) (show m ≠ 0 by omega)
      have e1 := Int.emod_lt_of_pos (l - t + 1) m0
      have e2 := Int.emod_nonneg (l + t - 1) (show m ≠ 0 by omega)
      have e3 := Int.emod_lt_of_pos (l + t - 1) m0
      have go3 : ∀ s14, wpSs Γ k_l_ends_right_3 [.val (.ref w), .val (.tup [.tup [.int a, .int b, .int m], .int u, .int v, .int l, .int g]), .val (.tup [.int a, .int b, .int m]), .val (.int u), .val (.int v), .val (.int l), .val (.int g), .val (.int m), .val (.tup [.int r0, .int n0]), .val (.tup [.int r1, .int n1]), .val (.tup [.int t, .int n2]), .val (optD o), s12, s13, s14] h ⟨fun _ h => Q .non h, Q, fun _ _ => False, fun x _ h => R x h⟩ := fun s14 => by
        simp only [k_l_ends_right_3, wpSs, wpS, wpE, wpEs, wpAnd, wpOr, wpI, wpF, wpT, wpH, Env.at, Env.put, Env.wipe, Env.nox, Slot.nox, wBin, binI, wCmp, cmpI, wBi, isTy, asL, asLT, bindT, bindTs, intsOf, boolsOf, ixL0, ixL1, ixL2, List.getElem?_cons_zero, List.getElem?_cons_succ, List.nil_append, List.cons_append, List.append_nil, if_true, ite_true, g14, mo]
        cases o with
        | some s => exact q
        | none =>
          rw [if_neg (show ¬ ((none : Option (Int × Int)).isSome = true) by decide)]
          refine ⟨_, _, _, _, _, _, _, A l l l0 l1 l0 l1 [], ok_int, ?_⟩
          rw [eq_int (CN_full uv fun x x1 x2 => (inb l l x l0 l1 (Int.le_refl _)).mpr ?_)]
          · exact q
          · have z := ho x x1 x2
            have r := rin x
            unfold cdF cd at z
            omega
      simp only [k_l_ends_right_4, wpSs, wpS, wpE, wpEs, wpAnd, wpOr, wpI, wpF, wpT, wpH, Env.at, Env.put, Env.wipe, Env.nox, Slot.nox, wBin, binI, wCmp, cmpI, wBi, isTy, asL, asLT, bindT, bindTs, intsOf, boolsOf, ixL0, ixL1, ixL2, List.getElem?_cons_zero, List.getElem?_cons_succ, List.nil_append, List.cons_append, List.append_nil, if_true, ite_true, g14]
      by_cases c : 0 < t
      · rw [if_pos (decide_eq_true c)]
        refine ⟨_, _, _, _, _, _, _, A _ _ e0 e1 e2 e3 [], ok_int, ?_⟩
        have : CN u v a (b - (l - t + 1) % m) m (((l + t - 1) % m - (l - t + 1) % m) % m) = 0 := CN_zero fun x x1 x2 z => by
          have k := near_iff (rin x).1 (rin x).2 l0 l1 (show 0 ≤ t - 1 by omega) (show 2 * (t - 1) + 1 < m by omega)
          have ea : (a * x + (b - (l - t + 1) % m)) % m = (res a b m x - l + (t - 1)) % m := by
            unfold res
            rw [show (a * x + b) % m - l + (t - 1) = (a * x + b) % m + ((t - 1) - l) by omega, Int.emod_add_emod, show a * x + (b - (l - t + 1) % m) = a * x + b - (l - t + 1) % m by omega, Int.sub_emod_emod]
            congr 1
            omega
          have eb : ((l + t - 1) % m - (l - t + 1) % m) % m = 2 * (t - 1) := by
            rw [← Int.sub_emod, show l + t - 1 - (l - t + 1) = 2 * (t - 1) by omega]
            exact Int.emod_eq_of_lt (by omega) (by omega)
          rw [ea, eb] at z
          have := k.mp z
          have := t4 x x1 x2
          unfold cdF at this
          omega
        rw [this]
        rw [eq_int rfl]
        exact go3 _
      · rw [if_neg (by simpa using c)]
        exact go3 _
    simp only [k_l_ends_right_6, wpSs, wpS, wpE, wpEs, wpAnd, wpOr, wpI, wpF, wpT, wpH, Env.at, Env.put, Env.wipe, Env.nox, Slot.nox, wBin, binI, wCmp, cmpI, wBi, isTy, asL, asLT, bindT, bindTs, intsOf, boolsOf, ixL0, ixL1, ixL2, List.getElem?_cons_zero, List.getElem?_cons_succ, List.nil_append, List.cons_append, List.append_nil, if_true, ite_true, mo]
    refine ⟨(show 1 ≤ SL by decide), (show 1 ≤ SL by decide), ?_⟩
    cases o with
    | none =>
      refine ⟨⟨(show (-1000000 : Int) < 0 by decide), (show (0 : Int) < 1000000 by decide), (show 1 * 0 ≤ SL by decide)⟩, (show 1 + 0 ≤ SL by decide), ?_⟩
      simp only [Option.isSome, Bool.false_eq_true, if_false, Int.toNat_zero, List.replicate_zero, List.flatten_nil, List.append_nil, forL, wpSs, wpS, wpE, wpEs, wpAnd, wpOr, wpI, wpF, wpT, wpH, Env.at, Env.put, Env.wipe, Env.nox, Slot.nox, wBin, binI, wCmp, cmpI, wBi, isTy, asL, asLT, bindT, bindTs, intsOf, boolsOf, ixL0, ixL1, ixL2, List.getElem?_cons_zero, List.getElem?_cons_succ, List.nil_append, List.cons_append, List.append_nil, if_true, ite_true, k_l_ends_right_2]
      simp only [k_l_ends_right_1, wpSs, wpS, wpE, wpEs, wpAnd, wpOr, wpI, wpF, wpT, wpH, Env.at, Env.put, Env.wipe, Env.nox, Slot.nox, wBin, binI, wCmp, cmpI, wBi, isTy, asL, asLT, bindT, bindTs, intsOf, boolsOf, ixL0, ixL1, ixL2, List.getElem?_cons_zero, List.getElem?_cons_succ, List.nil_append, List.cons_append, List.append_nil, if_true, ite_true]
      refine ⟨mul_ok (szB a1 a2) (szB (show -Big ≤ n2 by omega) (by omega)) (by decide), by omega, row (t, n2) t3 (go5 _ _)⟩
    | some s =>
      refine ⟨⟨(show (-1000000 : Int) < 1 by decide), (show (1 : Int) < 1000000 by decide), (show 1 * 1 ≤ SL by decide)⟩, (show 1 + 1 ≤ SL by decide), ?_⟩
      obtain ⟨s, n3⟩ := s
      obtain ⟨ho, o1, o2⟩ := ho
      have o1 : u ≤ n3 := o1
      have o2 : n3 ≤ v := o2
      have e1 : (if (some (s, n3)).isSome = true then (1 : Int) else 0).toNat = 1 := rfl
      simp only [e1, optD, rowD, List.replicate, List.flatten_cons, List.flatten_nil, List.append_nil, List.cons_append, List.nil_append, forL, wpSs, wpS, wpE, wpEs, wpAnd, wpOr, wpI, wpF, wpT, wpH, Env.at, Env.put, Env.wipe, Env.nox, Slot.nox, wBin, binI, wCmp, cmpI, wBi, isTy, asL, asLT, bindT, bindTs, intsOf, boolsOf, ixL0, ixL1, ixL2, List.getElem?_cons_zero, List.getElem?_cons_succ, List.nil_append, List.cons_append, List.append_nil, if_true, ite_true, k_l_ends_right_2]
      simp only [k_l_ends_right_1, wpSs, wpS, wpE, wpEs, wpAnd, wpOr, wpI, wpF, wpT, wpH, Env.at, Env.put, Env.wipe, Env.nox, Slot.nox, wBin, binI, wCmp, cmpI, wBi, isTy, asL, asLT, bindT, bindTs, intsOf, boolsOf, ixL0, ixL1, ixL2, List.getElem?_cons_zero, List.getElem?_cons_succ, List.nil_append, List.cons_append, List.append_nil, if_true, ite_true]
      refine ⟨mul_ok (szB a1 a2) (szB (show -Big ≤ n2 by omega) (by omega)) (by decide), by omega, row (t, n2) t3 ?_⟩
      refine ⟨mul_ok (szB a1 a2) (szB (show -Big ≤ n3 by omega) (by omega)) (by decide), by omega, row (s, n3) ho (go5 _ _)⟩
  by_cases c : 0 < t
  · rw [if_pos (decide_eq_true c)]
    have := hz c
    subst this
    exact ne_opt (o := some (t, n2)) go6
  · rw [if_neg (by simpa using c)]
    rw [if_neg (show ¬ (false = true) by decide)]
    exact go6
def sp_law : Spec := fun ds h Q _ => ∃ l : List Int, ds = [.lst (l.map .int)] ∧ l.length < 1000 ∧ ∀ h', Q (.bl true) h'
theorem b_law {Γ : Gam} (hs : Γ.fn 1002 = sp_script) (hw : Γ.fn 1003 = sp_well) (hd : Γ.fn 1010 = sp_drawn) (hp : Γ.fn 1011 = sp_places) (hc : Γ.fn 1012 = sp_counts) (he : Γ.fn 1013 = sp_ends) : BodyOk Γ ir_law sp_law := by
  rintro ds h Q R ⟨l, rfl, hl, q⟩
  refine ⟨rfl, ?_⟩
  show wpSs Γ ir_law.body [.val (.lst (l.map .int)), .un, .un, .un] h _
  simp only [ir_law, k_law_6, wpSs, wpS, wpE, wpEs, wpAnd, wpOr, wpI, wpF, wpT, wpH, Env.at, Env.put, Env.wipe, Env.nox, Slot.nox, wBin, binI, wCmp, cmpI, wBi, isTy, asL, asLT, bindT, bindTs, intsOf, boolsOf, ixL0, ixL1, ixL2, List.getElem?_cons_zero, List.getElem?_cons_succ, List.nil_append, List.cons_append, List.append_nil, if_true, ite_true, hs]
  refine ⟨l, 2, rfl, hl, by decide, by decide, fun r _ => ?_⟩
  simp only [wpSs, wpS, wpE, wpEs, wpAnd, wpOr, wpI, wpF, wpT, wpH, Env.at, Env.put, Env.wipe, Env.nox, Slot.nox, wBin, binI, wCmp, cmpI, wBi, isTy, asL, asLT, bindT, bindTs, intsOf, boolsOf, ixL0, ixL1, ixL2, List.getElem?_cons_zero, List.getElem?_cons_succ, List.nil_append, List.cons_append, List.append_nil, if_true, ite_true]
  refine forL_inv _ (I := fun _ σ _ => ∃ s1 s2 s3, σ = [.val (.lst (l.map .int)), s1, s2, s3]) (j := 0) (fun d hd' j σ h' hI P' hn' _ hrt hR => ?_) ⟨_, _, _, rfl⟩ ?_
  · obtain ⟨s1, s2, s3, rfl⟩ := hI
    obtain ⟨c, _, rfl⟩ := List.mem_map.mp hd'
    simp only [k_law_4, wpSs, wpS, wpE, wpEs, wpAnd, wpOr, wpI, wpF, wpT, wpH, Env.at, Env.put, Env.wipe, Env.nox, Slot.nox, wBin, binI, wCmp, cmpI, wBi, isTy, asL, asLT, bindT, bindTs, intsOf, boolsOf, ixL0, ixL1, ixL2, List.getElem?_cons_zero, List.getElem?_cons_succ, List.nil_append, List.cons_append, List.append_nil, if_true, ite_true, hw]
    refine ⟨c, rfl, fun a h1 _ w1 _ => ?_⟩
    simp only [k_law_3, wpSs, wpS, wpE, wpEs, wpAnd, wpOr, wpI, wpF, wpT, wpH, Env.at, Env.put, Env.wipe, Env.nox, Slot.nox, wBin, binI, wCmp, cmpI, wBi, isTy, asL, asLT, bindT, bindTs, intsOf, boolsOf, ixL0, ixL1, ixL2, List.getElem?_cons_zero, List.getElem?_cons_succ, List.nil_append, List.cons_append, List.append_nil, if_true, ite_true, hd]
    refine ⟨a, _, rfl, w1, by decide, fun u v a' b m l' g h2 d w2 _ => ?_⟩
    simp only [k_law_2, wpSs, wpS, wpE, wpEs, wpAnd, wpOr, wpI, wpF, wpT, wpH, Env.at, Env.put, Env.wipe, Env.nox, Slot.nox, wBin, binI, wCmp, cmpI, wBi, isTy, asL, asLT, bindT, bindTs, intsOf, boolsOf, ixL0, ixL1, ixL2, List.getElem?_cons_zero, List.getElem?_cons_succ, List.nil_append, List.cons_append, List.append_nil, if_true, ite_true, hc, hp]
    refine ⟨a, _, u, v, a', b, m, l', g, rfl, d, w2, by decide, fun h3 w3 _ => ?_⟩
    refine ⟨a, _, u, v, a', b, m, l', g, rfl, d, w3, by decide, fun h4 w4 _ => ?_⟩
    simp only [k_law_1, wpSs, wpS, wpE, wpEs, wpAnd, wpOr, wpI, wpF, wpT, wpH, Env.at, Env.put, Env.wipe, Env.nox, Slot.nox, wBin, binI, wCmp, cmpI, wBi, isTy, asL, asLT, bindT, bindTs, intsOf, boolsOf, ixL0, ixL1, ixL2, List.getElem?_cons_zero, List.getElem?_cons_succ, List.nil_append, List.cons_append, List.append_nil, if_true, ite_true, he]
    refine ⟨a, u, v, a', b, m, l', g, rfl, d, ?_⟩
    exact hn' _ _ ⟨_, _, _, rfl⟩
  rintro σ h' ⟨s1, s2, s3, rfl⟩
  simp only [k_law_5, wpSs, wpS, wpE, wpEs, wpAnd, wpOr, wpI, wpF, wpT, wpH, Env.at, Env.put, Env.wipe, Env.nox, Slot.nox, wBin, binI, wCmp, cmpI, wBi, isTy, asL, asLT, bindT, bindTs, intsOf, boolsOf, ixL0, ixL1, ixL2, List.getElem?_cons_zero, List.getElem?_cons_succ, List.nil_append, List.cons_append, List.append_nil, if_true, ite_true]
  exact q _
theorem m_drawn : ∀ ds h Q Q' R R', (∀ d h, Q d h → Q' d h) → (∀ x h, R x h → R' x h) → sp_drawn ds h Q R → sp_drawn ds h Q' R' := by
  rintro ds h Q Q' R R' k _ ⟨a1, a2, a3, a4, a5, q⟩
  exact ⟨a1, a2, a3, a4, a5, fun c1 c2 c3 c4 c5 c6 c7 c8 b1 b2 b3 => k _ _ (q c1 c2 c3 c4 c5 c6 c7 c8 b1 b2 b3)⟩
theorem m_counts : ∀ ds h Q Q' R R', (∀ d h, Q d h → Q' d h) → (∀ x h, R x h → R' x h) → sp_counts ds h Q R → sp_counts ds h Q' R' := by
  rintro ds h Q Q' R R' k _ ⟨a1, a2, a3, a4, a5, a6, a7, a8, a9, b1, b2, b3, b4, q⟩
  exact ⟨a1, a2, a3, a4, a5, a6, a7, a8, a9, b1, b2, b3, b4, fun h' c1 c2 => k _ _ (q h' c1 c2)⟩
theorem m_places : ∀ ds h Q Q' R R', (∀ d h, Q d h → Q' d h) → (∀ x h, R x h → R' x h) → sp_places ds h Q R → sp_places ds h Q' R' := by
  rintro ds h Q Q' R R' k _ ⟨a1, a2, a3, a4, a5, a6, a7, a8, a9, b1, b2, b3, b4, q⟩
  exact ⟨a1, a2, a3, a4, a5, a6, a7, a8, a9, b1, b2, b3, b4, fun h' c1 c2 => k _ _ (q h' c1 c2)⟩
theorem m_ends : ∀ ds h Q Q' R R', (∀ d h, Q d h → Q' d h) → (∀ x h, R x h → R' x h) → sp_ends ds h Q R → sp_ends ds h Q' R' := by
  rintro ds h Q Q' R R' k _ ⟨a1, a3, a4, a5, a6, a7, a8, a9, b1, b2, q⟩
  exact ⟨a1, a3, a4, a5, a6, a7, a8, a9, b1, b2, k _ _ q⟩
theorem m_law : ∀ ds h Q Q' R R', (∀ d h, Q d h → Q' d h) → (∀ x h, R x h → R' x h) → sp_law ds h Q R → sp_law ds h Q' R' := by
  rintro ds h Q Q' R R' k _ ⟨a1, a2, a3, q⟩
  exact ⟨a1, a2, a3, fun h' => k _ _ (q h')⟩
end FF

set_option maxHeartbeats 0
namespace FF
open PySem PySem.Spec PyProof.Rows L2
abbrev tp (i : Nat) : Stmt := PySem.Challenge.pw_farfloats_k21_whole_ranges_cut_and_turne.main.body.getD i (.Pass ⟨0, 0, 0, 0⟩)
def tab : List (Nat × Spec) := [(1, sp_is_integer), (6, sp_is_between), (11, sp_check_between), (0, sp_floors), (3, sp_floors_of), (8, sp_count_of), (7, sp_around), (9, sp_hits_of), (10, sp_nth_of), (13, sp_first_of), (2, sp_check_range), (12, sp_check_residues), (14, sp_hits), (16, sp_first_hit), (15, sp_last_hit), (17, sp_hit_at), (18, sp_near_of), (20, sp_nearest_of), (19, sp_least_residue), (21, sp_greatest_residue), (22, sp_nearest), (1000, sp_draw), (1001, sp_pick), (1002, sp_script), (1003, sp_well), (1010, sp_drawn), (1011, sp_places), (1012, sp_counts), (1013, sp_ends), (1014, sp_law)]
abbrev gm : Gam := gamOf tab
def ats : List (Nat × Str × Option Str) := [(1, "is_integer", none), (6, "is_between", none), (11, "check_between", none), (0, "floors", none), (3, "floors_of", none), (8, "count_of", none), (7, "around", none), (9, "hits_of", none), (10, "nth_of", none), (13, "first_of", none), (2, "check_range", none), (12, "check_residues", none), (14, "hits", none), (16, "first_hit", none), (15, "last_hit", none), (17, "hit_at", none), (18, "near_of", none), (20, "nearest_of", none), (19, "least_residue", none), (21, "greatest_residue", none), (22, "nearest", none), (1000, "_law_draw", none), (1001, "_law_pick", none), (1002, "_law_script", none), (1003, "_law_well", none), (1010, "_law_drawn", none), (1011, "_law_places_right", none), (1012, "_law_counts_right", none), (1013, "_law_ends_right", none), (1014, "law", none)]
def at0 : Str × Option Str := ("is_integer", none)
abbrev tbK (K : PySem.W.Frag) : Tb := tbOf K ats at0 (fun _ => "") [] (by decide) (fun _ => "")
def d_is_integer : He.DefD := ⟨("is_integer", none), "is_integer", "is_integer", defArgs (tp 4), defBody (tp 4), defScope (tp 4), [], []⟩
def d_is_between : He.DefD := ⟨("is_between", none), "is_between", "is_between", defArgs (tp 5), defBody (tp 5), defScope (tp 5), [], []⟩
def d_check_between : He.DefD := ⟨("check_between", none), "check_between", "check_between", defArgs (tp 6), defBody (tp 6), defScope (tp 6), [], []⟩
def d_floors : He.DefD := ⟨("floors", none), "floors", "floors", defArgs (tp 8), defBody (tp 8), defScope (tp 8), [], []⟩
def d_floors_of : He.DefD := ⟨("floors_of", none), "floors_of", "floors_of", defArgs (tp 9), defBody (tp 9), defScope (tp 9), [], []⟩
def d_count_of : He.DefD := ⟨("count_of", none), "count_of", "count_of", defArgs (tp 10), defBody (tp 10), defScope (tp 10), [], []⟩
def d_around : He.DefD := ⟨("around", none), "around", "around", defArgs (tp 11), defBody (tp 11), defScope (tp 11), [], []⟩
def d_hits_of : He.DefD := ⟨("hits_of", none), "hits_of", "hits_of", defArgs (tp 12), defBody (tp 12), defScope (tp 12), [], []⟩
def d_nth_of : He.DefD := ⟨("nth_of", none), "nth_of", "nth_of", defArgs (tp 13), defBody (tp 13), defScope (tp 13), [], []⟩
def d_first_of : He.DefD := ⟨("first_of", none), "first_of", "first_of", defArgs (tp 14), defBody (tp 14), defScope (tp 14), [], []⟩
def d_check_range : He.DefD := ⟨("check_range", none), "check_range", "check_range", defArgs (tp 17), defBody (tp 17), defScope (tp 17), [], []⟩
def d_check_residues : He.DefD := ⟨("check_residues", none), "check_residues", "check_residues", defArgs (tp 18), defBody (tp 18), defScope (tp 18), [], []⟩
def d_hits : He.DefD := ⟨("hits", none), "hits", "hits", defArgs (tp 19), defBody (tp 19), defScope (tp 19), [], []⟩
def d_first_hit : He.DefD := ⟨("first_hit", none), "first_hit", "first_hit", defArgs (tp 20), defBody (tp 20), defScope (tp 20), [], []⟩
def d_last_hit : He.DefD := ⟨("last_hit", none), "last_hit", "last_hit", defArgs (tp 21), defBody (tp 21), defScope (tp 21), [], []⟩
def d_hit_at : He.DefD := ⟨("hit_at", none), "hit_at", "hit_at", defArgs (tp 22), defBody (tp 22), defScope (tp 22), [], []⟩
def d_near_of : He.DefD := ⟨("near_of", none), "near_of", "near_of", defArgs (tp 15), defBody (tp 15), defScope (tp 15), [], []⟩
def d_nearest_of : He.DefD := ⟨("nearest_of", none), "nearest_of", "nearest_of", defArgs (tp 16), defBody (tp 16), defScope (tp 16), [], []⟩
def d_least_residue : He.DefD := ⟨("least_residue", none), "least_residue", "least_residue", defArgs (tp 23), defBody (tp 23), defScope (tp 23), [], []⟩
def d_greatest_residue : He.DefD := ⟨("greatest_residue", none), "greatest_residue", "greatest_residue", defArgs (tp 24), defBody (tp 24), defScope (tp 24), [], []⟩
def d_nearest : He.DefD := ⟨("nearest", none), "nearest", "nearest", defArgs (tp 25), defBody (tp 25), defScope (tp 25), [], [("apart", .bl false)]⟩
def d_l_draw : He.DefD := ⟨("_law_draw", none), "_law_draw", "_law_draw", defArgs (tp 28), defBody (tp 28), defScope (tp 28), [], []⟩
def d_l_pick : He.DefD := ⟨("_law_pick", none), "_law_pick", "_law_pick", defArgs (tp 29), defBody (tp 29), defScope (tp 29), [], []⟩
def d_l_script : He.DefD := ⟨("_law_script", none), "_law_script", "_law_script", defArgs (tp 30), defBody (tp 30), defScope (tp 30), [], []⟩
def d_l_well : He.DefD := ⟨("_law_well", none), "_law_well", "_law_well", defArgs (tp 27), defBody (tp 27), defScope (tp 27), [], []⟩
def d_l_drawn : He.DefD := ⟨("_law_drawn", none), "_law_drawn", "_law_drawn", defArgs (tp 31), defBody (tp 31), defScope (tp 31), [], []⟩
def d_l_places_right : He.DefD := ⟨("_law_places_right", none), "_law_places_right", "_law_places_right", defArgs (tp 33), defBody (tp 33), defScope (tp 33), [], []⟩
def d_l_counts_right : He.DefD := ⟨("_law_counts_right", none), "_law_counts_right", "_law_counts_right", defArgs (tp 32), defBody (tp 32), defScope (tp 32), [], []⟩
def d_l_ends_right : He.DefD := ⟨("_law_ends_right", none), "_law_ends_right", "_law_ends_right", defArgs (tp 34), defBody (tp 34), defScope (tp 34), [], []⟩
def d_law : He.DefD := ⟨("law", none), "law", "law", defArgs (tp 35), defBody (tp 35), defScope (tp 35), [], []⟩
def fnL : List He.DefD := [d_is_integer, d_is_between, d_check_between, d_floors, d_floors_of, d_count_of, d_around, d_hits_of, d_nth_of, d_first_of, d_check_range, d_check_residues, d_hits, d_first_hit, d_last_hit, d_hit_at, d_near_of, d_nearest_of, d_least_residue, d_greatest_residue, d_nearest, d_l_draw, d_l_pick, d_l_script, d_l_well, d_l_drawn, d_l_places_right, d_l_counts_right, d_l_ends_right, d_law]
def faL : List He.Fa := [.glo "is_integer", .glo "is_between", .glo "check_between", .glo "floors", .glo "floors_of", .glo "count_of", .glo "around", .glo "hits_of", .glo "nth_of", .glo "first_of", .glo "check_range", .glo "check_residues", .glo "hits", .glo "first_hit", .glo "last_hit", .glo "hit_at", .glo "near_of", .glo "nearest_of", .glo "least_residue", .glo "greatest_residue", .glo "nearest", .glo "_law_draw", .glo "_law_pick", .glo "_law_script", .glo "_law_well", .glo "_law_drawn", .glo "_law_places_right", .glo "_law_counts_right", .glo "_law_ends_right", .glo "law", .free "abs", .free "int", .free "len", .free "max", .free "min", .free "sum", .free "all", .free "any", .free "range", .free "zip", .free "enumerate", .free "isinstance", .free "bool", .free "str", .free "tuple", .free "list"]
def N_is_integer : List Str := ["value"]
theorem sc_is_integer : FnScope N_is_integer ["value"] (defScope (tp 4)) := FnScope.by (by decide +kernel)
def W_is_integer : Wd := ⟨[], [], [], [], [], false⟩
theorem ck_is_integer : chkSs W_is_integer (ckOf N_is_integer (defScope (tp 4))) ir_is_integer.body (defBody (tp 4)) = true := by decide +kernel
def N_is_between : List Str := ["value", "low", "high"]
theorem sc_is_between : FnScope N_is_between ["value", "low", "high"] (defScope (tp 5)) := FnScope.by (by decide +kernel)
def W_is_between : Wd := ⟨[(1, "is_integer")], [], [], [], [], false⟩
theorem ck_is_between : chkSs W_is_between (ckOf N_is_between (defScope (tp 5))) ir_is_between.body (defBody (tp 5)) = true := by decide +kernel
def N_check_between : List Str := ["argument", "value", "low", "high"]
theorem sc_check_between : FnScope N_check_between ["argument", "value", "low", "high"] (defScope (tp 6)) := FnScope.by (by decide +kernel)
def W_check_between : Wd := ⟨[(6, "is_between"), (1, "is_integer")], [], [], [], [], false⟩
theorem ck_check_between : chkSs W_check_between (ckOf N_check_between (defScope (tp 6))) ir_check_between.body (defBody (tp 6)) = true := by decide +kernel
def N_floors : List Str := ["many", "a", "b", "m", "found", "top"]
theorem sc_floors : FnScope N_floors ["many", "a", "b", "m"] (defScope (tp 8)) := FnScope.by (by decide +kernel)
def W_floors : Wd := ⟨[(11, "check_between"), (6, "is_between"), (1, "is_integer")], [], [], [], [], false⟩
theorem ck_floors : chkSs W_floors (ckOf N_floors (defScope (tp 8))) ir_floors.body (defBody (tp 8)) = true := by decide +kernel
def N_floors_of : List Str := ["first", "last", "a", "b", "m"]
theorem sc_floors_of : FnScope N_floors_of ["first", "last", "a", "b", "m"] (defScope (tp 9)) := FnScope.by (by decide +kernel)
def W_floors_of : Wd := ⟨[(0, "floors"), (11, "check_between"), (6, "is_between"), (1, "is_integer")], [], [], [], [], false⟩
theorem ck_floors_of : chkSs W_floors_of (ckOf N_floors_of (defScope (tp 9))) ir_floors_of.body (defBody (tp 9)) = true := by decide +kernel
def N_count_of : List Str := ["first", "last", "a", "b", "m", "low", "high"]
theorem sc_count_of : FnScope N_count_of ["first", "last", "a", "b", "m", "low", "high"] (defScope (tp 10)) := FnScope.by (by decide +kernel)
def W_count_of : Wd := ⟨[(3, "floors_of"), (0, "floors"), (11, "check_between"), (6, "is_between"), (1, "is_integer")], [], [], [], [], false⟩
theorem ck_count_of : chkSs W_count_of (ckOf N_count_of (defScope (tp 10))) ir_count_of.body (defBody (tp 10)) = true := by decide +kernel
def N_around : List Str := ["a", "b", "m", "low", "high"]
theorem sc_around : FnScope N_around ["a", "b", "m", "low", "high"] (defScope (tp 11)) := FnScope.by (by decide +kernel)
def W_around : Wd := ⟨[(8, "count_of"), (3, "floors_of"), (0, "floors"), (11, "check_between"), (6, "is_between"), (1, "is_integer")], [], [], [], [], false⟩
theorem ck_around : chkSs W_around (ckOf N_around (defScope (tp 11))) ir_around.body (defBody (tp 11)) = true := by decide +kernel
def N_hits_of : List Str := ["first", "last", "a", "b", "m", "low", "high", "line", "most"]
theorem sc_hits_of : FnScope N_hits_of ["first", "last", "a", "b", "m", "low", "high"] (defScope (tp 12)) := FnScope.by (by decide +kernel)
def W_hits_of : Wd := ⟨[(7, "around"), (8, "count_of"), (3, "floors_of"), (0, "floors"), (11, "check_between"), (6, "is_between"), (1, "is_integer")], [], [], [], [], false⟩
theorem ck_hits_of : chkSs W_hits_of (ckOf N_hits_of (defScope (tp 12))) ir_hits_of.body (defBody (tp 12)) = true := by decide +kernel
def N_nth_of : List Str := ["first", "last", "a", "b", "m", "low", "high", "j", "line", "most", "begin", "half"]
theorem sc_nth_of : FnScope N_nth_of ["first", "last", "a", "b", "m", "low", "high", "j"] (defScope (tp 13)) := FnScope.by (by decide +kernel)
def W_nth_of : Wd := ⟨[(9, "hits_of"), (7, "around"), (8, "count_of"), (3, "floors_of"), (0, "floors"), (11, "check_between"), (6, "is_between"), (1, "is_integer")], [], [], [], [], false⟩
theorem ck_nth_of : chkSs W_nth_of (ckOf N_nth_of (defScope (tp 13))) ir_nth_of.body (defBody (tp 13)) = true := by decide +kernel
def N_first_of : List Str := ["first", "last", "a", "b", "m", "low", "high"]
theorem sc_first_of : FnScope N_first_of ["first", "last", "a", "b", "m", "low", "high"] (defScope (tp 14)) := FnScope.by (by decide +kernel)
def W_first_of : Wd := ⟨[(10, "nth_of"), (9, "hits_of"), (7, "around"), (8, "count_of"), (3, "floors_of"), (0, "floors"), (11, "check_between"), (6, "is_between"), (1, "is_integer")], [], [], [], [], false⟩
theorem ck_first_of : chkSs W_first_of (ckOf N_first_of (defScope (tp 14))) ir_first_of.body (defBody (tp 14)) = true := by decide +kernel
def N_check_range : List Str := ["line", "first", "last", "one"]
theorem sc_check_range : FnScope N_check_range ["line", "first", "last"] (defScope (tp 17)) := FnScope.by (by decide +kernel)
def W_check_range : Wd := ⟨[(13, "first_of"), (10, "nth_of"), (9, "hits_of"), (7, "around"), (8, "count_of"), (3, "floors_of"), (0, "floors"), (11, "check_between"), (6, "is_between"), (1, "is_integer")], [], [], [], [], false⟩
theorem ck_check_range : chkSs W_check_range (ckOf N_check_range (defScope (tp 17))) ir_check_range.body (defBody (tp 17)) = true := by decide +kernel
def N_check_residues : List Str := ["line", "first", "last", "low", "high"]
theorem sc_check_residues : FnScope N_check_residues ["line", "first", "last", "low", "high"] (defScope (tp 18)) := FnScope.by (by decide +kernel)
def W_check_residues : Wd := ⟨[(2, "check_range"), (13, "first_of"), (10, "nth_of"), (9, "hits_of"), (7, "around"), (8, "count_of"), (3, "floors_of"), (0, "floors"), (11, "check_between"), (6, "is_between"), (1, "is_integer")], [], [], [], [], false⟩
theorem ck_check_residues : chkSs W_check_residues (ckOf N_check_residues (defScope (tp 18))) ir_check_residues.body (defBody (tp 18)) = true := by decide +kernel
def N_hits : List Str := ["line", "first", "last", "low", "high"]
theorem sc_hits : FnScope N_hits ["line", "first", "last", "low", "high"] (defScope (tp 19)) := FnScope.by (by decide +kernel)
def W_hits : Wd := ⟨[(12, "check_residues"), (2, "check_range"), (13, "first_of"), (10, "nth_of"), (9, "hits_of"), (7, "around"), (8, "count_of"), (3, "floors_of"), (0, "floors"), (11, "check_between"), (6, "is_between"), (1, "is_integer")], [], [], [], [], false⟩
theorem ck_hits : chkSs W_hits (ckOf N_hits (defScope (tp 19))) ir_hits.body (defBody (tp 19)) = true := by decide +kernel
def N_first_hit : List Str := ["line", "first", "last", "low", "high"]
theorem sc_first_hit : FnScope N_first_hit ["line", "first", "last", "low", "high"] (defScope (tp 20)) := FnScope.by (by decide +kernel)
def W_first_hit : Wd := ⟨[(14, "hits"), (12, "check_residues"), (2, "check_range"), (13, "first_of"), (10, "nth_of"), (9, "hits_of"), (7, "around"), (8, "count_of"), (3, "floors_of"), (0, "floors"), (11, "check_between"), (6, "is_between"), (1, "is_integer")], [], [], [], [], false⟩
theorem ck_first_hit : chkSs W_first_hit (ckOf N_first_hit (defScope (tp 20))) ir_first_hit.body (defBody (tp 20)) = true := by decide +kernel
def N_last_hit : List Str := ["line", "first", "last", "low", "high", "many"]
theorem sc_last_hit : FnScope N_last_hit ["line", "first", "last", "low", "high"] (defScope (tp 21)) := FnScope.by (by decide +kernel)
def W_last_hit : Wd := ⟨[(16, "first_hit"), (14, "hits"), (12, "check_residues"), (2, "check_range"), (13, "first_of"), (10, "nth_of"), (9, "hits_of"), (7, "around"), (8, "count_of"), (3, "floors_of"), (0, "floors"), (11, "check_between"), (6, "is_between"), (1, "is_integer")], [], [], [], [], false⟩
theorem ck_last_hit : chkSs W_last_hit (ckOf N_last_hit (defScope (tp 21))) ir_last_hit.body (defBody (tp 21)) = true := by decide +kernel
def N_hit_at : List Str := ["line", "first", "last", "low", "high", "j"]
theorem sc_hit_at : FnScope N_hit_at ["line", "first", "last", "low", "high", "j"] (defScope (tp 22)) := FnScope.by (by decide +kernel)
def W_hit_at : Wd := ⟨[(15, "last_hit"), (16, "first_hit"), (14, "hits"), (12, "check_residues"), (2, "check_range"), (13, "first_of"), (10, "nth_of"), (9, "hits_of"), (7, "around"), (8, "count_of"), (3, "floors_of"), (0, "floors"), (11, "check_between"), (6, "is_between"), (1, "is_integer")], [], [], [], [], false⟩
theorem ck_hit_at : chkSs W_hit_at (ckOf N_hit_at (defScope (tp 22))) ir_hit_at.body (defBody (tp 22)) = true := by decide +kernel
def N_near_of : List Str := ["first", "last", "a", "b", "m", "goal", "distance"]
theorem sc_near_of : FnScope N_near_of ["first", "last", "a", "b", "m", "goal", "distance"] (defScope (tp 15)) := FnScope.by (by decide +kernel)
def W_near_of : Wd := ⟨[(17, "hit_at"), (15, "last_hit"), (16, "first_hit"), (14, "hits"), (12, "check_residues"), (2, "check_range"), (13, "first_of"), (10, "nth_of"), (9, "hits_of"), (7, "around"), (8, "count_of"), (3, "floors_of"), (0, "floors"), (11, "check_between"), (6, "is_between"), (1, "is_integer")], [], [], [], [], false⟩
theorem ck_near_of : chkSs W_near_of (ckOf N_near_of (defScope (tp 15))) ir_near_of.body (defBody (tp 15)) = true := by decide +kernel
def N_nearest_of : List Str := ["first", "last", "a", "b", "m", "goal", "apart", "most", "none", "low", "high", "half", "ends", "places", "end", "place"]
theorem sc_nearest_of : FnScope N_nearest_of ["first", "last", "a", "b", "m", "goal", "apart", "most"] (defScope (tp 16)) := FnScope.by (by decide +kernel)
def W_nearest_of : Wd := ⟨[(18, "near_of"), (17, "hit_at"), (15, "last_hit"), (16, "first_hit"), (14, "hits"), (12, "check_residues"), (2, "check_range"), (13, "first_of"), (10, "nth_of"), (9, "hits_of"), (7, "around"), (8, "count_of"), (3, "floors_of"), (0, "floors"), (11, "check_between"), (6, "is_between"), (1, "is_integer")], [], [], [], [], false⟩
theorem ck_nearest_of : chkSs W_nearest_of (ckOf N_nearest_of (defScope (tp 16))) ir_nearest_of.body (defBody (tp 16)) = true := by decide +kernel
def N_least_residue : List Str := ["line", "first", "last", "a", "b", "m", "low", "high", "half"]
theorem sc_least_residue : FnScope N_least_residue ["line", "first", "last"] (defScope (tp 23)) := FnScope.by (by decide +kernel)
def W_least_residue : Wd := ⟨[(20, "nearest_of"), (18, "near_of"), (17, "hit_at"), (15, "last_hit"), (16, "first_hit"), (14, "hits"), (12, "check_residues"), (2, "check_range"), (13, "first_of"), (10, "nth_of"), (9, "hits_of"), (7, "around"), (8, "count_of"), (3, "floors_of"), (0, "floors"), (11, "check_between"), (6, "is_between"), (1, "is_integer")], [], [], [], [], false⟩
theorem ck_least_residue : chkSs W_least_residue (ckOf N_least_residue (defScope (tp 23))) ir_least_residue.body (defBody (tp 23)) = true := by decide +kernel
def N_greatest_residue : List Str := ["line", "first", "last", "found"]
theorem sc_greatest_residue : FnScope N_greatest_residue ["line", "first", "last"] (defScope (tp 24)) := FnScope.by (by decide +kernel)
def W_greatest_residue : Wd := ⟨[(19, "least_residue"), (20, "nearest_of"), (18, "near_of"), (17, "hit_at"), (15, "last_hit"), (16, "first_hit"), (14, "hits"), (12, "check_residues"), (2, "check_range"), (13, "first_of"), (10, "nth_of"), (9, "hits_of"), (7, "around"), (8, "count_of"), (3, "floors_of"), (0, "floors"), (11, "check_between"), (6, "is_between"), (1, "is_integer")], [], [], [], [], false⟩
theorem ck_greatest_residue : chkSs W_greatest_residue (ckOf N_greatest_residue (defScope (tp 24))) ir_greatest_residue.body (defBody (tp 24)) = true := by decide +kernel
def N_nearest : List Str := ["line", "first", "last", "goal", "apart"]
theorem sc_nearest : FnScope N_nearest ["line", "first", "last", "goal", "apart"] (defScope (tp 25)) := FnScope.by (by decide +kernel)
def W_nearest : Wd := ⟨[(21, "greatest_residue"), (19, "least_residue"), (20, "nearest_of"), (18, "near_of"), (17, "hit_at"), (15, "last_hit"), (16, "first_hit"), (14, "hits"), (12, "check_residues"), (2, "check_range"), (13, "first_of"), (10, "nth_of"), (9, "hits_of"), (7, "around"), (8, "count_of"), (3, "floors_of"), (0, "floors"), (11, "check_between"), (6, "is_between"), (1, "is_integer")], [], [], [], [], false⟩
theorem ck_nearest : chkSs W_nearest (ckOf N_nearest (defScope (tp 25))) ir_nearest.body (defBody (tp 25)) = true := by decide +kernel
def N_l_draw : List Str := ["_law_well_here", "_law_many", "_law_digit", "_law_mixed"]
theorem sc_l_draw : FnScope N_l_draw ["_law_well_here", "_law_many"] (defScope (tp 28)) := FnScope.by (by decide +kernel)
def W_l_draw : Wd := ⟨[(21, "greatest_residue"), (19, "least_residue"), (20, "nearest_of"), (18, "near_of"), (17, "hit_at"), (15, "last_hit"), (16, "first_hit"), (14, "hits"), (12, "check_residues"), (2, "check_range"), (13, "first_of"), (10, "nth_of"), (9, "hits_of"), (7, "around"), (8, "count_of"), (3, "floors_of"), (0, "floors"), (11, "check_between"), (6, "is_between"), (1, "is_integer")], [(22, "nearest", 4, ["apart"], [0, 1, 2, 3, 4])], [(22, "nearest", [(.bl false)])], [], [], false⟩
theorem ck_l_draw : chkSs W_l_draw (ckOf N_l_draw (defScope (tp 28))) ir_l_draw.body (defBody (tp 28)) = true := by decide +kernel
def N_l_pick : List Str := ["_law_well_here", "_law_some"]
theorem sc_l_pick : FnScope N_l_pick ["_law_well_here", "_law_some"] (defScope (tp 29)) := FnScope.by (by decide +kernel)
def W_l_pick : Wd := ⟨[(1000, "_law_draw"), (21, "greatest_residue"), (19, "least_residue"), (20, "nearest_of"), (18, "near_of"), (17, "hit_at"), (15, "last_hit"), (16, "first_hit"), (14, "hits"), (12, "check_residues"), (2, "check_range"), (13, "first_of"), (10, "nth_of"), (9, "hits_of"), (7, "around"), (8, "count_of"), (3, "floors_of"), (0, "floors"), (11, "check_between"), (6, "is_between"), (1, "is_integer")], [(22, "nearest", 4, ["apart"], [0, 1, 2, 3, 4])], [(22, "nearest", [(.bl false)])], [], [], false⟩
theorem ck_l_pick : chkSs W_l_pick (ckOf N_l_pick (defScope (tp 29))) ir_l_pick.body (defBody (tp 29)) = true := by decide +kernel
def N_l_script : List Str := ["_law_script_here", "_law_most"]
theorem sc_l_script : FnScope N_l_script ["_law_script_here", "_law_most"] (defScope (tp 30)) := FnScope.by (by decide +kernel)
def W_l_script : Wd := ⟨[(1001, "_law_pick"), (1000, "_law_draw"), (21, "greatest_residue"), (19, "least_residue"), (20, "nearest_of"), (18, "near_of"), (17, "hit_at"), (15, "last_hit"), (16, "first_hit"), (14, "hits"), (12, "check_residues"), (2, "check_range"), (13, "first_of"), (10, "nth_of"), (9, "hits_of"), (7, "around"), (8, "count_of"), (3, "floors_of"), (0, "floors"), (11, "check_between"), (6, "is_between"), (1, "is_integer")], [(22, "nearest", 4, ["apart"], [0, 1, 2, 3, 4])], [(22, "nearest", [(.bl false)])], [], [], false⟩
theorem ck_l_script : chkSs W_l_script (ckOf N_l_script (defScope (tp 30))) ir_l_script.body (defBody (tp 30)) = true := by decide +kernel
def N_l_well : List Str := ["_law_cell"]
theorem sc_l_well : FnScope N_l_well ["_law_cell"] (defScope (tp 27)) := FnScope.by (by decide +kernel)
def W_l_well : Wd := ⟨[(1002, "_law_script"), (1001, "_law_pick"), (1000, "_law_draw"), (21, "greatest_residue"), (19, "least_residue"), (20, "nearest_of"), (18, "near_of"), (17, "hit_at"), (15, "last_hit"), (16, "first_hit"), (14, "hits"), (12, "check_residues"), (2, "check_range"), (13, "first_of"), (10, "nth_of"), (9, "hits_of"), (7, "around"), (8, "count_of"), (3, "floors_of"), (0, "floors"), (11, "check_between"), (6, "is_between"), (1, "is_integer")], [(22, "nearest", 4, ["apart"], [0, 1, 2, 3, 4])], [(22, "nearest", [(.bl false)])], [], [], false⟩
theorem ck_l_well : chkSs W_l_well (ckOf N_l_well (defScope (tp 27))) ir_l_well.body (defBody (tp 27)) = true := by decide +kernel
def N_l_drawn : List Str := ["_law_well_here", "_law_wide", "_law_size", "_law_grid", "_law_begin", "_law_least_one", "_law_most"]
theorem sc_l_drawn : FnScope N_l_drawn ["_law_well_here"] (defScope (tp 31)) := FnScope.by (by decide +kernel)
def W_l_drawn : Wd := ⟨[(1003, "_law_well"), (1002, "_law_script"), (1001, "_law_pick"), (1000, "_law_draw"), (21, "greatest_residue"), (19, "least_residue"), (20, "nearest_of"), (18, "near_of"), (17, "hit_at"), (15, "last_hit"), (16, "first_hit"), (14, "hits"), (12, "check_residues"), (2, "check_range"), (13, "first_of"), (10, "nth_of"), (9, "hits_of"), (7, "around"), (8, "count_of"), (3, "floors_of"), (0, "floors"), (11, "check_between"), (6, "is_between"), (1, "is_integer")], [(22, "nearest", 4, ["apart"], [0, 1, 2, 3, 4])], [(22, "nearest", [(.bl false)])], [], [], false⟩
theorem ck_l_drawn : chkSs W_l_drawn (ckOf N_l_drawn (defScope (tp 31))) ir_l_drawn.body (defBody (tp 31)) = true := by decide +kernel
def N_l_places_right : List Str := ["_law_well_here", "_law_drawn_here", "_law_grid", "_law_begin", "_law_end", "_law_least_one", "_law_most", "_law_many", "_law_told", "_law_k", "_law_place"]
theorem sc_l_places_right : FnScope N_l_places_right ["_law_well_here", "_law_drawn_here"] (defScope (tp 33)) := FnScope.by (by decide +kernel)
def W_l_places_right : Wd := ⟨[(1010, "_law_drawn"), (1003, "_law_well"), (1002, "_law_script"), (1001, "_law_pick"), (1000, "_law_draw"), (21, "greatest_residue"), (19, "least_residue"), (20, "nearest_of"), (18, "near_of"), (17, "hit_at"), (15, "last_hit"), (16, "first_hit"), (14, "hits"), (12, "check_residues"), (2, "check_range"), (13, "first_of"), (10, "nth_of"), (9, "hits_of"), (7, "around"), (8, "count_of"), (3, "floors_of"), (0, "floors"), (11, "check_between"), (6, "is_between"), (1, "is_integer")], [(22, "nearest", 4, ["apart"], [0, 1, 2, 3, 4])], [(22, "nearest", [(.bl false)])], [], [], false⟩
theorem ck_l_places_right : chkSs W_l_places_right (ckOf N_l_places_right (defScope (tp 33))) ir_l_places_right.body (defBody (tp 33)) = true := by decide +kernel
def N_l_counts_right : List Str := ["_law_well_here", "_law_drawn_here", "_law_grid", "_law_begin", "_law_end", "_law_least_one", "_law_most", "_law_a", "_law_b", "_law_size", "_law_many", "_law_cut", "_law_parts", "_law_row", "_law_others", "_law_more", "_law_times_so"]
theorem sc_l_counts_right : FnScope N_l_counts_right ["_law_well_here", "_law_drawn_here"] (defScope (tp 32)) := FnScope.by (by decide +kernel)
def W_l_counts_right : Wd := ⟨[(1011, "_law_places_right"), (1010, "_law_drawn"), (1003, "_law_well"), (1002, "_law_script"), (1001, "_law_pick"), (1000, "_law_draw"), (21, "greatest_residue"), (19, "least_residue"), (20, "nearest_of"), (18, "near_of"), (17, "hit_at"), (15, "last_hit"), (16, "first_hit"), (14, "hits"), (12, "check_residues"), (2, "check_range"), (13, "first_of"), (10, "nth_of"), (9, "hits_of"), (7, "around"), (8, "count_of"), (3, "floors_of"), (0, "floors"), (11, "check_between"), (6, "is_between"), (1, "is_integer")], [(22, "nearest", 4, ["apart"], [0, 1, 2, 3, 4])], [(22, "nearest", [(.bl false)])], [], [], false⟩
theorem ck_l_counts_right : chkSs W_l_counts_right (ckOf N_l_counts_right (defScope (tp 32))) ir_l_counts_right.body (defBody (tp 32)) = true := by decide +kernel
def N_l_ends_right : List Str := ["_law_well_here", "_law_drawn_here", "_law_grid", "_law_begin", "_law_end", "_law_aim", "_law_most", "_law_size", "_law_low_end", "_law_high_end", "_law_told", "_law_apart_so", "_law_row", "_law_residue", "_law_sides"]
theorem sc_l_ends_right : FnScope N_l_ends_right ["_law_well_here", "_law_drawn_here"] (defScope (tp 34)) := FnScope.by (by decide +kernel)
def W_l_ends_right : Wd := ⟨[(1012, "_law_counts_right"), (1011, "_law_places_right"), (1010, "_law_drawn"), (1003, "_law_well"), (1002, "_law_script"), (1001, "_law_pick"), (1000, "_law_draw"), (21, "greatest_residue"), (19, "least_residue"), (20, "nearest_of"), (18, "near_of"), (17, "hit_at"), (15, "last_hit"), (16, "first_hit"), (14, "hits"), (12, "check_residues"), (2, "check_range"), (13, "first_of"), (10, "nth_of"), (9, "hits_of"), (7, "around"), (8, "count_of"), (3, "floors_of"), (0, "floors"), (11, "check_between"), (6, "is_between"), (1, "is_integer")], [(22, "nearest", 4, ["apart"], [0, 1, 2, 3, 4])], [(22, "nearest", [(.bl false)])], [], [], false⟩
theorem ck_l_ends_right : chkSs W_l_ends_right (ckOf N_l_ends_right (defScope (tp 34))) ir_l_ends_right.body (defBody (tp 34)) = true := by decide +kernel
def N_law : List Str := ["_law_script_here", "_law_cell", "_law_well_here", "_law_drawn_here"]
theorem sc_law : FnScope N_law ["_law_script_here"] (defScope (tp 35)) := FnScope.by (by decide +kernel)
def W_law : Wd := ⟨[(1013, "_law_ends_right"), (1012, "_law_counts_right"), (1011, "_law_places_right"), (1010, "_law_drawn"), (1003, "_law_well"), (1002, "_law_script"), (1001, "_law_pick"), (1000, "_law_draw"), (21, "greatest_residue"), (19, "least_residue"), (20, "nearest_of"), (18, "near_of"), (17, "hit_at"), (15, "last_hit"), (16, "first_hit"), (14, "hits"), (12, "check_residues"), (2, "check_range"), (13, "first_of"), (10, "nth_of"), (9, "hits_of"), (7, "around"), (8, "count_of"), (3, "floors_of"), (0, "floors"), (11, "check_between"), (6, "is_between"), (1, "is_integer")], [(22, "nearest", 4, ["apart"], [0, 1, 2, 3, 4])], [(22, "nearest", [(.bl false)])], [], [], false⟩
theorem ck_law : chkSs W_law (ckOf N_law (defScope (tp 35))) ir_law.body (defBody (tp 35)) = true := by decide +kernel
section
variable {P : Program} {w : World} {K : PySem.W.Frag} {h : Heap} {mg : Str → Option Value}
theorem facts (X : K.In h) (G : h.Ns mainGlobals mg) (c : He.SaysD faL fnL K) {f : Addr} (hfa : mg "law" = some (.ref f)) : ∃ fd : FuncData, (∀ (s : Shared) (u : Value), BindsTo s fd ⟨[u], []⟩ [("_law_script_here", u)]) ∧ ∀ base : Heap, FnOk P w K mg base (L2.CX P w) 30 f fd ["_law_script_here"] (prom (tbK K) sp_law) := by
  have fr : ∀ x ∈ stdNames, mg x = none := by
    intro x hx
    have key : He.Fa.free x ∈ faL := by
      unfold stdNames at hx
      unfold faL
      simp only [List.mem_cons, List.not_mem_nil, or_false] at hx
      rcases hx with rfl | rfl | rfl | rfl | rfl | rfl | rfl | rfl | rfl | rfl | rfl | rfl | rfl | rfl | rfl | rfl <;> simp
    obtain ⟨i, hi, e⟩ := List.mem_iff_getElem.mp key
    exact He.free_ok X G (c.fact i (f := .free x) (by rw [List.getElem?_eq_getElem hi, e]))
  have m0 : mg "is_integer" = some (.ref ((tbK K).fA 1)) := He.glo_ok X G (c.fact 0 (f := .glo "is_integer") rfl)
  obtain ⟨fd0, F0⟩ := c.def_ 0 (d := d_is_integer) rfl
  have F0 : FunD (tbK K).K "is_integer" "is_integer" (defArgs (tp 4)) (defBody (tp 4)) (defScope (tp 4)) [] [] ((tbK K).fA 1) fd0 := F0
  have m1 : mg "is_between" = some (.ref ((tbK K).fA 6)) := He.glo_ok X G (c.fact 1 (f := .glo "is_between") rfl)
  obtain ⟨fd1, F1⟩ := c.def_ 1 (d := d_is_between) rfl
  have F1 : FunD (tbK K).K "is_between" "is_between" (defArgs (tp 5)) (defBody (tp 5)) (defScope (tp 5)) [] [] ((tbK K).fA 6) fd1 := F1
  have m2 : mg "check_between" = some (.ref ((tbK K).fA 11)) := He.glo_ok X G (c.fact 2 (f := .glo "check_between") rfl)
  obtain ⟨fd2, F2⟩ := c.def_ 2 (d := d_check_between) rfl
  have F2 : FunD (tbK K).K "check_between" "check_between" (defArgs (tp 6)) (defBody (tp 6)) (defScope (tp 6)) [] [] ((tbK K).fA 11) fd2 := F2
  have m3 : mg "floors" = some (.ref ((tbK K).fA 0)) := He.glo_ok X G (c.fact 3 (f := .glo "floors") rfl)
  obtain ⟨fd3, F3⟩ := c.def_ 3 (d := d_floors) rfl
  have F3 : FunD (tbK K).K "floors" "floors" (defArgs (tp 8)) (defBody (tp 8)) (defScope (tp 8)) [] [] ((tbK K).fA 0) fd3 := F3
  have m4 : mg "floors_of" = some (.ref ((tbK K).fA 3)) := He.glo_ok X G (c.fact 4 (f := .glo "floors_of") rfl)
  obtain ⟨fd4, F4⟩ := c.def_ 4 (d := d_floors_of) rfl
  have F4 : FunD (tbK K).K "floors_of" "floors_of" (defArgs (tp 9)) (defBody (tp 9)) (defScope (tp 9)) [] [] ((tbK K).fA 3) fd4 := F4
  have m5 : mg "count_of" = some (.ref ((tbK K).fA 8)) := He.glo_ok X G (c.fact 5 (f := .glo "count_of") rfl)
  obtain ⟨fd5, F5⟩ := c.def_ 5 (d := d_count_of) rfl
  have F5 : FunD (tbK K).K "count_of" "count_of" (defArgs (tp 10)) (defBody (tp 10)) (defScope (tp 10)) [] [] ((tbK K).fA 8) fd5 := F5
  have m6 : mg "around" = some (.ref ((tbK K).fA 7)) := He.glo_ok X G (c.fact 6 (f := .glo "around") rfl)
  obtain ⟨fd6, F6⟩ := c.def_ 6 (d := d_around) rfl
  have F6 : FunD (tbK K).K "around" "around" (defArgs (tp 11)) (defBody (tp 11)) (defScope (tp 11)) [] [] ((tbK K).fA 7) fd6 := F6
  have m7 : mg "hits_of" = some (.ref ((tbK K).fA 9)) := He.glo_ok X G (c.fact 7 (f := .glo "hits_of") rfl)
  obtain ⟨fd7, F7⟩ := c.def_ 7 (d := d_hits_of) rfl
  have F7 : FunD (tbK K).K "hits_of" "hits_of" (defArgs (tp 12)) (defBody (tp 12)) (defScope (tp 12)) [] [] ((tbK K).fA 9) fd7 := F7
  have m8 : mg "nth_of" = some (.ref ((tbK K).fA 10)) := He.glo_ok X G (c.fact 8 (f := .glo "nth_of") rfl)
  obtain ⟨fd8, F8⟩ := c.def_ 8 (d := d_nth_of) rfl
  have F8 : FunD (tbK K).K "nth_of" "nth_of" (defArgs (tp 13)) (defBody (tp 13)) (defScope (tp 13)) [] [] ((tbK K).fA 10) fd8 := F8
  have m9 : mg "first_of" = some (.ref ((tbK K).fA 13)) := He.glo_ok X G (c.fact 9 (f := .glo "first_of") rfl)
  obtain ⟨fd9, F9⟩ := c.def_ 9 (d := d_first_of) rfl
  have F9 : FunD (tbK K).K "first_of" "first_of" (defArgs (tp 14)) (defBody (tp 14)) (defScope (tp 14)) [] [] ((tbK K).fA 13) fd9 := F9
  have m10 : mg "check_range" = some (.ref ((tbK K).fA 2)) := He.glo_ok X G (c.fact 10 (f := .glo "check_range") rfl)
  obtain ⟨fd10, F10⟩ := c.def_ 10 (d := d_check_range) rfl
  have F10 : FunD (tbK K).K "check_range" "check_range" (defArgs (tp 17)) (defBody (tp 17)) (defScope (tp 17)) [] [] ((tbK K).fA 2) fd10 := F10
  have m11 : mg "check_residues" = some (.ref ((tbK K).fA 12)) := He.glo_ok X G (c.fact 11 (f := .glo "check_residues") rfl)
  obtain ⟨fd11, F11⟩ := c.def_ 11 (d := d_check_residues) rfl
  have F11 : FunD (tbK K).K "check_residues" "check_residues" (defArgs (tp 18)) (defBody (tp 18)) (defScope (tp 18)) [] [] ((tbK K).fA 12) fd11 := F11
  have m12 : mg "hits" = some (.ref ((tbK K).fA 14)) := He.glo_ok X G (c.fact 12 (f := .glo "hits") rfl)
  obtain ⟨fd12, F12⟩ := c.def_ 12 (d := d_hits) rfl
  have F12 : FunD (tbK K).K "hits" "hits" (defArgs (tp 19)) (defBody (tp 19)) (defScope (tp 19)) [] [] ((tbK K).fA 14) fd12 := F12
  have m13 : mg "first_hit" = some (.ref ((tbK K).fA 16)) := He.glo_ok X G (c.fact 13 (f := .glo "first_hit") rfl)
  obtain ⟨fd13, F13⟩ := c.def_ 13 (d := d_first_hit) rfl
  have F13 : FunD (tbK K).K "first_hit" "first_hit" (defArgs (tp 20)) (defBody (tp 20)) (defScope (tp 20)) [] [] ((tbK K).fA 16) fd13 := F13
  have m14 : mg "last_hit" = some (.ref ((tbK K).fA 15)) := He.glo_ok X G (c.fact 14 (f := .glo "last_hit") rfl)
  obtain ⟨fd14, F14⟩ := c.def_ 14 (d := d_last_hit) rfl
  have F14 : FunD (tbK K).K "last_hit" "last_hit" (defArgs (tp 21)) (defBody (tp 21)) (defScope (tp 21)) [] [] ((tbK K).fA 15) fd14 := F14
  have m15 : mg "hit_at" = some (.ref ((tbK K).fA 17)) := He.glo_ok X G (c.fact 15 (f := .glo "hit_at") rfl)
  obtain ⟨fd15, F15⟩ := c.def_ 15 (d := d_hit_at) rfl
  have F15 : FunD (tbK K).K "hit_at" "hit_at" (defArgs (tp 22)) (defBody (tp 22)) (defScope (tp 22)) [] [] ((tbK K).fA 17) fd15 := F15
  have m16 : mg "near_of" = some (.ref ((tbK K).fA 18)) := He.glo_ok X G (c.fact 16 (f := .glo "near_of") rfl)
  obtain ⟨fd16, F16⟩ := c.def_ 16 (d := d_near_of) rfl
  have F16 : FunD (tbK K).K "near_of" "near_of" (defArgs (tp 15)) (defBody (tp 15)) (defScope (tp 15)) [] [] ((tbK K).fA 18) fd16 := F16
  have m17 : mg "nearest_of" = some (.ref ((tbK K).fA 20)) := He.glo_ok X G (c.fact 17 (f := .glo "nearest_of") rfl)
  obtain ⟨fd17, F17⟩ := c.def_ 17 (d := d_nearest_of) rfl
  have F17 : FunD (tbK K).K "nearest_of" "nearest_of" (defArgs (tp 16)) (defBody (tp 16)) (defScope (tp 16)) [] [] ((tbK K).fA 20) fd17 := F17
  have m18 : mg "least_residue" = some (.ref ((tbK K).fA 19)) := He.glo_ok X G (c.fact 18 (f := .glo "least_residue") rfl)
  obtain ⟨fd18, F18⟩ := c.def_ 18 (d := d_least_residue) rfl
  have F18 : FunD (tbK K).K "least_residue" "least_residue" (defArgs (tp 23)) (defBody (tp 23)) (defScope (tp 23)) [] [] ((tbK K).fA 19) fd18 := F18
  have m19 : mg "greatest_residue" = some (.ref ((tbK K).fA 21)) := He.glo_ok X G (c.fact 19 (f := .glo "greatest_residue") rfl)
  obtain ⟨fd19, F19⟩ := c.def_ 19 (d := d_greatest_residue) rfl
  have F19 : FunD (tbK K).K "greatest_residue" "greatest_residue" (defArgs (tp 24)) (defBody (tp 24)) (defScope (tp 24)) [] [] ((tbK K).fA 21) fd19 := F19
  have m20 : mg "nearest" = some (.ref ((tbK K).fA 22)) := He.glo_ok X G (c.fact 20 (f := .glo "nearest") rfl)
  obtain ⟨fd20, F20⟩ := c.def_ 20 (d := d_nearest) rfl
  have F20 : FunD (tbK K).K "nearest" "nearest" (defArgs (tp 25)) (defBody (tp 25)) (defScope (tp 25)) [] [("apart", .bl false)] ((tbK K).fA 22) fd20 := F20
  have m21 : mg "_law_draw" = some (.ref ((tbK K).fA 1000)) := He.glo_ok X G (c.fact 21 (f := .glo "_law_draw") rfl)
  obtain ⟨fd21, F21⟩ := c.def_ 21 (d := d_l_draw) rfl
  have F21 : FunD (tbK K).K "_law_draw" "_law_draw" (defArgs (tp 28)) (defBody (tp 28)) (defScope (tp 28)) [] [] ((tbK K).fA 1000) fd21 := F21
  have m22 : mg "_law_pick" = some (.ref ((tbK K).fA 1001)) := He.glo_ok X G (c.fact 22 (f := .glo "_law_pick") rfl)
  obtain ⟨fd22, F22⟩ := c.def_ 22 (d := d_l_pick) rfl
  have F22 : FunD (tbK K).K "_law_pick" "_law_pick" (defArgs (tp 29)) (defBody (tp 29)) (defScope (tp 29)) [] [] ((tbK K).fA 1001) fd22 := F22
  have m23 : mg "_law_script" = some (.ref ((tbK K).fA 1002)) := He.glo_ok X G (c.fact 23 (f := .glo "_law_script") rfl)
  obtain ⟨fd23, F23⟩ := c.def_ 23 (d := d_l_script) rfl
  have F23 : FunD (tbK K).K "_law_script" "_law_script" (defArgs (tp 30)) (defBody (tp 30)) (defScope (tp 30)) [] [] ((tbK K).fA 1002) fd23 := F23
  have m24 : mg "_law_well" = some (.ref ((tbK K).fA 1003)) := He.glo_ok X G (c.fact 24 (f := .glo "_law_well") rfl)
  obtain ⟨fd24, F24⟩ := c.def_ 24 (d := d_l_well) rfl
  have F24 : FunD (tbK K).K "_law_well" "_law_well" (defArgs (tp 27)) (defBody (tp 27)) (defScope (tp 27)) [] [] ((tbK K).fA 1003) fd24 := F24
  have m25 : mg "_law_drawn" = some (.ref ((tbK K).fA 1010)) := He.glo_ok X G (c.fact 25 (f := .glo "_law_drawn") rfl)
  obtain ⟨fd25, F25⟩ := c.def_ 25 (d := d_l_drawn) rfl
  have F25 : FunD (tbK K).K "_law_drawn" "_law_drawn" (defArgs (tp 31)) (defBody (tp 31)) (defScope (tp 31)) [] [] ((tbK K).fA 1010) fd25 := F25
  have m26 : mg "_law_places_right" = some (.ref ((tbK K).fA 1011)) := He.glo_ok X G (c.fact 26 (f := .glo "_law_places_right") rfl)
  obtain ⟨fd26, F26⟩ := c.def_ 26 (d := d_l_places_right) rfl
  have F26 : FunD (tbK K).K "_law_places_right" "_law_places_right" (defArgs (tp 33)) (defBody (tp 33)) (defScope (tp 33)) [] [] ((tbK K).fA 1011) fd26 := F26
  have m27 : mg "_law_counts_right" = some (.ref ((tbK K).fA 1012)) := He.glo_ok X G (c.fact 27 (f := .glo "_law_counts_right") rfl)
  obtain ⟨fd27, F27⟩ := c.def_ 27 (d := d_l_counts_right) rfl
  have F27 : FunD (tbK K).K "_law_counts_right" "_law_counts_right" (defArgs (tp 32)) (defBody (tp 32)) (defScope (tp 32)) [] [] ((tbK K).fA 1012) fd27 := F27
  have m28 : mg "_law_ends_right" = some (.ref ((tbK K).fA 1013)) := He.glo_ok X G (c.fact 28 (f := .glo "_law_ends_right") rfl)
  obtain ⟨fd28, F28⟩ := c.def_ 28 (d := d_l_ends_right) rfl
  have F28 : FunD (tbK K).K "_law_ends_right" "_law_ends_right" (defArgs (tp 34)) (defBody (tp 34)) (defScope (tp 34)) [] [] ((tbK K).fA 1013) fd28 := F28
  have m29 : mg "law" = some (.ref ((tbK K).fA 1014)) := He.glo_ok X G (c.fact 29 (f := .glo "law") rfl)
  obtain ⟨fd29, F29⟩ := c.def_ 29 (d := d_law) rfl
  have F29 : FunD (tbK K).K "law" "law" (defArgs (tp 35)) (defBody (tp 35)) (defScope (tp 35)) [] [] ((tbK K).fA 1014) fd29 := F29
  have ef := hfa.symm.trans m29
  cases ef
  refine ⟨fd29, fun s u => FunD.bindsA (ps := ["_law_script_here"]) F29 (fun _ _ _ _ _ _ us hl => match us, hl with | [_], _ => rfl) s [u] rfl, fun base => ?_⟩
  have l0 : Lv P w (tbK K) gm mg base 0 [] := Lv.nil
  have og0 : OkG W_is_integer (tbK K) gm P w mg base 0 := by
    refine ⟨fr, fun p hp => l0 p hp, (fun p hp => by cases hp), (fun p hp => by cases hp), (fun p hp => by cases hp), rfl, (fun z => by cases z)⟩
  have g0 : Good P w (tbK K) mg base 1 1 (gm.fn 1) := good_mk F0 sc_is_integer og0 rfl rfl ck_is_integer (b_is_integer.d m_is_integer) fun _ _ _ _ _ _ us hl => match us, hl with | [_], _ => rfl
  have l1 : Lv P w (tbK K) gm mg base 1 [(1, "is_integer")] := l0.cons g0 m0
  have og1 : OkG W_is_between (tbK K) gm P w mg base 1 := by
    refine ⟨fr, fun p hp => l1 p hp, (fun p hp => by cases hp), (fun p hp => by cases hp), (fun p hp => by cases hp), rfl, (fun z => by cases z)⟩
  have g1 : Good P w (tbK K) mg base 2 6 (gm.fn 6) := good_mk F1 sc_is_between og1 rfl rfl ck_is_between ((b_is_between (gam_at rfl)).d m_is_between) fun _ _ _ _ _ _ us hl => match us, hl with | [_, _, _], _ => rfl
  have l2 : Lv P w (tbK K) gm mg base 2 [(6, "is_between"), (1, "is_integer")] := l1.cons g1 m1
  have og2 : OkG W_check_between (tbK K) gm P w mg base 2 := by
    refine ⟨fr, fun p hp => l2 p hp, (fun p hp => by cases hp), (fun p hp => by cases hp), (fun p hp => by cases hp), rfl, (fun z => by cases z)⟩
  have g2 : Good P w (tbK K) mg base 3 11 (gm.fn 11) := good_mk F2 sc_check_between og2 rfl rfl ck_check_between ((b_check_between (gam_at rfl)).d m_check_between) fun _ _ _ _ _ _ us hl => match us, hl with | [_, _, _, _], _ => rfl
  have l3 : Lv P w (tbK K) gm mg base 3 [(11, "check_between"), (6, "is_between"), (1, "is_integer")] := l2.cons g2 m2
  have og3 : OkG W_floors (tbK K) gm P w mg base 3 := by
    refine ⟨fr, fun p hp => l3 p hp, (fun p hp => by cases hp), (fun p hp => by cases hp), (fun p hp => by cases hp), rfl, (fun z => by cases z)⟩
  have g3 : Good P w (tbK K) mg base 4 0 (gm.fn 0) := good_mk F3 sc_floors og3 rfl rfl ck_floors (b_floors.d m_floors) fun _ _ _ _ _ _ us hl => match us, hl with | [_, _, _, _], _ => rfl
  have l4 : Lv P w (tbK K) gm mg base 4 [(0, "floors"), (11, "check_between"), (6, "is_between"), (1, "is_integer")] := l3.cons g3 m3
  have og4 : OkG W_floors_of (tbK K) gm P w mg base 4 := by
    refine ⟨fr, fun p hp => l4 p hp, (fun p hp => by cases hp), (fun p hp => by cases hp), (fun p hp => by cases hp), rfl, (fun z => by cases z)⟩
  have g4 : Good P w (tbK K) mg base 5 3 (gm.fn 3) := good_mk F4 sc_floors_of og4 rfl rfl ck_floors_of ((b_floors_of (gam_at rfl)).d m_floors_of) fun _ _ _ _ _ _ us hl => match us, hl with | [_, _, _, _, _], _ => rfl
  have l5 : Lv P w (tbK K) gm mg base 5 [(3, "floors_of"), (0, "floors"), (11, "check_between"), (6, "is_between"), (1, "is_integer")] := l4.cons g4 m4
  have og5 : OkG W_count_of (tbK K) gm P w mg base 5 := by
    refine ⟨fr, fun p hp => l5 p hp, (fun p hp => by cases hp), (fun p hp => by cases hp), (fun p hp => by cases hp), rfl, (fun z => by cases z)⟩
  have g5 : Good P w (tbK K) mg base 6 8 (gm.fn 8) := good_mk F5 sc_count_of og5 rfl rfl ck_count_of ((b_count_of (gam_at rfl)).d m_count_of) fun _ _ _ _ _ _ us hl => match us, hl with | [_, _, _, _, _, _, _], _ => rfl
  have l6 : Lv P w (tbK K) gm mg base 6 [(8, "count_of"), (3, "floors_of"), (0, "floors"), (11, "check_between"), (6, "is_between"), (1, "is_integer")] := l5.cons g5 m5
  have og6 : OkG W_around (tbK K) gm P w mg base 6 := by
    refine ⟨fr, fun p hp => l6 p hp, (fun p hp => by cases hp), (fun p hp => by cases hp), (fun p hp => by cases hp), rfl, (fun z => by cases z)⟩
  have g6 : Good P w (tbK K) mg base 7 7 (gm.fn 7) := good_mk F6 sc_around og6 rfl rfl ck_around (b_around.d m_around) fun _ _ _ _ _ _ us hl => match us, hl with | [_, _, _, _, _], _ => rfl
  have l7 : Lv P w (tbK K) gm mg base 7 [(7, "around"), (8, "count_of"), (3, "floors_of"), (0, "floors"), (11, "check_between"), (6, "is_between"), (1, "is_integer")] := l6.cons g6 m6
  have og7 : OkG W_hits_of (tbK K) gm P w mg base 7 := by
    refine ⟨fr, fun p hp => l7 p hp, (fun p hp => by cases hp), (fun p hp => by cases hp), (fun p hp => by cases hp), rfl, (fun z => by cases z)⟩
  have g7 : Good P w (tbK K) mg base 8 9 (gm.fn 9) := good_mk F7 sc_hits_of og7 rfl rfl ck_hits_of ((b_hits_of (gam_at rfl) (gam_at rfl)).d m_hits_of) fun _ _ _ _ _ _ us hl => match us, hl with | [_, _, _, _, _, _, _], _ => rfl
  have l8 : Lv P w (tbK K) gm mg base 8 [(9, "hits_of"), (7, "around"), (8, "count_of"), (3, "floors_of"), (0, "floors"), (11, "check_between"), (6, "is_between"), (1, "is_integer")] := l7.cons g7 m7
  have og8 : OkG W_nth_of (tbK K) gm P w mg base 8 := by
    refine ⟨fr, fun p hp => l8 p hp, (fun p hp => by cases hp), (fun p hp => by cases hp), (fun p hp => by cases hp), rfl, (fun z => by cases z)⟩
  have g8 : Good P w (tbK K) mg base 9 10 (gm.fn 10) := good_mk F8 sc_nth_of og8 rfl rfl ck_nth_of ((b_nth_of (gam_at rfl) (gam_at rfl)).d m_nth_of) fun _ _ _ _ _ _ us hl => match us, hl with | [_, _, _, _, _, _, _, _], _ => rfl
  have l9 : Lv P w (tbK K) gm mg base 9 [(10, "nth_of"), (9, "hits_of"), (7, "around"), (8, "count_of"), (3, "floors_of"), (0, "floors"), (11, "check_between"), (6, "is_between"), (1, "is_integer")] := l8.cons g8 m8
  have og9 : OkG W_first_of (tbK K) gm P w mg base 9 := by
    refine ⟨fr, fun p hp => l9 p hp, (fun p hp => by cases hp), (fun p hp => by cases hp), (fun p hp => by cases hp), rfl, (fun z => by cases z)⟩
  have g9 : Good P w (tbK K) mg base 10 13 (gm.fn 13) := good_mk F9 sc_first_of og9 rfl rfl ck_first_of ((b_first_of (gam_at rfl) (gam_at rfl)).d m_first_of) fun _ _ _ _ _ _ us hl => match us, hl with | [_, _, _, _, _, _, _], _ => rfl
  have l10 : Lv P w (tbK K) gm mg base 10 [(13, "first_of"), (10, "nth_of"), (9, "hits_of"), (7, "around"), (8, "count_of"), (3, "floors_of"), (0, "floors"), (11, "check_between"), (6, "is_between"), (1, "is_integer")] := l9.cons g9 m9
  have og10 : OkG W_check_range (tbK K) gm P w mg base 10 := by
    refine ⟨fr, fun p hp => l10 p hp, (fun p hp => by cases hp), (fun p hp => by cases hp), (fun p hp => by cases hp), rfl, (fun z => by cases z)⟩
  have g10 : Good P w (tbK K) mg base 11 2 (gm.fn 2) := good_mk F10 sc_check_range og10 rfl rfl ck_check_range ((b_check_range (gam_at rfl)).d m_check_range) fun _ _ _ _ _ _ us hl => match us, hl with | [_, _, _], _ => rfl
  have l11 : Lv P w (tbK K) gm mg base 11 [(2, "check_range"), (13, "first_of"), (10, "nth_of"), (9, "hits_of"), (7, "around"), (8, "count_of"), (3, "floors_of"), (0, "floors"), (11, "check_between"), (6, "is_between"), (1, "is_integer")] := l10.cons g10 m10
  have og11 : OkG W_check_residues (tbK K) gm P w mg base 11 := by
    refine ⟨fr, fun p hp => l11 p hp, (fun p hp => by cases hp), (fun p hp => by cases hp), (fun p hp => by cases hp), rfl, (fun z => by cases z)⟩
  have g11 : Good P w (tbK K) mg base 12 12 (gm.fn 12) := good_mk F11 sc_check_residues og11 rfl rfl ck_check_residues ((b_check_residues (gam_at rfl) (gam_at rfl)).d m_check_residues) fun _ _ _ _ _ _ us hl => match us, hl with | [_, _, _, _, _], _ => rfl
  have l12 : Lv P w (tbK K) gm mg base 12 [(12, "check_residues"), (2, "check_range"), (13, "first_of"), (10, "nth_of"), (9, "hits_of"), (7, "around"), (8, "count_of"), (3, "floors_of"), (0, "floors"), (11, "check_between"), (6, "is_between"), (1, "is_integer")] := l11.cons g11 m11
  have og12 : OkG W_hits (tbK K) gm P w mg base 12 := by
    refine ⟨fr, fun p hp => l12 p hp, (fun p hp => by cases hp), (fun p hp => by cases hp), (fun p hp => by cases hp), rfl, (fun z => by cases z)⟩
  have g12 : Good P w (tbK K) mg base 13 14 (gm.fn 14) := good_mk F12 sc_hits og12 rfl rfl ck_hits ((b_hits (gam_at rfl) (gam_at rfl)).d m_hits) fun _ _ _ _ _ _ us hl => match us, hl with | [_, _, _, _, _], _ => rfl
  have l13 : Lv P w (tbK K) gm mg base 13 [(14, "hits"), (12, "check_residues"), (2, "check_range"), (13, "first_of"), (10, "nth_of"), (9, "hits_of"), (7, "around"), (8, "count_of"), (3, "floors_of"), (0, "floors"), (11, "check_between"), (6, "is_between"), (1, "is_integer")] := l12.cons g12 m12
  have og13 : OkG W_first_hit (tbK K) gm P w mg base 13 := by
    refine ⟨fr, fun p hp => l13 p hp, (fun p hp => by cases hp), (fun p hp => by cases hp), (fun p hp => by cases hp), rfl, (fun z => by cases z)⟩
  have g13 : Good P w (tbK K) mg base 14 16 (gm.fn 16) := good_mk F13 sc_first_hit og13 rfl rfl ck_first_hit ((b_first_hit (gam_at rfl) (gam_at rfl)).d m_first_hit) fun _ _ _ _ _ _ us hl => match us, hl with | [_, _, _, _, _], _ => rfl
  have l14 : Lv P w (tbK K) gm mg base 14 [(16, "first_hit"), (14, "hits"), (12, "check_residues"), (2, "check_range"), (13, "first_of"), (10, "nth_of"), (9, "hits_of"), (7, "around"), (8, "count_of"), (3, "floors_of"), (0, "floors"), (11, "check_between"), (6, "is_between"), (1, "is_integer")] := l13.cons g13 m13
  have og14 : OkG W_last_hit (tbK K) gm P w mg base 14 := by
    refine ⟨fr, fun p hp => l14 p hp, (fun p hp => by cases hp), (fun p hp => by cases hp), (fun p hp => by cases hp), rfl, (fun z => by cases z)⟩
  have g14 : Good P w (tbK K) mg base 15 15 (gm.fn 15) := good_mk F14 sc_last_hit og14 rfl rfl ck_last_hit ((b_last_hit (gam_at rfl) (gam_at rfl)).d m_last_hit) fun _ _ _ _ _ _ us hl => match us, hl with | [_, _, _, _, _], _ => rfl
  have l15 : Lv P w (tbK K) gm mg base 15 [(15, "last_hit"), (16, "first_hit"), (14, "hits"), (12, "check_residues"), (2, "check_range"), (13, "first_of"), (10, "nth_of"), (9, "hits_of"), (7, "around"), (8, "count_of"), (3, "floors_of"), (0, "floors"), (11, "check_between"), (6, "is_between"), (1, "is_integer")] := l14.cons g14 m14
  have og15 : OkG W_hit_at (tbK K) gm P w mg base 15 := by
    refine ⟨fr, fun p hp => l15 p hp, (fun p hp => by cases hp), (fun p hp => by cases hp), (fun p hp => by cases hp), rfl, (fun z => by cases z)⟩
  have g15 : Good P w (tbK K) mg base 16 17 (gm.fn 17) := good_mk F15 sc_hit_at og15 rfl rfl ck_hit_at ((b_hit_at (gam_at rfl) (gam_at rfl) (gam_at rfl)).d m_hit_at) fun _ _ _ _ _ _ us hl => match us, hl with | [_, _, _, _, _, _], _ => rfl
  have l16 : Lv P w (tbK K) gm mg base 16 [(17, "hit_at"), (15, "last_hit"), (16, "first_hit"), (14, "hits"), (12, "check_residues"), (2, "check_range"), (13, "first_of"), (10, "nth_of"), (9, "hits_of"), (7, "around"), (8, "count_of"), (3, "floors_of"), (0, "floors"), (11, "check_between"), (6, "is_between"), (1, "is_integer")] := l15.cons g15 m15
  have og16 : OkG W_near_of (tbK K) gm P w mg base 16 := by
    refine ⟨fr, fun p hp => l16 p hp, (fun p hp => by cases hp), (fun p hp => by cases hp), (fun p hp => by cases hp), rfl, (fun z => by cases z)⟩
  have g16 : Good P w (tbK K) mg base 17 18 (gm.fn 18) := good_mk F16 sc_near_of og16 rfl rfl ck_near_of ((b_near_of (gam_at rfl)).d m_near_of) fun _ _ _ _ _ _ us hl => match us, hl with | [_, _, _, _, _, _, _], _ => rfl
  have l17 : Lv P w (tbK K) gm mg base 17 [(18, "near_of"), (17, "hit_at"), (15, "last_hit"), (16, "first_hit"), (14, "hits"), (12, "check_residues"), (2, "check_range"), (13, "first_of"), (10, "nth_of"), (9, "hits_of"), (7, "around"), (8, "count_of"), (3, "floors_of"), (0, "floors"), (11, "check_between"), (6, "is_between"), (1, "is_integer")] := l16.cons g16 m16
  have og17 : OkG W_nearest_of (tbK K) gm P w mg base 17 := by
    refine ⟨fr, fun p hp => l17 p hp, (fun p hp => by cases hp), (fun p hp => by cases hp), (fun p hp => by cases hp), rfl, (fun z => by cases z)⟩
  have g17 : Good P w (tbK K) mg base 18 20 (gm.fn 20) := good_mk F17 sc_nearest_of og17 rfl rfl ck_nearest_of ((b_nearest_of (gam_at rfl) (gam_at rfl)).d m_nearest_of) fun _ _ _ _ _ _ us hl => match us, hl with | [_, _, _, _, _, _, _, _], _ => rfl
  have l18 : Lv P w (tbK K) gm mg base 18 [(20, "nearest_of"), (18, "near_of"), (17, "hit_at"), (15, "last_hit"), (16, "first_hit"), (14, "hits"), (12, "check_residues"), (2, "check_range"), (13, "first_of"), (10, "nth_of"), (9, "hits_of"), (7, "around"), (8, "count_of"), (3, "floors_of"), (0, "floors"), (11, "check_between"), (6, "is_between"), (1, "is_integer")] := l17.cons g17 m17
  have og18 : OkG W_least_residue (tbK K) gm P w mg base 18 := by
    refine ⟨fr, fun p hp => l18 p hp, (fun p hp => by cases hp), (fun p hp => by cases hp), (fun p hp => by cases hp), rfl, (fun z => by cases z)⟩
  have g18 : Good P w (tbK K) mg base 19 19 (gm.fn 19) := good_mk F18 sc_least_residue og18 rfl rfl ck_least_residue ((b_least_residue (gam_at rfl) (gam_at rfl) (gam_at rfl)).d m_least_residue) fun _ _ _ _ _ _ us hl => match us, hl with | [_, _, _], _ => rfl
  have l19 : Lv P w (tbK K) gm mg base 19 [(19, "least_residue"), (20, "nearest_of"), (18, "near_of"), (17, "hit_at"), (15, "last_hit"), (16, "first_hit"), (14, "hits"), (12, "check_residues"), (2, "check_range"), (13, "first_of"), (10, "nth_of"), (9, "hits_of"), (7, "around"), (8, "count_of"), (3, "floors_of"), (0, "floors"), (11, "check_between"), (6, "is_between"), (1, "is_integer")] := l18.cons g18 m18
  have og19 : OkG W_greatest_residue (tbK K) gm P w mg base 19 := by
    refine ⟨fr, fun p hp => l19 p hp, (fun p hp => by cases hp), (fun p hp => by cases hp), (fun p hp => by cases hp), rfl, (fun z => by cases z)⟩
  have g19 : Good P w (tbK K) mg base 20 21 (gm.fn 21) := good_mk F19 sc_greatest_residue og19 rfl rfl ck_greatest_residue ((b_greatest_residue (gam_at rfl) (gam_at rfl)).d m_greatest_residue) fun _ _ _ _ _ _ us hl => match us, hl with | [_, _, _], _ => rfl
  have l20 : Lv P w (tbK K) gm mg base 20 [(21, "greatest_residue"), (19, "least_residue"), (20, "nearest_of"), (18, "near_of"), (17, "hit_at"), (15, "last_hit"), (16, "first_hit"), (14, "hits"), (12, "check_residues"), (2, "check_range"), (13, "first_of"), (10, "nth_of"), (9, "hits_of"), (7, "around"), (8, "count_of"), (3, "floors_of"), (0, "floors"), (11, "check_between"), (6, "is_between"), (1, "is_integer")] := l19.cons g19 m19
  have og20 : OkG W_nearest (tbK K) gm P w mg base 20 := by
    refine ⟨fr, fun p hp => l20 p hp, (fun p hp => by cases hp), (fun p hp => by cases hp), (fun p hp => by cases hp), rfl, (fun z => by cases z)⟩
  have kk_nearest_0 : GoodK P w (tbK K) mg base 21 22 4 ["apart"] [0, 1, 2, 3, 4] (gm.fn 22) := goodK_mk F20 sc_nearest og20 rfl rfl ck_nearest ((b_nearest (gam_at rfl) (gam_at rfl) (gam_at rfl)).d m_nearest) fun _ _ _ _ _ _ us ws h1 h2 => match us, ws, h1, h2 with | [_, _, _, _], [_], _, _ => rfl
  have dd_nearest_0 : GoodD P w (tbK K) mg base 21 22 [(.bl false)] (gm.fn 22) := goodD_mk (j := 4) F20 sc_nearest og20 rfl rfl ck_nearest ((b_nearest (gam_at rfl) (gam_at rfl) (gam_at rfl)).d m_nearest) (by decide) rfl (fun F => .cons .bl .nil) fun _ _ _ _ _ _ us ks h1 h2 => match us, ks, h1, h2 with | [_, _, _, _], [_], _, _ => ⟨_, _, _, _, _, _, rfl, rfl, rfl⟩
  have l21 : Lv P w (tbK K) gm mg base 21 [(21, "greatest_residue"), (19, "least_residue"), (20, "nearest_of"), (18, "near_of"), (17, "hit_at"), (15, "last_hit"), (16, "first_hit"), (14, "hits"), (12, "check_residues"), (2, "check_range"), (13, "first_of"), (10, "nth_of"), (9, "hits_of"), (7, "around"), (8, "count_of"), (3, "floors_of"), (0, "floors"), (11, "check_between"), (6, "is_between"), (1, "is_integer")] := l20.up
  have og21 : OkG W_l_draw (tbK K) gm P w mg base 21 := by
    refine ⟨fr, fun p hp => l21 p hp, (fun p hp => by
      unfold W_l_draw at hp
      simp only [List.mem_cons, List.not_mem_nil, or_false] at hp
      rcases hp with rfl
      · exact ⟨kk_nearest_0.mono (by decide), m20⟩), (fun p hp => by
      unfold W_l_draw at hp
      simp only [List.mem_cons, List.not_mem_nil, or_false] at hp
      rcases hp with rfl
      · exact ⟨dd_nearest_0.mono (by decide), m20⟩), (fun p hp => by cases hp), rfl, (fun z => by cases z)⟩
  have g21 : Good P w (tbK K) mg base 22 1000 (gm.fn 1000) := good_mk F21 sc_l_draw og21 rfl rfl ck_l_draw (b_draw.d m_draw) fun _ _ _ _ _ _ us hl => match us, hl with | [_, _], _ => rfl
  have l22 : Lv P w (tbK K) gm mg base 22 [(1000, "_law_draw"), (21, "greatest_residue"), (19, "least_residue"), (20, "nearest_of"), (18, "near_of"), (17, "hit_at"), (15, "last_hit"), (16, "first_hit"), (14, "hits"), (12, "check_residues"), (2, "check_range"), (13, "first_of"), (10, "nth_of"), (9, "hits_of"), (7, "around"), (8, "count_of"), (3, "floors_of"), (0, "floors"), (11, "check_between"), (6, "is_between"), (1, "is_integer")] := l21.cons g21 m21
  have og22 : OkG W_l_pick (tbK K) gm P w mg base 22 := by
    refine ⟨fr, fun p hp => l22 p hp, (fun p hp => by
      unfold W_l_pick at hp
      simp only [List.mem_cons, List.not_mem_nil, or_false] at hp
      rcases hp with rfl
      · exact ⟨kk_nearest_0.mono (by decide), m20⟩), (fun p hp => by
      unfold W_l_pick at hp
      simp only [List.mem_cons, List.not_mem_nil, or_false] at hp
      rcases hp with rfl
      · exact ⟨dd_nearest_0.mono (by decide), m20⟩), (fun p hp => by cases hp), rfl, (fun z => by cases z)⟩
  have g22 : Good P w (tbK K) mg base 23 1001 (gm.fn 1001) := good_mk F22 sc_l_pick og22 rfl rfl ck_l_pick ((b_pick (gam_at rfl)).d m_pick) fun _ _ _ _ _ _ us hl => match us, hl with | [_, _], _ => rfl
  have l23 : Lv P w (tbK K) gm mg base 23 [(1001, "_law_pick"), (1000, "_law_draw"), (21, "greatest_residue"), (19, "least_residue"), (20, "nearest_of"), (18, "near_of"), (17, "hit_at"), (15, "last_hit"), (16, "first_hit"), (14, "hits"), (12, "check_residues"), (2, "check_range"), (13, "first_of"), (10, "nth_of"), (9, "hits_of"), (7, "around"), (8, "count_of"), (3, "floors_of"), (0, "floors"), (11, "check_between"), (6, "is_between"), (1, "is_integer")] := l22.cons g22 m22
  have og23 : OkG W_l_script (tbK K) gm P w mg base 23 := by
    refine ⟨fr, fun p hp => l23 p hp, (fun p hp => by
      unfold W_l_script at hp
      simp only [List.mem_cons, List.not_mem_nil, or_false] at hp
      rcases hp with rfl
      · exact ⟨kk_nearest_0.mono (by decide), m20⟩), (fun p hp => by
      unfold W_l_script at hp
      simp only [List.mem_cons, List.not_mem_nil, or_false] at hp
      rcases hp with rfl
      · exact ⟨dd_nearest_0.mono (by decide), m20⟩), (fun p hp => by cases hp), rfl, (fun z => by cases z)⟩
  have g23 : Good P w (tbK K) mg base 24 1002 (gm.fn 1002) := good_mk F23 sc_l_script og23 rfl rfl ck_l_script (b_script.d m_script) fun _ _ _ _ _ _ us hl => match us, hl with | [_, _], _ => rfl
  have l24 : Lv P w (tbK K) gm mg base 24 [(1002, "_law_script"), (1001, "_law_pick"), (1000, "_law_draw"), (21, "greatest_residue"), (19, "least_residue"), (20, "nearest_of"), (18, "near_of"), (17, "hit_at"), (15, "last_hit"), (16, "first_hit"), (14, "hits"), (12, "check_residues"), (2, "check_range"), (13, "first_of"), (10, "nth_of"), (9, "hits_of"), (7, "around"), (8, "count_of"), (3, "floors_of"), (0, "floors"), (11, "check_between"), (6, "is_between"), (1, "is_integer")] := l23.cons g23 m23
  have og24 : OkG W_l_well (tbK K) gm P w mg base 24 := by
    refine ⟨fr, fun p hp => l24 p hp, (fun p hp => by
      unfold W_l_well at hp
      simp only [List.mem_cons, List.not_mem_nil, or_false] at hp
      rcases hp with rfl
      · exact ⟨kk_nearest_0.mono (by decide), m20⟩), (fun p hp => by
      unfold W_l_well at hp
      simp only [List.mem_cons, List.not_mem_nil, or_false] at hp
      rcases hp with rfl
      · exact ⟨dd_nearest_0.mono (by decide), m20⟩), (fun p hp => by cases hp), rfl, (fun z => by cases z)⟩
  have g24 : Good P w (tbK K) mg base 25 1003 (gm.fn 1003) := good_mk F24 sc_l_well og24 rfl rfl ck_l_well (b_well.d m_well) fun _ _ _ _ _ _ us hl => match us, hl with | [_], _ => rfl
  have l25 : Lv P w (tbK K) gm mg base 25 [(1003, "_law_well"), (1002, "_law_script"), (1001, "_law_pick"), (1000, "_law_draw"), (21, "greatest_residue"), (19, "least_residue"), (20, "nearest_of"), (18, "near_of"), (17, "hit_at"), (15, "last_hit"), (16, "first_hit"), (14, "hits"), (12, "check_residues"), (2, "check_range"), (13, "first_of"), (10, "nth_of"), (9, "hits_of"), (7, "around"), (8, "count_of"), (3, "floors_of"), (0, "floors"), (11, "check_between"), (6, "is_between"), (1, "is_integer")] := l24.cons g24 m24
  have og25 : OkG W_l_drawn (tbK K) gm P w mg base 25 := by
    refine ⟨fr, fun p hp => l25 p hp, (fun p hp => by
      unfold W_l_drawn at hp
      simp only [List.mem_cons, List.not_mem_nil, or_false] at hp
      rcases hp with rfl
      · exact ⟨kk_nearest_0.mono (by decide), m20⟩), (fun p hp => by
      unfold W_l_drawn at hp
      simp only [List.mem_cons, List.not_mem_nil, or_false] at hp
      rcases hp with rfl
      · exact ⟨dd_nearest_0.mono (by decide), m20⟩), (fun p hp => by cases hp), rfl, (fun z => by cases z)⟩
  have g25 : Good P w (tbK K) mg base 26 1010 (gm.fn 1010) := good_mk F25 sc_l_drawn og25 rfl rfl ck_l_drawn ((b_drawn (gam_at rfl) (gam_at rfl) ).d m_drawn) fun _ _ _ _ _ _ us hl => match us, hl with | [_], _ => rfl
  have l26 : Lv P w (tbK K) gm mg base 26 [(1010, "_law_drawn"), (1003, "_law_well"), (1002, "_law_script"), (1001, "_law_pick"), (1000, "_law_draw"), (21, "greatest_residue"), (19, "least_residue"), (20, "nearest_of"), (18, "near_of"), (17, "hit_at"), (15, "last_hit"), (16, "first_hit"), (14, "hits"), (12, "check_residues"), (2, "check_range"), (13, "first_of"), (10, "nth_of"), (9, "hits_of"), (7, "around"), (8, "count_of"), (3, "floors_of"), (0, "floors"), (11, "check_between"), (6, "is_between"), (1, "is_integer")] := l25.cons g25 m25
  have og26 : OkG W_l_places_right (tbK K) gm P w mg base 26 := by
    refine ⟨fr, fun p hp => l26 p hp, (fun p hp => by
      unfold W_l_places_right at hp
      simp only [List.mem_cons, List.not_mem_nil, or_false] at hp
      rcases hp with rfl
      · exact ⟨kk_nearest_0.mono (by decide), m20⟩), (fun p hp => by
      unfold W_l_places_right at hp
      simp only [List.mem_cons, List.not_mem_nil, or_false] at hp
      rcases hp with rfl
      · exact ⟨dd_nearest_0.mono (by decide), m20⟩), (fun p hp => by cases hp), rfl, (fun z => by cases z)⟩
  have g26 : Good P w (tbK K) mg base 27 1011 (gm.fn 1011) := good_mk F26 sc_l_places_right og26 rfl rfl ck_l_places_right ((b_places (gam_at rfl) (gam_at rfl) (gam_at rfl) (gam_at rfl) (gam_at rfl) (gam_at rfl) ).d m_places) fun _ _ _ _ _ _ us hl => match us, hl with | [_, _], _ => rfl
  have l27 : Lv P w (tbK K) gm mg base 27 [(1011, "_law_places_right"), (1010, "_law_drawn"), (1003, "_law_well"), (1002, "_law_script"), (1001, "_law_pick"), (1000, "_law_draw"), (21, "greatest_residue"), (19, "least_residue"), (20, "nearest_of"), (18, "near_of"), (17, "hit_at"), (15, "last_hit"), (16, "first_hit"), (14, "hits"), (12, "check_residues"), (2, "check_range"), (13, "first_of"), (10, "nth_of"), (9, "hits_of"), (7, "around"), (8, "count_of"), (3, "floors_of"), (0, "floors"), (11, "check_between"), (6, "is_between"), (1, "is_integer")] := l26.cons g26 m26
  have og27 : OkG W_l_counts_right (tbK K) gm P w mg base 27 := by
    refine ⟨fr, fun p hp => l27 p hp, (fun p hp => by
      unfold W_l_counts_right at hp
      simp only [List.mem_cons, List.not_mem_nil, or_false] at hp
      rcases hp with rfl
      · exact ⟨kk_nearest_0.mono (by decide), m20⟩), (fun p hp => by
      unfold W_l_counts_right at hp
      simp only [List.mem_cons, List.not_mem_nil, or_false] at hp
      rcases hp with rfl
      · exact ⟨dd_nearest_0.mono (by decide), m20⟩), (fun p hp => by cases hp), rfl, (fun z => by cases z)⟩
  have g27 : Good P w (tbK K) mg base 28 1012 (gm.fn 1012) := good_mk F27 sc_l_counts_right og27 rfl rfl ck_l_counts_right ((b_counts (gam_at rfl) (gam_at rfl) ).d m_counts) fun _ _ _ _ _ _ us hl => match us, hl with | [_, _], _ => rfl
  have l28 : Lv P w (tbK K) gm mg base 28 [(1012, "_law_counts_right"), (1011, "_law_places_right"), (1010, "_law_drawn"), (1003, "_law_well"), (1002, "_law_script"), (1001, "_law_pick"), (1000, "_law_draw"), (21, "greatest_residue"), (19, "least_residue"), (20, "nearest_of"), (18, "near_of"), (17, "hit_at"), (15, "last_hit"), (16, "first_hit"), (14, "hits"), (12, "check_residues"), (2, "check_range"), (13, "first_of"), (10, "nth_of"), (9, "hits_of"), (7, "around"), (8, "count_of"), (3, "floors_of"), (0, "floors"), (11, "check_between"), (6, "is_between"), (1, "is_integer")] := l27.cons g27 m27
  have og28 : OkG W_l_ends_right (tbK K) gm P w mg base 28 := by
    refine ⟨fr, fun p hp => l28 p hp, (fun p hp => by
      unfold W_l_ends_right at hp
      simp only [List.mem_cons, List.not_mem_nil, or_false] at hp
      rcases hp with rfl
      · exact ⟨kk_nearest_0.mono (by decide), m20⟩), (fun p hp => by
      unfold W_l_ends_right at hp
      simp only [List.mem_cons, List.not_mem_nil, or_false] at hp
      rcases hp with rfl
      · exact ⟨dd_nearest_0.mono (by decide), m20⟩), (fun p hp => by cases hp), rfl, (fun z => by cases z)⟩
  have g28 : Good P w (tbK K) mg base 29 1013 (gm.fn 1013) := good_mk F28 sc_l_ends_right og28 rfl rfl ck_l_ends_right ((b_ends (gam_at rfl) (gam_at rfl) (gam_at rfl) (gam_at rfl) (gam_at rfl) ).d m_ends) fun _ _ _ _ _ _ us hl => match us, hl with | [_, _], _ => rfl
  have l29 : Lv P w (tbK K) gm mg base 29 [(1013, "_law_ends_right"), (1012, "_law_counts_right"), (1011, "_law_places_right"), (1010, "_law_drawn"), (1003, "_law_well"), (1002, "_law_script"), (1001, "_law_pick"), (1000, "_law_draw"), (21, "greatest_residue"), (19, "least_residue"), (20, "nearest_of"), (18, "near_of"), (17, "hit_at"), (15, "last_hit"), (16, "first_hit"), (14, "hits"), (12, "check_residues"), (2, "check_range"), (13, "first_of"), (10, "nth_of"), (9, "hits_of"), (7, "around"), (8, "count_of"), (3, "floors_of"), (0, "floors"), (11, "check_between"), (6, "is_between"), (1, "is_integer")] := l28.cons g28 m28
  have og29 : OkG W_law (tbK K) gm P w mg base 29 := by
    refine ⟨fr, fun p hp => l29 p hp, (fun p hp => by
      unfold W_law at hp
      simp only [List.mem_cons, List.not_mem_nil, or_false] at hp
      rcases hp with rfl
      · exact ⟨kk_nearest_0.mono (by decide), m20⟩), (fun p hp => by
      unfold W_law at hp
      simp only [List.mem_cons, List.not_mem_nil, or_false] at hp
      rcases hp with rfl
      · exact ⟨dd_nearest_0.mono (by decide), m20⟩), (fun p hp => by cases hp), rfl, (fun z => by cases z)⟩
  exact good_of F29 sc_law og29 rfl rfl ck_law ((b_law (gam_at rfl) (gam_at rfl) (gam_at rfl) (gam_at rfl) (gam_at rfl) (gam_at rfl) ).d m_law)
end
abbrev Rr : PySem.W.OpenRow := PySem.W.OpenLaw.row PySem.Challenge.rw_farfloats_k21_whole_ranges_cut_and_turne
abbrev hk : PySem.W.Hook := He.hookD 4 faL fnL
def ob (s : PySem.W.SharedT) : He.AlD := He.obsDG 4 faL fnL (HandSHeadRun.getT s)
theorem ob_eq (s : PySem.W.SharedT) : ob s = hk.obs s.abs := He.obsDG_eq (HandSHeadRun.getT_eq s)
theorem run_ (w : World) : HandSHeadRun.RunEq Rr (PySem.W.view Rr.prog [35]) hk ob 3000 ["FloatsError", "InvalidBound", "is_integer", "is_between", "check_between", "floors", "floors_of", "count_of", "around", "hits_of", "nth_of", "first_of", "near_of", "nearest_of", "check_range", "check_residues", "hits", "first_hit", "last_hit", "hit_at", "least_residue", "greatest_residue", "nearest", "_law_well", "_law_draw", "_law_pick", "_law_script", "_law_drawn", "_law_counts_right", "_law_places_right", "_law_ends_right"] w := by
  intro os
  kernel_rfl
end FF
open PySem PySem.W PySem.Calls PyProof.Rows
theorem PySem.Challenge.cw_farfloats_k21_whole_ranges_cut_and_turne_holds : PySem.Challenge.rw_farfloats_k21_whole_ranges_cut_and_turne.Holds := by
  w_on; o_law
  refine HandSHeadRun.head_any (r := OpenLaw.row PySem.Challenge.rw_farfloats_k21_whole_ranges_cut_and_turne) (q := view (OpenLaw.row PySem.Challenge.rw_farfloats_k21_whole_ranges_cut_and_turne).prog [35]) (H := FF.hk) (ob := FF.ob) (M := 3000) (loose := ["FloatsError", "InvalidBound", "is_integer", "is_between", "check_between", "floors", "floors_of", "count_of", "around", "hits_of", "nth_of", "first_of", "near_of", "nearest_of", "check_range", "check_residues", "hits", "first_hit", "last_hit", "hit_at", "least_residue", "greatest_residue", "nearest", "_law_well", "_law_draw", "_law_pick", "_law_script", "_law_drawn", "_law_counts_right", "_law_places_right", "_law_ends_right"]) (d := HandSHeadRun.topDef (OpenLaw.row PySem.Challenge.rw_farfloats_k21_whole_ranges_cut_and_turne).prog 35) (kwd := []) FF.ob_eq
    (by kernel_rfl) (fun s => by kernel_rfl) FF.run_ (by kernel_rfl) (by kernel_rfl) (by kernel_rfl) (by rfl) (by first | assumption | decide +kernel) (by decide +kernel) ⟨rfl, rfl, rfl, rfl, rfl, by decide +kernel⟩ ?hw ?hc
  case hw => w_witness2
  case hc =>
    refine FF.law_end (l := PySem.Challenge.rw_farfloats_k21_whole_ranges_cut_and_turne) (k := 30) (x := "_law_script_here") rfl (by kernel_rfl) ⟨rfl, by decide, by decide⟩ ?F
    intro w mg fa h Y G hmg0
    obtain ⟨K, KX, c⟩ := Y
    have hmg : mg ("law" : PySem.Str) = some (.ref fa) := by
      have e : (HandSHeadRun.topDef (OpenLaw.row PySem.Challenge.rw_farfloats_k21_whole_ranges_cut_and_turne).prog 35).name = ("law" : PySem.Str) := by kernel_rfl
      rw [← e]
      exact hmg0
    obtain ⟨fd, hb, hF⟩ := FF.facts (P := (PySem.Challenge.rw_farfloats_k21_whole_ranges_cut_and_turne).prog) (w := w) KX G c hmg
    exact ⟨FF.tbK K, fd, FF.sp_law, KX, hb, fun ns Q R hl hq => ⟨ns, rfl, by omega, hq⟩, fun base _ _ => hF base⟩

